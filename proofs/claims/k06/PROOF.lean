import PyProof.Rows.All
import Wide.All
import OpenK.AllK
import Wide.FinOn
import HandS.ForMost
import HandS.ForExc
import HandS.Wide
import KE.DataEq
import HandS.More
import HandS.Small
import HandS.Comp
import HandS.SortInts
import HandS.Strs
import HandS.IsInst
import KE.SortData
import HandS.SetFor
import HandS.TupSets
import PyProof.MaxThree
import HandS.ExcInit
import HandS.TryOnly
import HandS.Walk
import KE.KDictKeyed
import HandS.Codes
import HandS.OwnEq
import PyProof.InstNe
import HandS.NoneIn
import KE.KTryMore
import PySem.Challenge.RW_darkpace_k06_whole_histories
set_option Elab.async false
set_option linter.all false
set_option maxRecDepth 100000
set_option maxHeartbeats 2000000
namespace PL
open PySem PySem.Spec PyProof.Rows L2

/-! ### data without addresses -/
inductive D where
  | non | bl (b : Bool) | int (i : Int) | str (x : Str)
  | tup (xs : List D) | lst (xs : List D)
  | ptr (a : Addr)
  | obj (C : Addr) (fs : List (Str × D))
instance : Inhabited D := ⟨.non⟩
/-- what may change -/
inductive MO where
  | lst (ds : List D)
  | dK (kvs : List (Key × D))
  | ins (C : Addr) (fs : List (Str × D))
abbrev Cells := List (Addr × MO)
abbrev Gam := List (Option D)
abbrev AS := Addr → Prop

def KT (K : PySem.W.Frag) (a : Addr) (xs : List V) : Prop :=
  ∃ (o : Obj) (its : Array Value) (n : Nat), K.lookup a = some o ∧ o.cls = .type "tuple" ∧ o.data = .seq its n ∧ its.size ≤ sizeLine ∧ Vals xs its.toList
def KL (K : PySem.W.Frag) (a : Addr) (xs : List V) : Prop :=
  ∃ (o : Obj) (its : Array Value) (n : Nat), K.lookup a = some o ∧ o.cls = .type "list" ∧ o.dict = none ∧ o.data = .seq its n ∧ its.size ≤ sizeLine ∧ Vals xs its.toList
def RdT (K : PySem.W.Frag) (A : AS) (H : Hp) (a : Addr) (vs : List V) : Prop := (¬ A a ∧ Rd H a (.tup vs)) ∨ KT K a vs
def RdL (K : PySem.W.Frag) (A : AS) (H : Hp) (a : Addr) (vs : List V) : Prop := (¬ A a ∧ Rd H a (.lst vs)) ∨ KL K a vs
theorem RdT.sq {K : PySem.W.Frag} {A : AS} {H : Hp} {a : Addr} {vs : List V} (h : RdT K A H a vs) : SqT K H a vs := by
  rcases h with ⟨_, h⟩ | h
  · exact .inl h
  · exact .inr h
theorem RdL.sq {K : PySem.W.Frag} {A : AS} {H : Hp} {a : Addr} {vs : List V} (h : RdL K A H a vs) : SqL K H a vs := by
  rcases h with ⟨_, h⟩ | h
  · exact .inl h
  · exact .inr h

mutual
inductive Rep (K : PySem.W.Frag) (A : AS) (H : Hp) : V → D → Prop
  | non : Rep K A H .non .non
  | bl {b} : Rep K A H (.bl b) (.bl b)
  | int {i} : Rep K A H (.int i) (.int i)
  | str {x} : Rep K A H (.str x) (.str x)
  | tup {a vs ds} : RdT K A H a vs → Reps K A H vs ds → Rep K A H (.ref a) (.tup ds)
  | lst {a vs ds} : RdL K A H a vs → Reps K A H vs ds → Rep K A H (.ref a) (.lst ds)
  | ptr {a} : Rep K A H (.ref a) (.ptr a)
  | obj {a C dx fs gs} : ¬ A a → H a = some (.ins C dx fs) → RepF K A H fs gs → Rep K A H (.ref a) (.obj C gs)
inductive Reps (K : PySem.W.Frag) (A : AS) (H : Hp) : List V → List D → Prop
  | nil : Reps K A H [] []
  | cons {v d vs ds} : Rep K A H v d → Reps K A H vs ds → Reps K A H (v :: vs) (d :: ds)
inductive RepF (K : PySem.W.Frag) (A : AS) (H : Hp) : List (Str × V) → List (Str × D) → Prop
  | nil : RepF K A H [] []
  | cons {f v d fs gs} : Rep K A H v d → RepF K A H fs gs → RepF K A H ((f, v) :: fs) ((f, d) :: gs)
end

section
variable {K : PySem.W.Frag} {A A' : AS} {H H' : Hp}
/-- how a reading is carried to a later heap -/
structure To (A A' : AS) (H H' : Hp) : Prop where
  keep : ∀ b o, ¬ A b → H b = some o → H' b = some o
  av : ∀ b, A' b → A b ∨ H b = none
theorem To.rdt {a : Addr} {vs : List V} (t : To A A' H H') (h : RdT K A H a vs) : RdT K A' H' a vs := by
  rcases h with ⟨n, h⟩ | h
  · refine .inl ⟨fun z => ?_, ?_⟩
    · rcases t.av a z with q | q
      · exact n q
      · rcases h with h | ⟨o, h⟩ <;> (rw [q] at h; cases h)
    · rcases h with h | ⟨o, h⟩
      · exact .inl (t.keep a _ n h)
      · exact .inr ⟨o, t.keep a _ n h⟩
  · exact .inr h
theorem To.rdl {a : Addr} {vs : List V} (t : To A A' H H') (h : RdL K A H a vs) : RdL K A' H' a vs := by
  rcases h with ⟨n, h⟩ | h
  · refine .inl ⟨fun z => ?_, ?_⟩
    · rcases t.av a z with q | q
      · exact n q
      · rcases h with h | ⟨o, h⟩ <;> (rw [q] at h; cases h)
    · rcases h with h | ⟨o, h⟩
      · exact .inl (t.keep a _ n h)
      · exact .inr ⟨o, t.keep a _ n h⟩
  · exact .inr h
theorem To.ins {a : Addr} {o : HO} (t : To A A' H H') (n : ¬ A a) (h : H a = some o) : ¬ A' a ∧ H' a = some o := by
  refine ⟨fun z => ?_, t.keep a _ n h⟩
  rcases t.av a z with q | q
  · exact n q
  · rw [q] at h; cases h
theorem Rep.to (t : To A A' H H') {v : V} {d : D} (r : Rep K A H v d) : Rep K A' H' v d :=
  Rep.rec (motive_1 := fun v d _ => Rep K A' H' v d) (motive_2 := fun vs ds _ => Reps K A' H' vs ds) (motive_3 := fun vs ds _ => RepF K A' H' vs ds)
    .non .bl .int .str (fun h _ ih => .tup (t.rdt h) ih) (fun h _ ih => .lst (t.rdl h) ih) .ptr (fun n h _ ih => .obj (t.ins n h).1 (t.ins n h).2 ih)
    .nil (fun _ _ i1 i2 => .cons i1 i2) .nil (fun _ _ i1 i2 => .cons i1 i2) r
theorem Reps.to (t : To A A' H H') : ∀ {vs : List V} {ds : List D}, Reps K A H vs ds → Reps K A' H' vs ds
  | _, _, .nil => .nil
  | _, _, .cons r rs => .cons (r.to t) (rs.to t)
theorem RepF.to (t : To A A' H H') : ∀ {vs : List (Str × V)} {ds : List (Str × D)}, RepF K A H vs ds → RepF K A' H' vs ds
  | _, _, .nil => .nil
  | _, _, .cons r rs => .cons (r.to t) (rs.to t)
theorem Reps.length : ∀ {vs : List V} {ds : List D}, Reps K A H vs ds → vs.length = ds.length
  | _, _, .nil => rfl
  | _, _, .cons _ rs => by rw [List.length_cons, List.length_cons, rs.length]
theorem Reps.get : ∀ {vs : List V} {ds : List D} {i : Nat} {d : D}, Reps K A H vs ds → ds[i]? = some d → ∃ v, vs[i]? = some v ∧ Rep K A H v d
  | _, _, _, _, .nil, e => by simp at e
  | _, _, 0, _, .cons r _, e => by
    have q := Option.some.inj e
    subst q
    exact ⟨_, rfl, r⟩
  | _, _, i + 1, d, .cons _ rs, e => Reps.get (i := i) rs e
theorem Reps.getV : ∀ {vs : List V} {ds : List D} {i : Nat} {v : V}, Reps K A H vs ds → vs[i]? = some v → ∃ d, ds[i]? = some d ∧ Rep K A H v d
  | _, _, _, _, .nil, e => by simp at e
  | _, _, 0, _, .cons r _, e => by
    have q := Option.some.inj e
    subst q
    exact ⟨_, rfl, r⟩
  | _, _, i + 1, d, .cons _ rs, e => Reps.getV (i := i) rs e
theorem Reps.append : ∀ {vs ws : List V} {ds es : List D}, Reps K A H vs ds → Reps K A H ws es → Reps K A H (vs ++ ws) (ds ++ es)
  | _, _, _, _, .nil, s => s
  | _, _, _, _, .cons r rs, s => .cons r (rs.append s)
theorem Reps.set : ∀ {vs : List V} {ds : List D} {v : V} {d : D} (i : Nat), Reps K A H vs ds → Rep K A H v d → Reps K A H (vs.set i v) (ds.set i d)
  | _, _, _, _, _, .nil, _ => .nil
  | _, _, _, _, 0, .cons _ rs, q => .cons q rs
  | _, _, _, _, i + 1, .cons r rs, q => .cons r (rs.set i q)
theorem Reps.eraseIdx : ∀ {vs : List V} {ds : List D} (i : Nat), Reps K A H vs ds → Reps K A H (vs.eraseIdx i) (ds.eraseIdx i)
  | _, _, _, .nil => .nil
  | _, _, 0, .cons _ rs => rs
  | _, _, i + 1, .cons r rs => .cons r (rs.eraseIdx i)
theorem Reps.take : ∀ {vs : List V} {ds : List D} (i : Nat), Reps K A H vs ds → Reps K A H (vs.take i) (ds.take i)
  | _, _, 0, _ => .nil
  | _, _, i + 1, .nil => .nil
  | _, _, i + 1, .cons r rs => .cons r (rs.take i)
theorem Reps.drop : ∀ {vs : List V} {ds : List D} (i : Nat), Reps K A H vs ds → Reps K A H (vs.drop i) (ds.drop i)
  | _, _, 0, r => r
  | _, _, i + 1, .nil => .nil
  | _, _, i + 1, .cons r rs => rs.drop i
theorem Reps.ints : ∀ {vs : List V} {ns : List Int}, Reps K A H vs (ns.map D.int) → vs = ns.map V.int
  | _, [], .nil => rfl
  | _, n :: ns, .cons r rs => by
    cases r
    rw [List.map_cons, rs.ints]
theorem Reps.of_ints : ∀ (ns : List Int), Reps K A H (ns.map V.int) (ns.map D.int)
  | [] => .nil
  | n :: ns => .cons .int (Reps.of_ints ns)
theorem Reps.bls : ∀ {vs : List V} {ns : List Bool}, Reps K A H vs (ns.map D.bl) → vs = ns.map V.bl
  | _, [], .nil => rfl
  | _, n :: ns, .cons r rs => by
    cases r
    rw [List.map_cons, rs.bls]

/-! ### cells -/
def dom (M : Cells) : List Addr := M.map (·.1)
def av (S : AS) (M : Cells) : AS := fun a => S a ∨ a ∈ dom M
inductive RepK (K : PySem.W.Frag) (A : AS) (H : Hp) : List (Key × V) → List (Key × D) → Prop
  | nil : RepK K A H [] []
  | cons {k v d vs ds} : Rep K A H v d → RepK K A H vs ds → RepK K A H ((k, v) :: vs) ((k, d) :: ds)
theorem RepK.to (t : To A A' H H') : ∀ {vs : List (Key × V)} {ds : List (Key × D)}, RepK K A H vs ds → RepK K A' H' vs ds
  | _, _, .nil => .nil
  | _, _, .cons r rs => .cons (r.to t) (rs.to t)
def CellOf (K : PySem.W.Frag) (A : AS) (H : Hp) (o : HO) : MO → Prop
  | .lst ds => ∃ vs, o = .lst vs ∧ Reps K A H vs ds
  | .dK kvs => ∃ vs, o = .dK vs ∧ RepK K A H vs kvs
  | .ins C fs => ∃ dx vs, o = .ins C dx vs ∧ RepF K A H vs fs
def CellAt (K : PySem.W.Frag) (A : AS) (H : Hp) (a : Addr) (m : MO) : Prop := ∃ o, H a = some o ∧ CellOf K A H o m
theorem CellAt.ne {a : Addr} {m : MO} (c : CellAt K A H a m) : H a ≠ none := by
  obtain ⟨o, h, _⟩ := c
  rw [h]
  exact fun z => by cases z
theorem CellOf.to (t : To A A' H H') {o : HO} {m : MO} (c : CellOf K A H o m) : CellOf K A' H' o m := by
  cases m with
  | lst ds => obtain ⟨vs, h, r⟩ := c; exact ⟨vs, h, r.to t⟩
  | dK ds => obtain ⟨vs, h, r⟩ := c; exact ⟨vs, h, r.to t⟩
  | ins C ds => obtain ⟨dx, vs, h, r⟩ := c; exact ⟨dx, vs, h, r.to t⟩
theorem CellOf.mut {o : HO} {m : MO} (c : CellOf K A H o m) : Mut (some o) := by
  cases m with
  | lst ds => obtain ⟨vs, rfl, _⟩ := c; trivial
  | dK ds => obtain ⟨vs, rfl, _⟩ := c; trivial
  | ins C ds => obtain ⟨dx, vs, rfl, _⟩ := c; trivial
theorem CellAt.to (t : To A A' H H') {a : Addr} {m : MO} (k : ∀ o, H a = some o → H' a = some o) (c : CellAt K A H a m) : CellAt K A' H' a m := by
  obtain ⟨o, h, r⟩ := c
  exact ⟨o, k _ h, r.to t⟩

structure Core (K : PySem.W.Frag) (S : AS) (M : Cells) (H : Hp) : Prop where
  known : ∀ b, S b → H b ≠ none
  nod : (dom M).Nodup
  dis : ∀ a ∈ dom M, ¬ S a
  cells : ∀ p ∈ M, CellAt K (av S M) H p.1 p.2
structure Step (M M' : Cells) (H H' : Hp) : Prop where
  keep : ∀ b o, b ∉ dom M → H b = some o → H' b = some o
  grow : ∀ b, H b ≠ none → H' b ≠ none
  fresh : ∀ b ∈ dom M', b ∈ dom M ∨ H b = none
structure Slots (K : PySem.W.Frag) (A : AS) (H : Hp) (Γ : Gam) (σ : L2.St) : Prop where
  len : Γ.length = σ.length
  at_ : ∀ (i : Nat) (d : D), Γ[i]? = some (some d) → ∃ v : V, σ[i]? = some (some v) ∧ Rep K A H v d
end
section
variable {K : PySem.W.Frag} {S : AS} {M M1 M2 : Cells} {H H1 H2 : Hp} {Γ : Gam} {σ : L2.St}
theorem Step.refl : Step M M H H := ⟨fun _ _ _ h => h, fun _ h => h, fun _ h => .inl h⟩
theorem Step.trans (a : Step M M1 H H1) (b : Step M1 M2 H1 H2) : Step M M2 H H2 where
  keep := fun x o n h => by
    refine b.keep x o (fun z => ?_) (a.keep x o n h)
    rcases a.fresh x z with q | q
    · exact n q
    · rw [q] at h; cases h
  grow := fun x h => b.grow x (a.grow x h)
  fresh := fun x h => by
    rcases b.fresh x h with q | q
    · exact a.fresh x q
    · by_cases e : H x = none
      · exact .inr e
      · exact absurd q (a.grow x e)
theorem Step.to (a : Step M M1 H H1) : To (av S M) (av S M1) H H1 where
  keep := fun b o n h => a.keep b o (fun z => n (.inr z)) h
  av := fun b z => by
    rcases z with z | z
    · exact .inl (.inl z)
    · rcases a.fresh b z with q | q
      · exact .inl (.inr q)
      · exact .inr q
/-- everything stands, something new besides -/
theorem Step.same (s : Same H H1) : Step M M H H1 := by
  refine ⟨fun b o _ h => s b o h, fun b h => ?_, fun _ h => .inl h⟩
  cases e : H b with
  | none => exact absurd e h
  | some o =>
    rw [s b o e]
    exact fun z => by cases z
theorem Core.to (c : Core K S M H) (s : Same H H1) : Core K S M H1 :=
  ⟨fun b z => (Step.same (M := M) s).grow b (c.known b z), c.nod, c.dis, fun p hp => CellAt.to (Step.same s).to (fun o h => s _ o h) (c.cells p hp)⟩
theorem Slots.to {A A' : AS} (t : To A A' H H1) (s : Slots K A H Γ σ) : Slots K A' H1 Γ σ :=
  ⟨s.len, fun i d e => let ⟨v, h, r⟩ := s.at_ i d e; ⟨v, h, r.to t⟩⟩
theorem Slots.set {A : AS} (s : Slots K A H Γ σ) {i : Nat} {v : V} {d : D} (r : Rep K A H v d) : Slots K A H (Γ.set i (some d)) (σ.set i (some v)) := by
  refine ⟨by simp [s.len], fun j e h => ?_⟩
  by_cases hij : i = j
  · subst hij
    by_cases hi : i < Γ.length
    · rw [List.getElem?_set_self hi] at h
      have q := Option.some.inj (Option.some.inj h)
      subst q
      exact ⟨v, List.getElem?_set_self (by rw [← s.len]; exact hi), r⟩
    · rw [List.set_eq_of_length_le (by omega)] at h
      rw [List.getElem?_eq_none (by omega)] at h
      cases h
  · rw [List.getElem?_set_ne hij] at h
    obtain ⟨w, hw, rw'⟩ := s.at_ j e h
    exact ⟨w, by rw [List.getElem?_set_ne hij]; exact hw, rw'⟩
theorem Slots.wipe {A : AS} (s : Slots K A H Γ σ) {i : Nat} : Slots K A H (Γ.set i none) σ := by
  refine ⟨by simp [s.len], fun j e h => ?_⟩
  by_cases hij : i = j
  · subst hij
    by_cases hi : i < Γ.length
    · rw [List.getElem?_set_self hi] at h
      cases h
    · rw [List.set_eq_of_length_le (by omega)] at h
      exact s.at_ i e h
  · rw [List.getElem?_set_ne hij] at h
    exact s.at_ j e h
end
end PL
namespace PL
open PySem PySem.Spec PyProof.Rows L2

/-! ### canonical readings -/
def wE (X : Cx) (e : Expr) : TE := fun σ H Q => ∀ pins s, Inv X pins σ H s → wpAny (model X.prog X.w) X.A (eval e X.env) (EP X pins σ Q) X.xe s
def wT (X : Cx) (e : Expr) : TT := fun σ H Q => ∀ pins s, Inv X pins σ H s → wpAny (model X.prog X.w) X.A (isTrue e X.env (eval e X.env)) (TP X pins σ Q) X.xe s
def wW (X : Cx) (e : Expr) : TT := fun σ H Q => ∀ whole pins s, Inv X pins σ H s → wpAny (model X.prog X.w) X.A (isTrue e X.env whole) (TP X pins σ Q) X.xe s
def wA (X : Cx) (es : List Expr) : TA := fun σ H Q => ∀ pos pins s, Inv X pins σ H s → wpAny (model X.prog X.w) X.A (spliced (backTo pos (starEach es X.env))) (AP X pins σ Q) X.xe s
def wS (X : Cx) (st : Stmt) : TS := fun D σ H => ∀ pins s, Inv X pins σ H s → wpAny (model X.prog X.w) X.A (exec st X.env) (SP X pins D) X.xe s
def wSs (X : Cx) (st : List Stmt) : TS := fun D σ H => ∀ pins s, Inv X pins σ H s → wpAny (model X.prog X.w) X.A (execs st X.env) (SP X pins D) X.xe s
def wG (X : Cx) (tg : Expr) : TG := fun v σ H Q => ∀ pins s u, Inv X pins σ H s → RelV v u → wpAny (model X.prog X.w) X.A (assign tg X.env u) (fun _ s' => ∃ σ' H', Inv X pins σ' H' s' ∧ Q σ' H') X.xe s
section
variable {X : Cx} {e : Expr} {es : List Expr} {st : Stmt} {sts : List Stmt}
theorem wE.pe : PE X e (wE X e) := ⟨fun pins s σ H Q I h => h pins s I⟩
theorem wT.pt : PT X e (wT X e) := ⟨fun pins s σ H Q I h => h pins s I⟩
theorem wW.pw : PW X e (wW X e) := ⟨fun wh pins s σ H Q I h => h wh pins s I⟩
theorem wA.pa : PA X es (wA X es) := ⟨fun pos pins s σ H Q I h => h pos pins s I⟩
theorem wS.ps : PS X st (wS X st) := ⟨fun pins s σ H D I h => h pins s I⟩
theorem wSs.pss : PSs X sts (wSs X sts) := ⟨fun pins s σ H D I h => h pins s I⟩
theorem wG.pg : PG X e (wG X e) := ⟨fun pins s σ H v u Q I r h => h pins s u I r⟩
theorem PE.to {t : TE} {σ H Q} (h : PE X e t) (q : t σ H Q) : wE X e σ H Q := fun pins s I => h.run pins s σ H Q I q
theorem PT.to {t : TT} {σ H Q} (h : PT X e t) (q : t σ H Q) : wT X e σ H Q := fun pins s I => h.run pins s σ H Q I q
theorem PW.to {t : TT} {σ H Q} (h : PW X e t) (q : t σ H Q) : wW X e σ H Q := fun wh pins s I => h.run wh pins s σ H Q I q
theorem PA.to {t : TA} {σ H Q} (h : PA X es t) (q : t σ H Q) : wA X es σ H Q := fun pos pins s I => h.run pos pins s σ H Q I q
theorem PS.to {t : TS} {σ H D} (h : PS X st t) (q : t D σ H) : wS X st D σ H := fun pins s I => h.run pins s σ H D I q
theorem PSs.to {t : TS} {σ H D} (h : PSs X sts t) (q : t D σ H) : wSs X sts D σ H := fun pins s I => h.run pins s σ H D I q
theorem PG.to {t : TG} {v σ H Q} (h : PG X e t) (q : t v σ H Q) : wG X e v σ H Q := fun pins s u I r => h.run pins s σ H v u Q I r q
end

/-! ### the context, by what is known of it -/
structure Ctx where
  P : Program
  w : World
  K : PySem.W.Frag
  mg : Str → Option Value
  base : Heap
  N : List Str
  sc : Scope
  k : Nat
  Z : Addr → D → Gam → Cells → Prop
  own : Str → Bool
  /-- a def's own body, no comprehension's -/
  top : Bool
structure Ctx.Is (c : Ctx) (X : Cx) : Prop where
  prog : X.prog = c.P
  w : X.w = c.w
  K : X.K = c.K
  mg : X.mg = c.mg
  base : X.base = c.base
  N : X.N = c.N
  sc : X.env.scope = c.sc
  room : Room c.k X.A
  calm : X.calm = true
  nd : X.N.Nodup
  fn : ∀ x, c.sc.names.lookup x = some .cell → c.own x = true → X.fn x = true
  po : PassesOwn (model X.prog X.w) X.A X.env X.xe
  stk : c.top = true → X.stack = X.env :: X.outer ∧ X.env.frame = some X.env.locals
/-- what may be raised: where it lands -/
def Land (c : Ctx) (X : Cx) (S : AS) (M : Cells) (H : Hp) : Prop :=
  ∃ W : WX, Takes X W ∧ ∀ C dd v d σ' H' Γ' M', Core c.K S M' H' → Slots c.K (av S M') H' Γ' σ' → Step M M' H H' → H' dd = some (.xd [(("what" : Str), v)]) → Rep c.K (av S M') H' v d → c.Z C d Γ' M' → W (.ref C) (some dd) σ' H'
structure At (c : Ctx) (X : Cx) (S : AS) (Γ : Gam) (M : Cells) (σ : L2.St) (H : Hp) : Prop where
  is : c.Is X
  core : Core c.K S M H
  slots : Slots c.K (av S M) H Γ σ
  land : Land c X S M H
section
variable {c : Ctx} {X : Cx} {S : AS} {Γ Γ' : Gam} {M M' : Cells} {σ σ' : L2.St} {H H' : Hp}
theorem Land.step (l : Land c X S M H) (s : Step M M' H H') : Land c X S M' H' := by
  obtain ⟨W, tk, h⟩ := l
  exact ⟨W, tk, fun C dd v d σ2 H2 Γ2 M2 hc hs st => h C dd v d σ2 H2 Γ2 M2 hc hs (s.trans st)⟩
theorem At.step (a : At c X S Γ M σ H) (hc : Core c.K S M' H') (s : Step M M' H H') : At c X S Γ M' σ H' :=
  ⟨a.is, hc, a.slots.to s.to, a.land.step s⟩
theorem At.slot (a : At c X S Γ M σ H) (hc : Core c.K S M' H') (hs : Slots c.K (av S M') H' Γ' σ') (s : Step M M' H H') : At c X S Γ' M' σ' H' :=
  ⟨a.is, hc, hs, a.land.step s⟩
end

/-! ### judgements -/
structure WE (c : Ctx) (e : Expr) (Γ : Gam) (M : Cells) (Q : D → Cells → Prop) : Prop where
  run : ∀ X S σ H, At c X S Γ M σ H → ∀ Q' : VK, (∀ v H' d M', Core c.K S M' H' → Step M M' H H' → Rep c.K (av S M') H' v d → Q d M' → Q' v H') → wE X e σ H Q'
structure WT (c : Ctx) (e : Expr) (Γ : Gam) (M : Cells) (Q : Bool → Cells → Prop) : Prop where
  run : ∀ X S σ H, At c X S Γ M σ H → ∀ Q' : Bool → Hp → Prop, (∀ b H' M', Core c.K S M' H' → Step M M' H H' → Q b M' → Q' b H') → wT X e σ H Q'
structure WW (c : Ctx) (e : Expr) (Γ : Gam) (M : Cells) (Q : Bool → Cells → Prop) : Prop where
  run : ∀ X S σ H, At c X S Γ M σ H → ∀ Q' : Bool → Hp → Prop, (∀ b H' M', Core c.K S M' H' → Step M M' H H' → Q b M' → Q' b H') → wW X e σ H Q'
structure WA (c : Ctx) (es : List Expr) (Γ : Gam) (M : Cells) (Q : List D → Cells → Prop) : Prop where
  run : ∀ X S σ H, At c X S Γ M σ H → ∀ Q' : List V → Hp → Prop, (∀ vs H' ds M', Core c.K S M' H' → Step M M' H H' → Reps c.K (av S M') H' vs ds → Q ds M' → Q' vs H') → wA X es σ H Q'
structure PEnds where
  nx : Gam → Cells → Prop
  rt : D → Cells → Prop
  bk : Gam → Cells → Prop := fun _ _ => False
  ct : Gam → Cells → Prop := fun _ _ => False
structure Lift (c : Ctx) (S : AS) (M : Cells) (H : Hp) (E : PEnds) (Ds : Ends) : Prop where
  nx : ∀ σ' H' Γ' M', Core c.K S M' H' → Slots c.K (av S M') H' Γ' σ' → Step M M' H H' → E.nx Γ' M' → Ds.nx σ' H'
  rt : ∀ v H' d M', Core c.K S M' H' → Step M M' H H' → Rep c.K (av S M') H' v d → E.rt d M' → Ds.rt v H'
  bk : ∀ σ' H' Γ' M', Core c.K S M' H' → Slots c.K (av S M') H' Γ' σ' → Step M M' H H' → E.bk Γ' M' → Ds.bk σ' H'
  ct : ∀ σ' H' Γ' M', Core c.K S M' H' → Slots c.K (av S M') H' Γ' σ' → Step M M' H H' → E.ct Γ' M' → Ds.ct σ' H'
theorem Lift.step {c : Ctx} {S : AS} {M M' : Cells} {H H' : Hp} {E : PEnds} {Ds : Ends} (l : Lift c S M H E Ds) (s : Step M M' H H') : Lift c S M' H' E Ds :=
  ⟨fun σ2 H2 Γ2 M2 h1 h2 h3 => l.nx σ2 H2 Γ2 M2 h1 h2 (s.trans h3), fun v2 H2 d2 M2 h1 h3 => l.rt v2 H2 d2 M2 h1 (s.trans h3),
   fun σ2 H2 Γ2 M2 h1 h2 h3 => l.bk σ2 H2 Γ2 M2 h1 h2 (s.trans h3), fun σ2 H2 Γ2 M2 h1 h2 h3 => l.ct σ2 H2 Γ2 M2 h1 h2 (s.trans h3)⟩
structure WS (c : Ctx) (st : Stmt) (E : PEnds) (Γ : Gam) (M : Cells) : Prop where
  run : ∀ X S σ H, At c X S Γ M σ H → ∀ Ds : Ends, Lift c S M H E Ds → wS X st Ds σ H
structure WSs (c : Ctx) (sts : List Stmt) (E : PEnds) (Γ : Gam) (M : Cells) : Prop where
  run : ∀ X S σ H, At c X S Γ M σ H → ∀ Ds : Ends, Lift c S M H E Ds → wSs X sts Ds σ H
structure WG (c : Ctx) (tg : Expr) (d : D) (Γ : Gam) (M : Cells) (E : Gam → Cells → Prop) : Prop where
  run : ∀ X S σ H, At c X S Γ M σ H → ∀ v, Rep c.K (av S M) H v d → ∀ Q' : L2.St → Hp → Prop, (∀ σ' H' Γ' M', Core c.K S M' H' → Slots c.K (av S M') H' Γ' σ' → Step M M' H H' → E Γ' M' → Q' σ' H') → wG X tg v σ H Q'
def VisC (sc : Scope) (x : Str) : Prop := sc.names.lookup x = some .local ∨ sc.names.lookup x = some .cell ∨ sc.names.lookup x = some .free
def LocC (c : Ctx) (x : Str) : Prop := c.sc.names.lookup x = some .local ∨ (c.sc.names.lookup x = some .cell ∧ c.own x = true)
def GlC (sc : Scope) (x : Str) : Prop := sc.names.lookup x = some .globalImplicit
section
variable {c : Ctx} {X : Cx} {S : AS} {Γ Γ' : Gam} {M M' : Cells} {σ σ' : L2.St} {H H' : Hp} {a b e : Expr} {es : List Expr} {pos pos' : Pos} {Q : D → Cells → Prop} {R : Bool → Cells → Prop} {x : Str}
theorem Ctx.Is.gl (i : c.Is X) (h : GlC c.sc x) : Gl X x := by
  have e : X.env.scope.names.lookup x = some .globalImplicit := by rw [i.sc]; exact h
  exact e
theorem Ctx.Is.loc (i : c.Is X) (h : LocC c x) : Loc X.env.scope x := by
  rw [i.sc]
  rcases h with h | h
  · exact .inl h
  · exact .inr h.1
theorem Ctx.Is.vis (i : c.Is X) (h : VisC c.sc x) : Vis X.env.scope x := by rw [i.sc]; exact h
theorem Ctx.Is.st (i : c.Is X) (h : LocC c x) : X.fn x = true ∨ X.env.scope.names.lookup x = some .local := by
  rcases h with h | h
  · exact .inr (by rw [i.sc]; exact h)
  · exact .inl (i.fn x h.1 h.2)
theorem Ctx.Is.hu (i : c.Is X) : X.A.units + 64 < cLine := i.room.units
theorem Ctx.Is.nm {i : Nat} (is : c.Is X) (h : c.N[i]? = some x) : X.N[i]? = some x := by rw [is.N]; exact h
theorem Ctx.Is.mgN (is : c.Is X) {o : Option Value} (h : c.mg x = o) : X.mg x = o := by rw [is.mg]; exact h

/-! ### constants, names -/
theorem we_var {i : Nat} {d : D} (hN : c.N[i]? = some x) (hv : VisC c.sc x) (hΓ : Γ[i]? = some (some d)) (q : Q d M) (hd : (x == ("__debug__" : Str)) = false := by decide) (hcd : (x == ("__classdict__" : Str)) = false := by decide) : WE c (.Name x pos) Γ M Q := .mk fun X S σ H at_ Q' hq => by
  obtain ⟨v, hs, r⟩ := at_.slots.at_ i d hΓ
  exact PE.to (pe_var (at_.is.nm hN) (at_.is.vis hv) hd hcd) ⟨v, hs, hq v H d M at_.core .refl r q⟩
theorem we_int {i : Int} {j : Nat} (q : Q (.int i) M) : WE c (.Constant (.int i) j pos) Γ M Q := .mk fun X S σ H at_ Q' hq =>
  PE.to pe_int (hq _ _ _ _ at_.core .refl .int q)
theorem we_bl {i : Bool} {j : Nat} (q : Q (.bl i) M) : WE c (.Constant (.bool i) j pos) Γ M Q := .mk fun X S σ H at_ Q' hq =>
  PE.to pe_bl (hq _ _ _ _ at_.core .refl .bl q)
theorem we_non {j : Nat} (q : Q .non M) : WE c (.Constant .none j pos) Γ M Q := .mk fun X S σ H at_ Q' hq =>
  PE.to pe_non (hq _ _ _ _ at_.core .refl .non q)
theorem we_str {i : Str} {j : Nat} (q : Q (.str i) M) : WE c (.Constant (.str i) j pos) Γ M Q := .mk fun X S σ H at_ Q' hq =>
  PE.to pe_str (hq _ _ _ _ at_.core .refl .str q)

/-! ### operators -/
theorem two {T : V → V → Hp → Prop} {R : D → D → Cells → Prop} (h : WE c a Γ M fun x M1 => WE c b Γ M1 fun y M2 => R x y M2) (at_ : At c X S Γ M σ H)
    (hT : ∀ v1 v2 H2 d1 d2 M2, Core c.K S M2 H2 → Step M M2 H H2 → Rep c.K (av S M2) H2 v1 d1 → Rep c.K (av S M2) H2 v2 d2 → R d1 d2 M2 → T v1 v2 H2) :
    wE X a σ H fun x H1 => wE X b σ H1 fun y H2 => T x y H2 :=
  h.run X S σ H at_ _ fun v1 H1 d1 M1 c1 s1 r1 q1 => q1.run X S σ H1 (at_.step c1 s1) _ fun v2 H2 d2 M2 c2 s2 r2 q2 => hT v1 v2 H2 d1 d2 M2 c2 (s1.trans s2) (r1.to s2.to) r2 q2
theorem we_opI {op : Operator} {C : Int → Int → Prop} {g : Int → Int → Int} (ho : ∀ X : Cx, OpR X (binaryOp op) (rI C fun i j => .int (g i j)))
    (h : WE c a Γ M fun x M1 => WE c b Γ M1 fun y M2 => ∃ i j, x = .int i ∧ y = .int j ∧ C i j ∧ Q (.int (g i j)) M2) : WE c (.BinOp a op b pos) Γ M Q := .mk fun X S σ H at_ Q' hq =>
  PE.to (pe_op (ho X) wE.pe wE.pe) (two h at_ fun v1 v2 H2 d1 d2 M2 c2 s2 r1 r2 ⟨i, j, e1, e2, hc, q⟩ => by
    subst e1 e2; cases r1; cases r2
    exact ⟨i, j, rfl, rfl, hc, hq _ _ _ _ c2 s2 .int q⟩)
theorem we_op0 {op : Operator} {g : Int → Int → Int} (ho : ∀ X : Cx, OpR X (binaryOp op) (rI0 fun i j => .int (g i j)))
    (h : WE c a Γ M fun x M1 => WE c b Γ M1 fun y M2 => ∃ i j, x = .int i ∧ y = .int j ∧ Q (.int (g i j)) M2) : WE c (.BinOp a op b pos) Γ M Q := .mk fun X S σ H at_ Q' hq =>
  PE.to (pe_op (ho X) wE.pe wE.pe) (two h at_ fun v1 v2 H2 d1 d2 M2 c2 s2 r1 r2 ⟨i, j, e1, e2, q⟩ => by
    subst e1 e2; cases r1; cases r2
    exact ⟨i, j, rfl, rfl, hq _ _ _ _ c2 s2 .int q⟩)
theorem we_add (h : WE c a Γ M fun x M1 => WE c b Γ M1 fun y M2 => ∃ i j, x = .int i ∧ y = .int j ∧ Q (.int (i + j)) M2) : WE c (.BinOp a .Add b pos) Γ M Q := we_op0 (fun X => op_add) h
theorem we_sub (h : WE c a Γ M fun x M1 => WE c b Γ M1 fun y M2 => ∃ i j, x = .int i ∧ y = .int j ∧ Q (.int (i - j)) M2) : WE c (.BinOp a .Sub b pos) Γ M Q := we_op0 (fun X => op_sub) h
theorem we_mul (h : WE c a Γ M fun x M1 => WE c b Γ M1 fun y M2 => ∃ i j, x = .int i ∧ y = .int j ∧ CMulW i j ∧ Q (.int (i * j)) M2) : WE c (.BinOp a .Mult b pos) Γ M Q := we_opI (fun X => op_mulW) h
theorem we_div (h : WE c a Γ M fun x M1 => WE c b Γ M1 fun y M2 => ∃ i j, x = .int i ∧ y = .int j ∧ CDivW i j ∧ Q (.int (i / j)) M2) : WE c (.BinOp a .FloorDiv b pos) Γ M Q := we_opI (fun X => op_fdivW) h
theorem we_mod (h : WE c a Γ M fun x M1 => WE c b Γ M1 fun y M2 => ∃ i j, x = .int i ∧ y = .int j ∧ 0 < j ∧ Q (.int (i % j)) M2) : WE c (.BinOp a .Mod b pos) Γ M Q := we_opI (C := fun _ j => 0 < j) (fun X => op_mod) h
theorem we_pow (h : WE c a Γ M fun x M1 => WE c b Γ M1 fun y M2 => ∃ i j, x = .int i ∧ y = .int j ∧ CPow i j ∧ Q (.int (i ^ j.toNat)) M2) : WE c (.BinOp a .Pow b pos) Γ M Q := we_opI (fun X => op_pow) h
theorem we_neg (h : WE c a Γ M fun x M1 => ∃ i, x = .int i ∧ Q (.int (-i)) M1) : WE c (.UnaryOp .USub a pos) Γ M Q := .mk fun X S σ H at_ Q' hq =>
  PE.to (pe_un un_neg wE.pe) (h.run X S σ H at_ _ fun v1 H1 d1 M1 c1 s1 r1 ⟨i, e1, q⟩ => by
    subst e1; cases r1
    exact ⟨i, rfl, hq _ _ _ _ c1 s1 .int q⟩)

/-! ### comparisons -/
theorem we_cmpI {op : CmpOp} {p : Int → Int → Bool} (ho : ∀ X : Cx, OpR X (compareOp op) (rI0 fun i j => .bl (p i j))) (hm : behindInMarks op b = false)
    (h : WE c a Γ M fun x M1 => WE c b Γ M1 fun y M2 => ∃ i j, x = .int i ∧ y = .int j ∧ Q (.bl (p i j)) M2) : WE c (.Compare a [op] [b] pos) Γ M Q := .mk fun X S σ H at_ Q' hq =>
  PE.to (pe_cmpR (ho X) wE.pe wE.pe hm) (two h at_ fun v1 v2 H2 d1 d2 M2 c2 s2 r1 r2 ⟨i, j, e1, e2, q⟩ => by
    subst e1 e2; cases r1; cases r2
    exact ⟨i, j, rfl, rfl, hq _ _ _ _ c2 s2 .bl q⟩)
theorem wt_cmpI {op : CmpOp} {p : Int → Int → Bool} (ho : ∀ X : Cx, OpR X (compareOp op) (rI0 fun i j => .bl (p i j))) (hm : behindInMarks op b = false)
    (h : WE c a Γ M fun x M1 => WE c b Γ M1 fun y M2 => ∃ i j, x = .int i ∧ y = .int j ∧ R (p i j) M2) : WT c (.Compare a [op] [b] pos) Γ M R := .mk fun X S σ H at_ Q' hq =>
  PT.to (pt_cmpR (ho X) wE.pe wE.pe hm) (two h at_ fun v1 v2 H2 d1 d2 M2 c2 s2 r1 r2 ⟨i, j, e1, e2, q⟩ => by
    subst e1 e2; cases r1; cases r2
    exact ⟨i, j, rfl, rfl, _, rfl, hq _ _ _ c2 s2 q⟩)
theorem wt_lt (h : WE c a Γ M fun x M1 => WE c b Γ M1 fun y M2 => ∃ i j, x = .int i ∧ y = .int j ∧ R (decide (i < j)) M2) : WT c (.Compare a [.Lt] [b] pos) Γ M R := wt_cmpI (fun X => op_lt) (nomark _) h
theorem wt_le (h : WE c a Γ M fun x M1 => WE c b Γ M1 fun y M2 => ∃ i j, x = .int i ∧ y = .int j ∧ R (decide (i ≤ j)) M2) : WT c (.Compare a [.LtE] [b] pos) Γ M R := wt_cmpI (fun X => op_le) (nomark _) h
theorem wt_gt (h : WE c a Γ M fun x M1 => WE c b Γ M1 fun y M2 => ∃ i j, x = .int i ∧ y = .int j ∧ R (decide (j < i)) M2) : WT c (.Compare a [.Gt] [b] pos) Γ M R := wt_cmpI (fun X => op_gt) (nomark _) h
theorem wt_ge (h : WE c a Γ M fun x M1 => WE c b Γ M1 fun y M2 => ∃ i j, x = .int i ∧ y = .int j ∧ R (decide (j ≤ i)) M2) : WT c (.Compare a [.GtE] [b] pos) Γ M R := wt_cmpI (fun X => op_ge) (nomark _) h
theorem we_lt (h : WE c a Γ M fun x M1 => WE c b Γ M1 fun y M2 => ∃ i j, x = .int i ∧ y = .int j ∧ Q (.bl (decide (i < j))) M2) : WE c (.Compare a [.Lt] [b] pos) Γ M Q := we_cmpI (fun X => op_lt) (nomark _) h
theorem we_le (h : WE c a Γ M fun x M1 => WE c b Γ M1 fun y M2 => ∃ i j, x = .int i ∧ y = .int j ∧ Q (.bl (decide (i ≤ j))) M2) : WE c (.Compare a [.LtE] [b] pos) Γ M Q := we_cmpI (fun X => op_le) (nomark _) h
theorem we_gt (h : WE c a Γ M fun x M1 => WE c b Γ M1 fun y M2 => ∃ i j, x = .int i ∧ y = .int j ∧ Q (.bl (decide (j < i))) M2) : WE c (.Compare a [.Gt] [b] pos) Γ M Q := we_cmpI (fun X => op_gt) (nomark _) h
theorem we_ge (h : WE c a Γ M fun x M1 => WE c b Γ M1 fun y M2 => ∃ i j, x = .int i ∧ y = .int j ∧ Q (.bl (decide (j ≤ i))) M2) : WE c (.Compare a [.GtE] [b] pos) Γ M Q := we_cmpI (fun X => op_ge) (nomark _) h
def D.isNon : D → Bool
  | .non => true
  | _ => false
theorem Rep.isNon {K A H v d} (r : Rep K A H v d) : decide (v = .non) = d.isNon := by
  cases r <;> rfl
theorem we_isN {j : Nat} {p2 : Pos} (h : WE c a Γ M fun x M1 => Q (.bl x.isNon) M1) : WE c (.Compare a [.Is] [.Constant .none j p2] pos) Γ M Q := .mk fun X S σ H at_ Q' hq =>
  PE.to (pe_cmp (pc_isN wE.pe)) (h.run X S σ H at_ _ fun v1 H1 d1 M1 c1 s1 r1 q => by
    show Q' (.bl (decide (v1 = .non))) H1
    rw [r1.isNon]
    exact hq _ _ _ _ c1 s1 .bl q)
theorem we_notN {j : Nat} {p2 : Pos} (h : WE c a Γ M fun x M1 => Q (.bl (!x.isNon)) M1) : WE c (.Compare a [.IsNot] [.Constant .none j p2] pos) Γ M Q := .mk fun X S σ H at_ Q' hq =>
  PE.to (pe_cmp (pc_notN wE.pe)) (h.run X S σ H at_ _ fun v1 H1 d1 M1 c1 s1 r1 q => by
    show Q' (.bl (!decide (v1 = .non))) H1
    rw [r1.isNon]
    exact hq _ _ _ _ c1 s1 .bl q)
/-- an expression that gives a truth, as a test -/
theorem wt_val (h : WE c e Γ M fun x M1 => ∃ k, x = .bl k ∧ R k M1) (he : ∀ env whole, isTrue e env whole = (do let v ← whole; standAt e.pos; holding [v] (truthy v)) := by intro _ _; rfl) : WT c e Γ M R := .mk fun X S σ H at_ Q' hq =>
  PT.to (pt_val wE.pe (he _)) (h.run X S σ H at_ _ fun v1 H1 d1 M1 c1 s1 r1 ⟨k, e1, q⟩ => by
    subst e1; cases r1
    exact ⟨k, rfl, hq _ _ _ c1 s1 q⟩)
theorem wt_isN {j : Nat} {p2 : Pos} (h : WE c a Γ M fun x M1 => R x.isNon M1) : WT c (.Compare a [.Is] [.Constant .none j p2] pos) Γ M R := .mk fun X S σ H at_ Q' hq =>
  PT.to (pt_cmp (pc_isN wE.pe)) (h.run X S σ H at_ _ fun v1 H1 d1 M1 c1 s1 r1 q => by
    refine ⟨_, rfl, ?_⟩
    rw [r1.isNon]
    exact hq _ _ _ c1 s1 q)
theorem wt_notN {j : Nat} {p2 : Pos} (h : WE c a Γ M fun x M1 => R (!x.isNon) M1) : WT c (.Compare a [.IsNot] [.Constant .none j p2] pos) Γ M R := .mk fun X S σ H at_ Q' hq =>
  PT.to (pt_cmp (pc_notN wE.pe)) (h.run X S σ H at_ _ fun v1 H1 d1 M1 c1 s1 r1 q => by
    refine ⟨_, rfl, ?_⟩
    rw [r1.isNon]
    exact hq _ _ _ c1 s1 q)

/-! ### and, or, not -/
variable {rest : List Expr}
theorem ww_and1 (h : WT c a Γ M R) : WW c (.BoolOp .And [a] pos) Γ M R := .mk fun X S σ H at_ Q' hq => PW.to (pw_and1 wT.pt) (h.run X S σ H at_ _ hq)
theorem ww_or1 (h : WT c a Γ M R) : WW c (.BoolOp .Or [a] pos) Γ M R := .mk fun X S σ H at_ Q' hq => PW.to (pw_or1 wT.pt) (h.run X S σ H at_ _ hq)
/-- the two ways of a test -/
def Br (k : Bool) (A B : Prop) : Prop := (k = true → A) ∧ (k = false → B)
theorem ww_and (h : WT c a Γ M fun k M1 => Br k (WW c (.BoolOp .And (b :: rest) pos) Γ M1 R) (R false M1)) : WW c (.BoolOp .And (a :: b :: rest) pos) Γ M R := .mk fun X S σ H at_ Q' hq =>
  PW.to (pw_and wT.pt wW.pw) (h.run X S σ H at_ _ fun k H1 M1 c1 s1 q => by
    cases k with
    | true => exact (q.1 rfl).run X S σ H1 (at_.step c1 s1) _ fun b' H2 M2 c2 s2 q2 => hq _ _ _ c2 (s1.trans s2) q2
    | false => exact hq _ _ _ c1 s1 (q.2 rfl))
theorem ww_or (h : WT c a Γ M fun k M1 => Br k (R true M1) (WW c (.BoolOp .Or (b :: rest) pos) Γ M1 R)) : WW c (.BoolOp .Or (a :: b :: rest) pos) Γ M R := .mk fun X S σ H at_ Q' hq =>
  PW.to (pw_or wT.pt wW.pw) (h.run X S σ H at_ _ fun k H1 M1 c1 s1 q => by
    cases k with
    | false => exact (q.2 rfl).run X S σ H1 (at_.step c1 s1) _ fun b' H2 M2 c2 s2 q2 => hq _ _ _ c2 (s1.trans s2) q2
    | true => exact hq _ _ _ c1 s1 (q.1 rfl))
theorem wt_ww (h : WW c e Γ M R) : WT c e Γ M R := .mk fun X S σ H at_ Q' hq => PT.to (wW.pw.pt) (h.run X S σ H at_ _ hq)
theorem wt_not (h : WT c a Γ M fun k M1 => R (!k) M1) : WT c (.UnaryOp .Not a pos) Γ M R := .mk fun X S σ H at_ Q' hq =>
  PT.to (pt_not wT.pt) (h.run X S σ H at_ _ fun k H1 M1 c1 s1 q => hq _ _ _ c1 s1 q)
theorem we_not (h : WE c a Γ M fun x M1 => ∃ k, x = .bl k ∧ Q (.bl (!k)) M1) : WE c (.UnaryOp .Not a pos) Γ M Q := .mk fun X S σ H at_ Q' hq =>
  PE.to (pe_not wE.pe) (h.run X S σ H at_ _ fun v1 H1 d1 M1 c1 s1 r1 ⟨k, e1, q⟩ => by
    subst e1; cases r1
    exact ⟨k, rfl, hq _ _ _ _ c1 s1 .bl q⟩)
theorem we_one {op} (h : WE c a Γ M Q) : WE c (.BoolOp op [a] pos) Γ M Q := .mk fun X S σ H at_ Q' hq => PE.to (pe_one wE.pe) (h.run X S σ H at_ _ hq)
theorem we_and (h : WE c a Γ M fun x M1 => ∃ k, x = .bl k ∧ Br k (WE c (.BoolOp .And (b :: rest) pos) Γ M1 Q) (Q (.bl false) M1)) : WE c (.BoolOp .And (a :: b :: rest) pos) Γ M Q := .mk fun X S σ H at_ Q' hq =>
  PE.to (pe_and wE.pe wE.pe) (h.run X S σ H at_ _ fun v1 H1 d1 M1 c1 s1 r1 ⟨k, e1, q⟩ => by
    subst e1; cases r1
    refine ⟨k, rfl, ?_⟩
    cases k with
    | true => exact (q.1 rfl).run X S σ H1 (at_.step c1 s1) _ fun v2 H2 d2 M2 c2 s2 r2 q2 => hq _ _ _ _ c2 (s1.trans s2) r2 q2
    | false => exact hq _ _ _ _ c1 s1 .bl (q.2 rfl))
theorem we_or (h : WE c a Γ M fun x M1 => ∃ k, x = .bl k ∧ Br k (Q (.bl true) M1) (WE c (.BoolOp .Or (b :: rest) pos) Γ M1 Q)) : WE c (.BoolOp .Or (a :: b :: rest) pos) Γ M Q := .mk fun X S σ H at_ Q' hq =>
  PE.to (pe_or wE.pe wE.pe) (h.run X S σ H at_ _ fun v1 H1 d1 M1 c1 s1 r1 ⟨k, e1, q⟩ => by
    subst e1; cases r1
    refine ⟨k, rfl, ?_⟩
    cases k with
    | false => exact (q.2 rfl).run X S σ H1 (at_.step c1 s1) _ fun v2 H2 d2 M2 c2 s2 r2 q2 => hq _ _ _ _ c2 (s1.trans s2) r2 q2
    | true => exact hq _ _ _ _ c1 s1 .bl (q.1 rfl))
theorem we_ifE {t : Expr} (h : WT c t Γ M fun k M1 => Br k (WE c a Γ M1 Q) (WE c b Γ M1 Q)) : WE c (.IfExp t a b pos) Γ M Q := .mk fun X S σ H at_ Q' hq =>
  PE.to (pe_ifExp wT.pt wE.pe wE.pe) (h.run X S σ H at_ _ fun k H1 M1 c1 s1 q => by
    cases k with
    | true => exact (q.1 rfl).run X S σ H1 (at_.step c1 s1) _ fun v2 H2 d2 M2 c2 s2 r2 q2 => hq _ _ _ _ c2 (s1.trans s2) r2 q2
    | false => exact (q.2 rfl).run X S σ H1 (at_.step c1 s1) _ fun v2 H2 d2 M2 c2 s2 r2 q2 => hq _ _ _ _ c2 (s1.trans s2) r2 q2)
theorem br_dec {p : Prop} [Decidable p] {A B : Prop} (h1 : p → A) (h2 : ¬ p → B) : Br (decide p) A B := ⟨fun h => h1 (of_decide_eq_true h), fun h => h2 (of_decide_eq_false h)⟩
theorem br_not {k : Bool} {A B : Prop} (h : Br k B A) : Br (!k) A B := by
  cases k with
  | true => exact ⟨fun z => (by cases z), fun _ => h.1 rfl⟩
  | false => exact ⟨fun _ => h.2 rfl, fun z => (by cases z)⟩
theorem br_t {A B : Prop} (h : A) : Br true A B := ⟨fun _ => h, fun z => (by cases z)⟩
theorem br_f {A B : Prop} (h : B) : Br false A B := ⟨fun z => (by cases z), fun _ => h⟩

/-! ### tuples, lists, arguments -/
theorem wa_nil {R : List D → Cells → Prop} (q : R [] M) : WA c [] Γ M R := .mk fun X S σ H at_ Q' hq => PA.to pa_nil (hq _ _ _ _ at_.core .refl .nil q)
theorem wa_cons {R : List D → Cells → Prop} (h : WE c e Γ M fun x M1 => WA c es Γ M1 fun xs M2 => R (x :: xs) M2) (hs : ∀ env, starEach (e :: es) env = (false, eval e env) :: starEach es env := by intro _; rfl) : WA c (e :: es) Γ M R := .mk fun X S σ H at_ Q' hq =>
  PA.to (pa_cons wE.pe wA.pa (hs _)) (h.run X S σ H at_ _ fun v1 H1 d1 M1 c1 s1 r1 q1 => q1.run X S σ H1 (at_.step c1 s1) _ fun vs H2 ds M2 c2 s2 r2 q2 => hq _ _ _ _ c2 (s1.trans s2) (.cons (r1.to s2.to) r2) q2)
theorem Core.new (cr : Core c.K S M H) {p : Addr} {o : HO} (np : H p = none) : Core c.K S M (upd H p o) := cr.to fun b u e => by
  rw [upd_ne (ne_of_none e np)]
  exact e
theorem same_new {p : Addr} {o : HO} (np : H p = none) : Same H (upd H p o) := fun b u e => by
  rw [upd_ne (ne_of_none e np)]
  exact e
theorem Core.free (cr : Core c.K S M H) {p : Addr} (np : H p = none) : ¬ av S M p := fun z => by
  rcases z with z | z
  · exact cr.known p z np
  · obtain ⟨q, hq, e⟩ := List.mem_map.mp z
    have := (cr.cells q hq).ne
    rw [e] at this
    exact this np
theorem we_tup {k : Nat} (h : WA c es Γ M fun ds M1 => ds.length ≤ sizeLine ∧ Q (.tup ds) M1) : WE c (.Tuple es k pos) Γ M Q := .mk fun X S σ H at_ Q' hq =>
  PE.to (pe_tup wA.pa) (h.run X S σ H at_ _ fun vs H1 ds M1 c1 s1 r1 ⟨hl, q⟩ => ⟨by rw [r1.length]; exact hl, fun p np =>
    hq _ _ _ _ (c1.new np) (s1.trans (Step.same (same_new np))) (.tup (.inl ⟨c1.free np, .inl upd_same⟩) (r1.to (Step.same (same_new np)).to)) q⟩)
/-- a list that stays as it is -/
theorem we_lst (h : WA c es Γ M fun ds M1 => ds.length ≤ sizeLine ∧ Q (.lst ds) M1) : WE c (.List es pos) Γ M Q := .mk fun X S σ H at_ Q' hq =>
  PE.to (pe_lst wA.pa) (h.run X S σ H at_ _ fun vs H1 ds M1 c1 s1 r1 ⟨hl, q⟩ => ⟨by rw [r1.length]; exact hl, fun p np =>
    hq _ _ _ _ (c1.new np) (s1.trans (Step.same (same_new np))) (.lst (.inl ⟨c1.free np, .inl upd_same⟩) (r1.to (Step.same (same_new np)).to)) q⟩)
/-- a new cell -/
theorem Core.cell (cr : Core c.K S M H) {p : Addr} {o : HO} {m : MO} (np : H p = none) (hm : CellOf c.K (av S M) H o m) : Core c.K S ((p, m) :: M) (upd H p o) ∧ Step M ((p, m) :: M) H (upd H p o) := by
  have nd : p ∉ dom M := fun z => cr.free np (.inr z)
  have st : Step M ((p, m) :: M) H (upd H p o) := by
    refine ⟨fun b u _ e => same_new np b u e, (Step.same (M := M) (same_new np)).grow, fun b hb => ?_⟩
    rcases List.mem_cons.mp hb with e | hb
    · subst e; exact .inr np
    · exact .inl hb
  refine ⟨⟨fun b z => st.grow b (cr.known b z), List.nodup_cons.mpr ⟨nd, cr.nod⟩, fun a ha z => ?_, fun q hq => ?_⟩, st⟩
  · rcases List.mem_cons.mp ha with e | ha
    · subst e; exact cr.free np (.inl z)
    · exact cr.dis a ha z
  · rcases List.mem_cons.mp hq with e | hq
    · subst e
      exact ⟨o, upd_same, hm.to st.to⟩
    · exact CellAt.to st.to (fun u e => same_new np _ u e) (cr.cells q hq)
theorem dom_set {M : Cells} {i : Nat} {a : Addr} {m m' : MO} (h : M[i]? = some (a, m)) : dom (M.set i (a, m')) = dom M := by
  unfold dom
  rw [List.map_set]
  have : (M.map (·.1))[i]? = some a := by rw [List.getElem?_map, h]; rfl
  obtain ⟨hi, e⟩ := List.getElem?_eq_some_iff.mp this
  show (M.map (·.1)).set i a = _
  rw [← e, List.set_getElem_self]
/-- a cell is changed -/
theorem Core.put (cr : Core c.K S M H) {i : Nat} {a : Addr} {m m' : MO} {o : HO} (h : M[i]? = some (a, m)) (hm : CellOf c.K (av S M) H o m') :
    Core c.K S (M.set i (a, m')) (upd H a o) ∧ Step M (M.set i (a, m')) H (upd H a o) := by
  have ed := dom_set (m' := m') h
  have hmem : (a, m) ∈ M := List.mem_of_getElem? h
  have ha : a ∈ dom M := List.mem_map.mpr ⟨_, hmem, rfl⟩
  have st : Step M (M.set i (a, m')) H (upd H a o) := by
    refine ⟨fun b u n e => ?_, fun b n => ?_, fun b hb => .inl (by rw [ed] at hb; exact hb)⟩
    · rw [upd_ne (fun z => n (by rw [z]; exact ha))]
      exact e
    · by_cases z : b = a
      · subst z; rw [upd_same]; exact fun q => by cases q
      · rw [upd_ne z]; exact n
  refine ⟨⟨fun b z => st.grow b (cr.known b z), by rw [ed]; exact cr.nod, by rw [ed]; exact cr.dis, fun q hq => ?_⟩, st⟩
  obtain ⟨j, hj⟩ := List.getElem?_of_mem hq
  by_cases e : i = j
  · subst e
    have hi : i < M.length := (List.getElem?_eq_some_iff.mp h).1
    rw [List.getElem?_set_self hi] at hj
    have := Option.some.inj hj
    subst this
    exact ⟨o, upd_same, hm.to st.to⟩
  · rw [List.getElem?_set_ne e] at hj
    have hq' : q ∈ M := List.mem_of_getElem? hj
    refine CellAt.to st.to (fun u eu => ?_) (cr.cells q hq')
    rw [upd_ne (fun z => ?_)]
    · exact eu
    · -- two places with one address
      have e1 : (dom M)[i]? = some a := by unfold dom; rw [List.getElem?_map, h]; rfl
      have e2 : (dom M)[j]? = some a := by unfold dom; rw [List.getElem?_map, hj]; show some q.1 = some a; rw [z]
      have nd := cr.nod
      obtain ⟨h1, g1⟩ := List.getElem?_eq_some_iff.mp e1
      obtain ⟨h2, g2⟩ := List.getElem?_eq_some_iff.mp e2
      exact e ((List.getElem_inj nd).mp (g1.trans g2.symm))
theorem Core.at_ (cr : Core c.K S M H) {i : Nat} {a : Addr} {m : MO} (h : M[i]? = some (a, m)) : ∃ o, H a = some o ∧ CellOf c.K (av S M) H o m := cr.cells _ (List.mem_of_getElem? h)
end
end PL
namespace PL
open PySem PySem.Spec PyProof.Rows L2

/-! ### data compared -/
mutual
def D.py : D → PyData
  | .non => .none
  | .bl b => .bool b
  | .int i => .int i
  | .str x => .str x
  | .tup xs => .tuple (D.pys xs)
  | .lst xs => .list (D.pys xs)
  | .ptr _ => .none
  | .obj _ _ => .none
def D.pys : List D → List PyData
  | [] => []
  | x :: xs => D.py x :: D.pys xs
end
mutual
/-- plain data, no deeper than n -/
def D.okd (n : Nat) : D → Bool
  | .non => true
  | .bl _ => true
  | .int _ => true
  | .str _ => true
  | .tup xs => match n with
    | 0 => false
    | n + 1 => D.okds n xs
  | .lst xs => match n with
    | 0 => false
    | n + 1 => D.okds n xs
  | .ptr _ => false
  | .obj _ _ => false
def D.okds (n : Nat) : List D → Bool
  | [] => true
  | x :: xs => D.okd n x && D.okds n xs
end
def D.eqv (x y : D) : Bool := PyData.eqv x.py y.py
section
variable {K : PySem.W.Frag} {A : AS} {H : Hp}
mutual
theorem Rep.dp : ∀ (n : Nat) (d : D) {v : V}, Rep K A H v d → d.okd n = true → Dp K H v d.py
  | _, .non, _, r, _ => by cases r; exact .non
  | _, .bl b, _, r, _ => by cases r; exact .bl _
  | _, .int b, _, r, _ => by cases r; exact .int _
  | _, .str b, _, r, _ => by cases r; exact .str _
  | 0, .tup xs, _, r, h => by simp [D.okd] at h
  | n + 1, .tup xs, _, r, h => by
    cases r with
    | tup h1 h2 => exact .tup h1.sq (Reps.dp n xs h2 (by simpa [D.okd] using h))
  | 0, .lst xs, _, r, h => by simp [D.okd] at h
  | n + 1, .lst xs, _, r, h => by
    cases r with
    | lst h1 h2 => exact .lst h1.sq (Reps.dp n xs h2 (by simpa [D.okd] using h))
  | _, .ptr a, _, _, h => by simp [D.okd] at h
  | _, .obj a fs, _, _, h => by simp [D.okd] at h
theorem Reps.dp : ∀ (n : Nat) (ds : List D) {vs : List V}, Reps K A H vs ds → D.okds n ds = true → DpAll K H vs (D.pys ds)
  | _, [], _, r, _ => by cases r; exact .nil
  | n, d :: ds, _, r, h => by
    cases r with
    | cons h1 h2 =>
      have h' : d.okd n = true ∧ D.okds n ds = true := by simpa [D.okds] using h
      exact .cons (Rep.dp n d h1 h'.1) (Reps.dp n ds h2 h'.2)
end
end
mutual
theorem D.plain_ok : ∀ (n : Nat) (d : D), d.okd n = true → d.py.plain = true ∧ d.py.depth ≤ n
  | _, .non, _ => ⟨rfl, Nat.zero_le _⟩
  | _, .bl b, _ => ⟨rfl, Nat.zero_le _⟩
  | _, .int b, _ => ⟨rfl, Nat.zero_le _⟩
  | _, .str b, _ => ⟨rfl, Nat.zero_le _⟩
  | 0, .tup xs, h => by simp [D.okd] at h
  | n + 1, .tup xs, h => by
    have q := D.plain_oks n xs (by simpa [D.okd] using h)
    exact ⟨by simpa [D.py, PyData.plain] using q.1, by simp only [D.py, PyData.depth]; omega⟩
  | 0, .lst xs, h => by simp [D.okd] at h
  | n + 1, .lst xs, h => by
    have q := D.plain_oks n xs (by simpa [D.okd] using h)
    exact ⟨by simpa [D.py, PyData.plain] using q.1, by simp only [D.py, PyData.depth]; omega⟩
  | _, .ptr a, h => by simp [D.okd] at h
  | _, .obj a fs, h => by simp [D.okd] at h
theorem D.plain_oks : ∀ (n : Nat) (ds : List D), D.okds n ds = true → PyData.plainAll (D.pys ds) = true ∧ PyData.depthAll (D.pys ds) ≤ n
  | _, [], _ => ⟨rfl, Nat.zero_le _⟩
  | n, d :: ds, h => by
    have h' : d.okd n = true ∧ D.okds n ds = true := by simpa [D.okds] using h
    have q1 := D.plain_ok n d h'.1
    have q2 := D.plain_oks n ds h'.2
    exact ⟨by simp [D.pys, PyData.plainAll, q1.1, q2.1], by simp only [D.pys, PyData.depthAll]; omega⟩
end
theorem D.pys_map (ds : List D) : D.pys ds = ds.map D.py := by
  induction ds with
  | nil => rfl
  | cons d ds ih => simp [D.pys, ih]
section
variable {X : Cx}
def rEqP (K : PySem.W.Frag) (neg : Bool) : R2 := fun x y H Q => ∃ d e, Dp K H x d ∧ Dp K H y e ∧ d.plain = true ∧ e.plain = true ∧ d.depth ≤ 60 ∧ Q (.bl (if neg then !PyData.eqv d e else PyData.eqv d e)) H
theorem op_eqP (hu : X.A.units + 64 < cLine) : OpR X (compareOp .Eq) (rEqP X.K false) := by
  intro pins s σ H x y v u Q I rx ry h
  obtain ⟨d, e, hd, he, sd, se, hdep, q⟩ := h
  obtain ⟨as, r1⟩ := Dp.reads I d x v hd rx
  obtain ⟨bs, r2⟩ := Dp.reads I e y u he ry
  exact PySem.SeqAt.eq_plain r1 r2 sd se (by omega) ⟨.bl _, H, I, rfl, q⟩
theorem op_neP (hu : X.A.units + 64 < cLine) : OpR X (compareOp .NotEq) (rEqP X.K true) := by
  intro pins s σ H x y v u Q I rx ry h
  obtain ⟨d, e, hd, he, sd, se, hdep, q⟩ := h
  obtain ⟨as, r1⟩ := Dp.reads I d x v hd rx
  obtain ⟨bs, r2⟩ := Dp.reads I e y u he ry
  exact PySem.SeqAt.ne_plain r1 r2 sd se (by omega) ⟨.bl _, H, I, rfl, q⟩
def rInP (K : PySem.W.Frag) (neg : Bool) : R2 := fun x y H Q => ∃ d es, Dp K H x d ∧ (Dp K H y (.list es) ∨ Dp K H y (.tuple es)) ∧ d.plain = true ∧ PyData.plainAll es = true ∧ d.depth ≤ 60 ∧ Q (.bl (if neg then !es.any (fun z => PyData.eqv z d) else es.any (fun z => PyData.eqv z d))) H
theorem op_inP (hu : X.A.units + 64 < cLine) : OpR X (compareOp .In) (rInP X.K false) := by
  intro pins s σ H x y v u Q I rx ry h
  obtain ⟨d, e, hd, he, sd, se, hdep, q⟩ := h
  obtain ⟨as, r1⟩ := Dp.reads I d x v hd rx
  rcases he with he | he
  · obtain ⟨bs, r2⟩ := Dp.reads I _ y u he ry
    exact PySem.SeqAt.in_list_data r2 r1 se sd (by omega) ⟨.bl _, H, I, rfl, q⟩
  · obtain ⟨bs, r2⟩ := Dp.reads I _ y u he ry
    exact PySem.SeqAt.in_tuple_data r2 r1 se sd (by omega) ⟨.bl _, H, I, rfl, q⟩
theorem op_ninP (hu : X.A.units + 64 < cLine) : OpR X (compareOp .NotIn) (rInP X.K true) := by
  intro pins s σ H x y v u Q I rx ry h
  obtain ⟨d, e, hd, he, sd, se, hdep, q⟩ := h
  obtain ⟨as, r1⟩ := Dp.reads I d x v hd rx
  rcases he with he | he
  · obtain ⟨bs, r2⟩ := Dp.reads I _ y u he ry
    exact PySem.SeqAt.notIn_list_data r2 r1 se sd (by omega) ⟨.bl _, H, I, rfl, q⟩
  · obtain ⟨bs, r2⟩ := Dp.reads I _ y u he ry
    exact PySem.SeqAt.notIn_tuple_data r2 r1 se sd (by omega) ⟨.bl _, H, I, rfl, q⟩
end
section
variable {c : Ctx} {X : Cx} {S : AS} {Γ Γ' : Gam} {M M' : Cells} {σ σ' : L2.St} {H H' : Hp} {a b e : Expr} {es : List Expr} {pos pos' : Pos} {Q : D → Cells → Prop} {R : Bool → Cells → Prop} {x : Str}
/-- what stands behind a pointer to a list cell may be read -/
inductive View (M : Cells) : D → D → Prop
  | self {d} : View M d d
  | cell {i : Nat} {a : Addr} {ds : List D} : M[i]? = some (a, MO.lst ds) → View M (.ptr a) (.lst ds)
theorem View.rep {d d' : D} (w : View M d d') (cr : Core c.K S M H) {v : V} (r : Rep c.K (av S M) H v d) : Rep c.K S H v d' := by
  have t : To (av S M) S H H := ⟨fun _ _ _ h => h, fun b h => .inl (.inl h)⟩
  cases w with
  | self => exact r.to t
  | cell h =>
    cases r
    obtain ⟨o, ho, vs, e, rs⟩ := cr.at_ h
    subst e
    exact .lst (.inl ⟨cr.dis _ (List.mem_map.mpr ⟨_, List.mem_of_getElem? h, rfl⟩), .inl ho⟩) (rs.to t)
theorem we_cmpD {op : CmpOp} {neg : Bool} (ho : ∀ X : Cx, X.A.units + 64 < cLine → OpR X (compareOp op) (rEqP X.K neg)) (hm : behindInMarks op b = false)
    (h : WE c a Γ M fun x M1 => WE c b Γ M1 fun y M2 => ∃ x' y', View M2 x x' ∧ View M2 y y' ∧ x'.okd 60 = true ∧ y'.okd 60 = true ∧ Q (.bl (if neg then !x'.eqv y' else x'.eqv y')) M2) : WE c (.Compare a [op] [b] pos) Γ M Q := .mk fun X S σ H at_ Q' hq =>
  PE.to (pe_cmpR (ho X at_.is.hu) wE.pe wE.pe hm) (two h at_ fun v1 v2 H2 d1 d2 M2 c2 s2 r1 r2 ⟨x', y', w1, w2, o1, o2, q⟩ => by
    have p1 := D.plain_ok _ _ o1
    have p2 := D.plain_ok _ _ o2
    rw [at_.is.K]
    exact ⟨x'.py, y'.py, (w1.rep c2 r1).dp 60 _ o1, (w2.rep c2 r2).dp 60 _ o2, p1.1, p2.1, p1.2, hq _ _ _ _ c2 s2 .bl q⟩)
theorem wt_cmpD {op : CmpOp} {neg : Bool} (ho : ∀ X : Cx, X.A.units + 64 < cLine → OpR X (compareOp op) (rEqP X.K neg)) (hm : behindInMarks op b = false)
    (h : WE c a Γ M fun x M1 => WE c b Γ M1 fun y M2 => ∃ x' y', View M2 x x' ∧ View M2 y y' ∧ x'.okd 60 = true ∧ y'.okd 60 = true ∧ R (if neg then !x'.eqv y' else x'.eqv y') M2) : WT c (.Compare a [op] [b] pos) Γ M R := .mk fun X S σ H at_ Q' hq =>
  PT.to (pt_cmpR (ho X at_.is.hu) wE.pe wE.pe hm) (two h at_ fun v1 v2 H2 d1 d2 M2 c2 s2 r1 r2 ⟨x', y', w1, w2, o1, o2, q⟩ => by
    have p1 := D.plain_ok _ _ o1
    have p2 := D.plain_ok _ _ o2
    rw [at_.is.K]
    exact ⟨x'.py, y'.py, (w1.rep c2 r1).dp 60 _ o1, (w2.rep c2 r2).dp 60 _ o2, p1.1, p2.1, p1.2, _, rfl, hq _ _ _ c2 s2 q⟩)
theorem we_eq (h : WE c a Γ M fun x M1 => WE c b Γ M1 fun y M2 => ∃ x' y', View M2 x x' ∧ View M2 y y' ∧ x'.okd 60 = true ∧ y'.okd 60 = true ∧ Q (.bl (x'.eqv y')) M2) : WE c (.Compare a [.Eq] [b] pos) Γ M Q := we_cmpD (neg := false) (fun X => op_eqP) (nomark _) h
theorem we_ne (h : WE c a Γ M fun x M1 => WE c b Γ M1 fun y M2 => ∃ x' y', View M2 x x' ∧ View M2 y y' ∧ x'.okd 60 = true ∧ y'.okd 60 = true ∧ Q (.bl (!x'.eqv y')) M2) : WE c (.Compare a [.NotEq] [b] pos) Γ M Q := we_cmpD (neg := true) (fun X => op_neP) (nomark _) h
theorem wt_eq (h : WE c a Γ M fun x M1 => WE c b Γ M1 fun y M2 => ∃ x' y', View M2 x x' ∧ View M2 y y' ∧ x'.okd 60 = true ∧ y'.okd 60 = true ∧ R (x'.eqv y') M2) : WT c (.Compare a [.Eq] [b] pos) Γ M R := wt_cmpD (neg := false) (fun X => op_eqP) (nomark _) h
theorem wt_ne (h : WE c a Γ M fun x M1 => WE c b Γ M1 fun y M2 => ∃ x' y', View M2 x x' ∧ View M2 y y' ∧ x'.okd 60 = true ∧ y'.okd 60 = true ∧ R (!x'.eqv y') M2) : WT c (.Compare a [.NotEq] [b] pos) Γ M R := wt_cmpD (neg := true) (fun X => op_neP) (nomark _) h
/-- two ints, the common case -/
theorem wt_eqI (h : WE c a Γ M fun x M1 => WE c b Γ M1 fun y M2 => ∃ i j, x = .int i ∧ y = .int j ∧ R (decide (i = j)) M2) : WT c (.Compare a [.Eq] [b] pos) Γ M R := .mk fun X S σ H at_ Q' hq =>
  PT.to (pt_cmpR op_eq wE.pe wE.pe (nomark _)) (two h at_ fun v1 v2 H2 d1 d2 M2 c2 s2 r1 r2 ⟨i, j, e1, e2, q⟩ => by
    subst e1 e2; cases r1; cases r2
    refine ⟨rfl, _, rfl, hq _ _ _ c2 s2 ?_⟩
    rw [show decide (V.int i = V.int j) = decide (i = j) from decide_eq_decide.mpr ⟨fun z => V.int.inj z, fun z => by rw [z]⟩]
    exact q)
theorem wt_neI (h : WE c a Γ M fun x M1 => WE c b Γ M1 fun y M2 => ∃ i j, x = .int i ∧ y = .int j ∧ R (!decide (i = j)) M2) : WT c (.Compare a [.NotEq] [b] pos) Γ M R := .mk fun X S σ H at_ Q' hq =>
  PT.to (pt_cmpR op_ne wE.pe wE.pe (nomark _)) (two h at_ fun v1 v2 H2 d1 d2 M2 c2 s2 r1 r2 ⟨i, j, e1, e2, q⟩ => by
    subst e1 e2; cases r1; cases r2
    refine ⟨rfl, _, rfl, hq _ _ _ c2 s2 ?_⟩
    rw [show decide (V.int i = V.int j) = decide (i = j) from decide_eq_decide.mpr ⟨fun z => V.int.inj z, fun z => by rw [z]⟩]
    exact q)
theorem we_in (h : WE c a Γ M fun x M1 => WE c b Γ M1 fun y M2 => ∃ x' ys, View M2 x x' ∧ (View M2 y (.lst ys) ∨ View M2 y (.tup ys)) ∧ x'.okd 60 = true ∧ D.okds 60 ys = true ∧ Q (.bl (ys.any fun z => z.eqv x')) M2)
    (hm : behindInMarks .In b = false := by rfl) : WE c (.Compare a [.In] [b] pos) Γ M Q := .mk fun X S σ H at_ Q' hq =>
  PE.to (pe_cmpR (op_inP at_.is.hu) wE.pe wE.pe hm) (two h at_ fun v1 v2 H2 d1 d2 M2 c2 s2 r1 r2 ⟨x', ys, w1, w2, o1, o2, q⟩ => by
    have p1 := D.plain_ok _ _ o1
    have p2 := D.plain_oks _ _ o2
    rw [at_.is.K]
    refine ⟨x'.py, D.pys ys, (w1.rep c2 r1).dp 60 _ o1, ?_, p1.1, p2.1, p1.2, hq _ _ _ _ c2 s2 .bl ?_⟩
    · rcases w2 with w2 | w2
      · exact .inl ((w2.rep c2 r2).dp 61 (.lst ys) (by simpa [D.okd] using o2))
      · exact .inr ((w2.rep c2 r2).dp 61 (.tup ys) (by simpa [D.okd] using o2))
    · rw [D.pys_map, List.any_map]
      exact q)
theorem we_nin (h : WE c a Γ M fun x M1 => WE c b Γ M1 fun y M2 => ∃ x' ys, View M2 x x' ∧ (View M2 y (.lst ys) ∨ View M2 y (.tup ys)) ∧ x'.okd 60 = true ∧ D.okds 60 ys = true ∧ Q (.bl (!ys.any fun z => z.eqv x')) M2)
    (hm : behindInMarks .NotIn b = false := by rfl) : WE c (.Compare a [.NotIn] [b] pos) Γ M Q := .mk fun X S σ H at_ Q' hq =>
  PE.to (pe_cmpR (op_ninP at_.is.hu) wE.pe wE.pe hm) (two h at_ fun v1 v2 H2 d1 d2 M2 c2 s2 r1 r2 ⟨x', ys, w1, w2, o1, o2, q⟩ => by
    have p1 := D.plain_ok _ _ o1
    have p2 := D.plain_oks _ _ o2
    rw [at_.is.K]
    refine ⟨x'.py, D.pys ys, (w1.rep c2 r1).dp 60 _ o1, ?_, p1.1, p2.1, p1.2, hq _ _ _ _ c2 s2 .bl ?_⟩
    · rcases w2 with w2 | w2
      · exact .inl ((w2.rep c2 r2).dp 61 (.lst ys) (by simpa [D.okd] using o2))
      · exact .inr ((w2.rep c2 r2).dp 61 (.tup ys) (by simpa [D.okd] using o2))
    · rw [D.pys_map, List.any_map]
      exact q)

/-! ### subscripts -/
theorem Reps.atI {K A H} {vs : List V} {ds : List D} {i : Int} {d : D} (r : Reps K A H vs ds) (h : atI ds i = some d) : ∃ v, L2.atI vs i = some v ∧ Rep K A H v d := by
  unfold L2.atI at h ⊢
  rw [r.length]
  cases e : ixN ds.length i with
  | none => rw [e] at h; cases h
  | some j =>
    rw [e] at h
    exact r.get h
theorem we_ix (h : WE c a Γ M fun x M1 => WE c b Γ M1 fun y M2 => ∃ ds i d, (x = .tup ds ∨ x = .lst ds ∨ ∃ (j : Nat) (p : Addr), x = .ptr p ∧ M2[j]? = some (p, .lst ds)) ∧ y = .int i ∧ atI ds i = some d ∧ Q d M2)
    (hs : PlainIx b := by exact fun _ _ => rfl) : WE c (.Subscript a b pos) Γ M Q := .mk fun X S σ H at_ Q' hq =>
  PE.to (pe_ix ix_seq wE.pe wE.pe hs) (two h at_ fun v1 v2 H2 d1 d2 M2 c2 s2 r1 r2 ⟨ds, i, d, e1, e2, hd, q⟩ => by
    subst e2; cases r2
    rw [at_.is.K]
    rcases e1 with e1 | e1 | ⟨j, p, e1, hj⟩
    · subst e1
      cases r1 with
      | tup h1 h2 =>
        obtain ⟨v, hv, r⟩ := h2.atI hd
        exact .inr (.inl ⟨_, _, _, v, rfl, rfl, h1.sq, hv, hq _ _ _ _ c2 s2 r q⟩)
    · subst e1
      cases r1 with
      | lst h1 h2 =>
        obtain ⟨v, hv, r⟩ := h2.atI hd
        exact .inl ⟨_, _, _, v, rfl, rfl, h1.sq, hv, hq _ _ _ _ c2 s2 r q⟩
    · subst e1
      cases r1
      obtain ⟨o, ho, vs, e, rs⟩ := c2.at_ hj
      subst e
      obtain ⟨v, hv, r⟩ := rs.atI hd
      exact .inl ⟨_, _, _, v, rfl, rfl, .of ho, hv, hq _ _ _ _ c2 s2 r q⟩)

/-! ### list cells -/
/-- a list that will change -/
theorem we_lstC (h : WA c es Γ M fun ds M1 => ds.length ≤ sizeLine ∧ ∀ p, Q (.ptr p) ((p, .lst ds) :: M1)) : WE c (.List es pos) Γ M Q := .mk fun X S σ H at_ Q' hq =>
  PE.to (pe_lst wA.pa) (h.run X S σ H at_ _ fun vs H1 ds M1 c1 s1 r1 ⟨hl, q⟩ => ⟨by rw [r1.length]; exact hl, fun p np => by
    have k := c1.cell (o := .lst vs) (m := .lst ds) np ⟨vs, rfl, r1⟩
    exact hq _ _ _ _ k.1 (s1.trans k.2) .ptr (q p)⟩)
theorem tyV_list {K : PySem.W.Frag} {p : Addr} {xs : List V} (h : H p = some (.lst xs)) : tyV K "list" (.ref p) H := .inl ⟨rfl, _, SqL.of h⟩
/-- a list cell's method with arguments -/
theorem we_listM {name : Str} {id : String} {r : V → List V → Hp → VK → Prop} {f : List D → List D → D → List D → Prop} {apos : Pos}
    (slot : Slot "list" name id) (hty : typeOf (.builtin id) = pure (.type "method_descriptor")) (hm : ∀ X : Cx, MtR X id r)
    (hr : ∀ {c : Ctx} {S : AS} {M : Cells} {H : Hp} {p : Addr} {vs : List V} {ds : List D} {ws : List V} {es : List D} {z : D} {ds' : List D} {Q' : VK}, H p = some (.lst vs) → Reps c.K (av S M) H vs ds → Reps c.K (av S M) H ws es → f ds es z ds' →
      (∀ zv vs', Rep c.K (av S M) H zv z → Reps c.K (av S M) H vs' ds' → Q' zv (upd H p (.lst vs'))) → r (.ref p) ws H Q')
    (h : WE c a Γ M fun x M1 => ∃ (p : Addr) (i : Nat) (ds : List D), x = .ptr p ∧ M1[i]? = some (p, .lst ds) ∧ WA c (e :: es) Γ M1 fun xs M2 => ∃ (j : Nat) (ds2 : List D) (z : D) (ds' : List D), M2[j]? = some (p, .lst ds2) ∧ f ds2 xs z ds' ∧ Q z (M2.set j (p, .lst ds')))
    (hbase : ∀ env, attributeBase a name env (eval a env) = eval a env := by intro _; rfl)
    (hfew : ∀ env, ((backTo pos (starEach (e :: es) env)).all (fun x => !x.1) && (backToKw pos (keywordEach [] env)).all (fun x => x.1.isSome)
      && decide ((e :: es).length + ([] : List Keyword).length + (if ([] : List Keyword).isEmpty then 0 else 1) < 30)) = true := by intro _; rfl)
    (hline : (apos.endLine == pos.line) = true := by rfl) (hst : ∀ env, starEach (e :: es) env = (false, eval e env) :: starEach es env := by intro _; rfl) (hplain : ∀ env, (backTo pos (starEach es env)).any (·.1) = false := by intro _; rfl) :
    WE c (.Call (.Attribute a name apos) (e :: es) [] pos) Γ M Q := .mk fun X S σ H at_ Q' hq =>
  PE.to (pe_bm PySem.F.plainAttrs_list slot hty (hm X) wE.pe wA.pa (hbase _) (hfew _) hline (hst _) (hplain _)) (h.run X S σ H at_ _ fun v1 H1 d1 M1 c1 s1 r1 ⟨p, i, ds, e1, hi, q1⟩ => by
    subst e1; cases r1
    obtain ⟨o, ho, vs, e, rs⟩ := c1.at_ hi
    subst e
    refine ⟨tyV_list ho, q1.run X S σ H1 (at_.step c1 s1) _ fun ws H2 xs M2 c2 s2 r2 ⟨j, ds2, z, ds', hj, hf, q2⟩ => ?_⟩
    obtain ⟨o2, ho2, vs2, e2, rs2⟩ := c2.at_ hj
    subst e2
    refine hr ho2 rs2 r2 hf fun zv vs' rz rv => ?_
    have k := c2.put (m' := .lst ds') (o := .lst vs') hj ⟨vs', rfl, rv⟩
    exact hq _ _ _ _ k.1 ((s1.trans s2).trans k.2) (rz.to k.2.to) q2)
theorem we_listM0 {name : Str} {id : String} {r : V → List V → Hp → VK → Prop} {f : List D → D → List D → Prop} {apos : Pos}
    (slot : Slot "list" name id) (hty : typeOf (.builtin id) = pure (.type "method_descriptor")) (hm : ∀ X : Cx, MtR X id r)
    (hr : ∀ {c : Ctx} {S : AS} {M : Cells} {H : Hp} {p : Addr} {vs : List V} {ds : List D} {z : D} {ds' : List D} {Q' : VK}, H p = some (.lst vs) → Reps c.K (av S M) H vs ds → f ds z ds' →
      (∀ zv vs', Rep c.K (av S M) H zv z → Reps c.K (av S M) H vs' ds' → Q' zv (upd H p (.lst vs'))) → r (.ref p) [] H Q')
    (h : WE c a Γ M fun x M1 => ∃ (p : Addr) (i : Nat) (ds : List D) (z : D) (ds' : List D), x = .ptr p ∧ M1[i]? = some (p, .lst ds) ∧ f ds z ds' ∧ Q z (M1.set i (p, .lst ds')))
    (hbase : ∀ env, attributeBase a name env (eval a env) = eval a env := by intro _; rfl) (hline : (apos.endLine == pos.line) = true := by rfl) :
    WE c (.Call (.Attribute a name apos) [] [] pos) Γ M Q := .mk fun X S σ H at_ Q' hq =>
  PE.to (pe_bm0 PySem.F.plainAttrs_list slot hty (hm X) wE.pe (hbase _) hline) (h.run X S σ H at_ _ fun v1 H1 d1 M1 c1 s1 r1 ⟨p, i, ds, z, ds', e1, hi, hf, q1⟩ => by
    subst e1; cases r1
    obtain ⟨o, ho, vs, e, rs⟩ := c1.at_ hi
    subst e
    refine ⟨tyV_list ho, hr ho rs hf fun zv vs' rz rv => ?_⟩
    have k := c1.put (m' := .lst ds') (o := .lst vs') hi ⟨vs', rfl, rv⟩
    exact hq _ _ _ _ k.1 (s1.trans k.2) (rz.to k.2.to) q1)
theorem we_append {apos : Pos} (h : WE c a Γ M fun x M1 => ∃ (p : Addr) (i : Nat) (ds : List D), x = .ptr p ∧ M1[i]? = some (p, .lst ds) ∧ WE c e Γ M1 fun y M2 => ∃ (j : Nat) (ds2 : List D), M2[j]? = some (p, .lst ds2) ∧ ds2.length < sizeLine ∧ Q .non (M2.set j (p, .lst (ds2 ++ [y]))))
    (hbase : ∀ env, attributeBase a "append" env (eval a env) = eval a env := by intro _; rfl)
    (hfew : ∀ env, ((backTo pos (starEach [e] env)).all (fun x => !x.1) && (backToKw pos (keywordEach [] env)).all (fun x => x.1.isSome)
      && decide ([e].length + ([] : List Keyword).length + (if ([] : List Keyword).isEmpty then 0 else 1) < 30)) = true := by intro _; rfl)
    (hline : (apos.endLine == pos.line) = true := by rfl) (hst : ∀ env, starEach [e] env = (false, eval e env) :: starEach [] env := by intro _; rfl) :
    WE c (.Call (.Attribute a "append" apos) [e] [] pos) Γ M Q :=
  we_listM (f := fun ds es z ds' => ∃ y, es = [y] ∧ ds.length < sizeLine ∧ z = .non ∧ ds' = ds ++ [y]) PySem.F.slot_list_append PySem.F.type_list_append (fun X => mt_append)
    (fun {c S M H p vs ds ws es z ds' Q'} hp rs re hf q => by
      obtain ⟨y, e1, hl, e2, e3⟩ := hf
      subst e1 e2 e3
      cases re with
      | cons r1 r2 =>
        cases r2
        exact ⟨p, vs, _, rfl, rfl, hp, by rw [rs.length]; exact hl, q _ _ .non (rs.append (.cons r1 .nil))⟩)
    (.mk fun X S σ H at_ Q' hq => h.run X S σ H at_ Q' fun v H' d M' c1 s1 r1 ⟨p, i, ds, e1, hi, q⟩ => hq v H' d M' c1 s1 r1 ⟨p, i, ds, e1, hi, wa_cons (.mk fun X S σ H at_ Q' hq => q.run X S σ H at_ Q' fun v H' d M' c1 s1 r1 ⟨j, ds2, hj, hl, q⟩ => hq v H' d M' c1 s1 r1 (wa_nil ⟨j, ds2, .non, _, hj, ⟨d, rfl, hl, rfl, rfl⟩, q⟩)) hst⟩)
    hbase hfew hline hst (fun _ => rfl)
theorem we_pop {apos : Pos} (h : WE c a Γ M fun x M1 => ∃ (p : Addr) (i : Nat) (ds : List D) (y : D), x = .ptr p ∧ M1[i]? = some (p, .lst ds) ∧ ds[ds.length - 1]? = some y ∧ Q y (M1.set i (p, .lst ds.dropLast)))
    (hbase : ∀ env, attributeBase a "pop" env (eval a env) = eval a env := by intro _; rfl) (hline : (apos.endLine == pos.line) = true := by rfl) : WE c (.Call (.Attribute a "pop" apos) [] [] pos) Γ M Q :=
  we_listM0 (f := fun ds z ds' => ds[ds.length - 1]? = some z ∧ ds' = ds.dropLast) PySem.F.slot_list_pop PySem.F.type_list_pop (fun X => mt_pop)
    (fun {c S M H p vs ds z ds' Q'} hp rs hf q => by
      obtain ⟨e1, e2⟩ := hf
      subst e2
      obtain ⟨v, hv, r⟩ := rs.get e1
      refine ⟨p, vs, v, rfl, rfl, hp, by rw [rs.length]; exact hv, q _ _ r ?_⟩
      rw [List.dropLast_eq_take, List.dropLast_eq_take, rs.length]
      exact rs.take _)
    (.mk fun X S σ H at_ Q' hq => h.run X S σ H at_ Q' fun v H' d M' c1 s1 r1 ⟨p, i, ds, y, e1, hi, hy, q⟩ => hq v H' d M' c1 s1 r1 ⟨p, i, ds, y, _, e1, hi, ⟨hy, rfl⟩, q⟩) hbase hline
theorem we_popAt {apos : Pos} (h : WE c a Γ M fun x M1 => ∃ (p : Addr) (i : Nat) (ds : List D), x = .ptr p ∧ M1[i]? = some (p, .lst ds) ∧ WE c e Γ M1 fun y M2 => ∃ (j : Nat) (ds2 : List D) (k : Int) (n : Nat) (z : D), y = .int k ∧ M2[j]? = some (p, .lst ds2) ∧ -(2 ^ 63) ≤ k ∧ k < 2 ^ 63 ∧ seqIndex? k ds2.length = some n ∧ ds2[n]? = some z ∧ Q z (M2.set j (p, .lst (ds2.eraseIdx n))))
    (hbase : ∀ env, attributeBase a "pop" env (eval a env) = eval a env := by intro _; rfl)
    (hfew : ∀ env, ((backTo pos (starEach [e] env)).all (fun x => !x.1) && (backToKw pos (keywordEach [] env)).all (fun x => x.1.isSome)
      && decide ([e].length + ([] : List Keyword).length + (if ([] : List Keyword).isEmpty then 0 else 1) < 30)) = true := by intro _; rfl)
    (hline : (apos.endLine == pos.line) = true := by rfl) (hst : ∀ env, starEach [e] env = (false, eval e env) :: starEach [] env := by intro _; rfl) :
    WE c (.Call (.Attribute a "pop" apos) [e] [] pos) Γ M Q :=
  we_listM (f := fun ds es z ds' => ∃ k n, es = [.int k] ∧ -(2 ^ 63) ≤ k ∧ k < 2 ^ 63 ∧ seqIndex? k ds.length = some n ∧ ds[n]? = some z ∧ ds' = ds.eraseIdx n) PySem.F.slot_list_pop PySem.F.type_list_pop (fun X => mt_popAt)
    (fun {c S M H p vs ds ws es z ds' Q'} hp rs re hf q => by
      obtain ⟨k, n, e1, h1, h2, h3, h4, e3⟩ := hf
      subst e1 e3
      cases re with
      | cons r1 r2 =>
        cases r2
        cases r1
        obtain ⟨v, hv, r⟩ := rs.get h4
        exact ⟨p, vs, k, n, v, rfl, rfl, hp, h1, h2, by rw [rs.length]; exact h3, hv, q _ _ r (rs.eraseIdx n)⟩)
    (.mk fun X S σ H at_ Q' hq => h.run X S σ H at_ Q' fun v H' d M' c1 s1 r1 ⟨p, i, ds, e1, hi, q⟩ => hq v H' d M' c1 s1 r1 ⟨p, i, ds, e1, hi, wa_cons (.mk fun X S σ H at_ Q' hq => q.run X S σ H at_ Q' fun v H' d M' c1 s1 r1 ⟨j, ds2, k, n, z, e2, hj, h1, h2, h3, h4, q⟩ => hq v H' d M' c1 s1 r1 (wa_nil (by
      subst e2
      exact ⟨j, ds2, z, _, hj, ⟨k, n, rfl, h1, h2, h3, h4, rfl⟩, q⟩))) hst⟩)
    hbase hfew hline hst (fun _ => rfl)
end
end PL
namespace PL
open PySem PySem.Spec PyProof.Rows L2

/-! ### dict cells -/
def keyD : Key → D
  | .inl i => .int i
  | .inr x => .str x
def lookK (kvs : List (Key × D)) (k : Key) : Option D := (kvs.find? fun kv => decide (kv.1 = k)).map (·.2)
def storeK (kvs : List (Key × D)) (k : Key) (d : D) : List (Key × D) :=
  if (kvs.any fun kv => decide (kv.1 = k)) = true then kvs.map (fun kv => if kv.1 = k then (kv.1, d) else kv) else kvs ++ [(k, d)]
section
variable {K : PySem.W.Frag} {A : AS} {H : Hp}
theorem RepK.length : ∀ {vs : List (Key × V)} {ds : List (Key × D)}, RepK K A H vs ds → vs.length = ds.length
  | _, _, .nil => rfl
  | _, _, .cons _ rs => by rw [List.length_cons, List.length_cons, rs.length]
theorem RepK.look : ∀ {vs : List (Key × V)} {ds : List (Key × D)} (k : Key), RepK K A H vs ds → (lookK ds k = none ∧ valV vs k = none) ∨ ∃ d v, lookK ds k = some d ∧ valV vs k = some v ∧ Rep K A H v d
  | _, _, _, .nil => .inl ⟨rfl, rfl⟩
  | _, _, k, .cons (k := k') (v := v) (d := d) r rs => by
    by_cases e : k' = k
    · refine .inr ⟨d, v, ?_, ?_, r⟩
      · simp [lookK, List.find?_cons, e]
      · simp [valV, List.find?_cons, e]
    · have h1 : ∀ ds : List (Key × D), lookK ((k', d) :: ds) k = lookK ds k := fun ds => by simp [lookK, List.find?_cons, e]
      have h2 : ∀ vs : List (Key × V), valV ((k', v) :: vs) k = valV vs k := fun vs => by simp [valV, List.find?_cons, e]
      rw [h1, h2]
      exact RepK.look k rs
theorem RepK.any : ∀ {vs : List (Key × V)} {ds : List (Key × D)} (k : Key), RepK K A H vs ds → (vs.any fun kv => decide (kv.1 = k)) = (ds.any fun kv => decide (kv.1 = k))
  | _, _, _, .nil => rfl
  | _, _, k, .cons _ rs => by rw [List.any_cons, List.any_cons, RepK.any k rs]
theorem RepK.append : ∀ {vs ws : List (Key × V)} {ds es : List (Key × D)}, RepK K A H vs ds → RepK K A H ws es → RepK K A H (vs ++ ws) (ds ++ es)
  | _, _, _, _, .nil, s => s
  | _, _, _, _, .cons r rs, s => .cons r (rs.append s)
theorem RepK.mapPut : ∀ {vs : List (Key × V)} {ds : List (Key × D)} (k : Key) {v : V} {d : D}, RepK K A H vs ds → Rep K A H v d → RepK K A H (vs.map (fun kv => if kv.1 = k then (kv.1, v) else kv)) (ds.map (fun kv => if kv.1 = k then (kv.1, d) else kv))
  | _, _, _, _, _, .nil, _ => .nil
  | _, _, k, v, d, .cons (k := k') r rs, q => by
    rw [List.map_cons, List.map_cons]
    by_cases e : k' = k
    · rw [if_pos e, if_pos e]
      exact .cons q (rs.mapPut k q)
    · rw [if_neg e, if_neg e]
      exact .cons r (rs.mapPut k q)
theorem RepK.put {vs : List (Key × V)} {ds : List (Key × D)} (k : Key) {v : V} {d : D} (rs : RepK K A H vs ds) (q : Rep K A H v d) : RepK K A H (putK vs k v) (storeK ds k d) := by
  unfold putK storeK
  rw [rs.any k]
  split
  · exact rs.mapPut k q
  · exact rs.append (.cons q .nil)
theorem Rep.key {v : V} {k : Key} (r : Rep K A H v (keyD k)) : v = kV k := by
  cases k <;> (cases r; rfl)
end
section
variable {c : Ctx} {X : Cx} {S : AS} {Γ Γ' : Gam} {M M' : Cells} {σ σ' : L2.St} {H H' : Hp} {a b e : Expr} {es : List Expr} {pos pos' : Pos} {Q : D → Cells → Prop} {R : Bool → Cells → Prop} {x : Str} {E : PEnds}
theorem Ctx.Is.hu1 (i : c.Is X) : X.A.units + 1 < cLine := by have := i.hu; omega
/-- d[k], the dict a cell -/
theorem we_dget (h : WE c a Γ M fun x M1 => WE c b Γ M1 fun y M2 => ∃ (p : Addr) (i : Nat) (kvs : List (Key × D)) (k : Key) (d : D), x = .ptr p ∧ M2[i]? = some (p, .dK kvs) ∧ y = keyD k ∧ lookK kvs k = some d ∧ Q d M2)
    (hs : NoSl b := by exact fun _ _ => rfl) : WE c (.Subscript a b pos) Γ M Q := .mk fun X S σ H at_ Q' hq =>
  PE.to (pe_dget at_.is.hu1 wE.pe wE.pe hs) (two h at_ fun v1 v2 H2 d1 d2 M2 c2 s2 r1 r2 ⟨p, i, kvs, k, d, e1, hi, e2, hl, q⟩ => by
    subst e1 e2; cases r1
    have ek := r2.key
    subst ek
    obtain ⟨o, ho, vs, e, rs⟩ := c2.at_ hi
    subst e
    rcases rs.look k with ⟨l, _⟩ | ⟨d', v, l1, l2, r⟩
    · rw [l] at hl; cases hl
    · rw [l1] at hl
      have := Option.some.inj hl
      subst this
      exact ⟨p, v, rfl, by rw [← l2]; exact DGet.k ho, hq _ _ _ _ c2 s2 r q⟩)
theorem we_din (h : WE c a Γ M fun y M1 => WE c b Γ M1 fun x M2 => ∃ (p : Addr) (i : Nat) (kvs : List (Key × D)) (k : Key), x = .ptr p ∧ M2[i]? = some (p, .dK kvs) ∧ y = keyD k ∧ Q (.bl (lookK kvs k).isSome) M2) (hm : behindInMarks .In b = false := by rfl) :
    WE c (.Compare a [.In] [b] pos) Γ M Q := .mk fun X S σ H at_ Q' hq =>
  PE.to (pe_cmp (pc_din at_.is.hu1 wE.pe wE.pe) hm) (two h at_ fun v1 v2 H2 d1 d2 M2 c2 s2 r1 r2 ⟨p, i, kvs, k, e1, hi, e2, q⟩ => by
    subst e1 e2; cases r2
    have ek := r1.key
    subst ek
    obtain ⟨o, ho, vs, e, rs⟩ := c2.at_ hi
    subst e
    refine ⟨p, valV vs k, rfl, DGet.k ho, ?_⟩
    have e3 : (valV vs k).isSome = (lookK kvs k).isSome := by
      rcases rs.look k with ⟨l, l'⟩ | ⟨d', v, l1, l2, r⟩
      · rw [l, l']; rfl
      · rw [l1, l2]; rfl
    rw [e3]
    exact hq _ _ _ _ c2 s2 .bl q)
theorem we_dnin (h : WE c a Γ M fun y M1 => WE c b Γ M1 fun x M2 => ∃ (p : Addr) (i : Nat) (kvs : List (Key × D)) (k : Key), x = .ptr p ∧ M2[i]? = some (p, .dK kvs) ∧ y = keyD k ∧ Q (.bl (!(lookK kvs k).isSome)) M2) (hm : behindInMarks .NotIn b = false := by rfl) :
    WE c (.Compare a [.NotIn] [b] pos) Γ M Q := .mk fun X S σ H at_ Q' hq =>
  PE.to (pe_cmp (pc_dnotin at_.is.hu1 wE.pe wE.pe) hm) (two h at_ fun v1 v2 H2 d1 d2 M2 c2 s2 r1 r2 ⟨p, i, kvs, k, e1, hi, e2, q⟩ => by
    subst e1 e2; cases r2
    have ek := r1.key
    subst ek
    obtain ⟨o, ho, vs, e, rs⟩ := c2.at_ hi
    subst e
    refine ⟨p, valV vs k, rfl, DGet.k ho, ?_⟩
    have e3 : (valV vs k).isSome = (lookK kvs k).isSome := by
      rcases rs.look k with ⟨l, l'⟩ | ⟨d', v, l1, l2, r⟩
      · rw [l, l']; rfl
      · rw [l1, l2]; rfl
    rw [e3]
    exact hq _ _ _ _ c2 s2 .bl q)
/-- {} -/
theorem we_dnew (h : ∀ p, Q (.ptr p) ((p, .dK []) :: M)) : WE c (.Dict [] [] pos) Γ M Q := .mk fun X S σ H at_ Q' hq =>
  PE.to pe_dnewK (fun p np => by
    have k := at_.core.cell (o := .dK []) (m := .dK []) np ⟨[], rfl, .nil⟩
    exact hq _ _ _ _ k.1 k.2 .ptr (h p))
/-- {k: v, ..}, two to four pairs, by a list of pairs -/
def WP (c : Ctx) : List (Expr × Expr) → Gam → Cells → (List (D × D) → Cells → Prop) → Prop
  | [], _, M, R => R [] M
  | (k, v) :: r, Γ, M, R => WE c k Γ M fun x M1 => WE c v Γ M1 fun y M2 => WP c r Γ M2 fun ps M3 => R ((x, y) :: ps) M3
theorem wp_nil {R : List (D × D) → Cells → Prop} (h : R [] M) : WP c [] Γ M R := h
theorem wp_cons {k v : Expr} {r : List (Expr × Expr)} {R : List (D × D) → Cells → Prop} (h : WE c k Γ M fun x M1 => WE c v Γ M1 fun y M2 => WP c r Γ M2 fun ps M3 => R ((x, y) :: ps) M3) : WP c ((k, v) :: r) Γ M R := h
theorem wp_pps : ∀ (kvs : List (Expr × Expr)) {R : List (D × D) → Cells → Prop} {M : Cells} {H : Hp}, WP c kvs Γ M R → At c X S Γ M σ H → ∀ {T : List (V × V) → Hp → Prop},
    (∀ ps H' ds M', Core c.K S M' H' → Step M M' H H' → Paired (fun (p : V × V) (d : D × D) => Rep c.K (av S M') H' p.1 d.1 ∧ Rep c.K (av S M') H' p.2 d.2) ps ds → R ds M' → T ps H') →
    tPairs (kvs.map fun kv => (wE X kv.1, wE X kv.2)) σ H T
  | [], R, M, H, h, at_, T, hT => hT [] H [] M at_.core .refl .nil h
  | (k, v) :: r, R, M, H, h, at_, T, hT => by
    show wE X k σ H fun x H1 => wE X v σ H1 fun y H2 => tPairs (r.map fun kv => (wE X kv.1, wE X kv.2)) σ H2 fun ps H3 => T ((x, y) :: ps) H3
    have h' : WE c k Γ M fun x M1 => WE c v Γ M1 fun y M2 => WP c r Γ M2 fun ps M3 => R ((x, y) :: ps) M3 := h
    exact two h' at_ fun v1 v2 H2 d1 d2 M2 c2 s2 r1 r2 q => wp_pps r q (at_.step c2 s2) fun ps H3 ds M3 c3 s3 rp q3 => hT _ _ _ _ c3 (s2.trans s3) (.cons ⟨r1.to s3.to, r2.to s3.to⟩ rp) q3
theorem we_disp {keys : List (Option Expr)} {values : List Expr} {kvs : List (Expr × Expr)} (hk : keys = kvs.map fun kv => some kv.1) (hv : values = kvs.map (·.2)) (h0 : kvs ≠ []) (h15 : kvs.length ≤ 15)
    (h : ∀ p, WP c kvs Γ ((p, .dK []) :: M) fun ps M1 => ∃ (i : Nat) (ks : List (Key × D)), M1[i]? = some (p, .dK []) ∧ ps = ks.map (fun kd => (keyD kd.1, kd.2)) ∧ ks.length ≤ 15 ∧ Q (.ptr p) (M1.set i (p, .dK (ks.foldl (fun acc kd => storeK acc kd.1 kd.2) [])))) :
    WE c (.Dict keys values pos) Γ M Q := .mk fun X S σ H at_ Q' hq => by
  subst hk hv
  have pps : ∀ l : List (Expr × Expr), PPs X pos (l.map fun kv => some kv.1) (l.map (·.2)) (l.map fun kv => (wE X kv.1, wE X kv.2)) := by
    intro l
    induction l with
    | nil => exact pps_nil
    | cons kv l ih => exact pps_cons wE.pe wE.pe ih
  refine PE.to (pe_disp (pps kvs) (by simp) (by simp) (by simpa using h0) (by simpa using h15)) (fun p np => ?_)
  have k := at_.core.cell (o := .dK []) (m := .dK []) np ⟨[], rfl, .nil⟩
  refine wp_pps kvs (h p) (at_.step k.1 k.2) fun ps H2 ds M2 c2 s2 rp ⟨i, ks, hi, e, hl15, q⟩ => ?_
  subst e
  obtain ⟨o, ho, vs, e, rs⟩ := c2.at_ hi
  cases rs
  subst e
  -- the values
  have : ∀ (ks : List (Key × D)) (ps : List (V × V)), Paired (fun (p : V × V) (d : D × D) => Rep c.K (av S M2) H2 p.1 d.1 ∧ Rep c.K (av S M2) H2 p.2 d.2) ps (ks.map fun kd => (keyD kd.1, kd.2)) →
      ∃ vs : List (Key × V), ps = vs.map (fun kv => (kV kv.1, kv.2)) ∧ RepK c.K (av S M2) H2 vs ks := by
    intro ks
    induction ks with
    | nil =>
      intro ps rp
      cases rp
      exact ⟨[], rfl, .nil⟩
    | cons kd ks ih =>
      intro ps rp
      rw [List.map_cons] at rp
      cases rp with
      | @cons p _ ps _ r1 r2 =>
        obtain ⟨vs, e, rs⟩ := ih _ r2
        have ek := r1.1.key
        exact ⟨(kd.1, p.2) :: vs, by rw [List.map_cons, e, ← ek], .cons r1.2 rs⟩
  obtain ⟨vs, e, rs⟩ := this ks ps rp
  have merge : ∀ (vs : List (Key × V)) (ks : List (Key × D)) (acc : List (Key × V)) (accd : List (Key × D)), RepK c.K (av S M2) H2 vs ks → RepK c.K (av S M2) H2 acc accd →
      RepK c.K (av S M2) H2 (mergeK acc vs) (ks.foldl (fun acc kd => storeK acc kd.1 kd.2) accd) := by
    intro vs
    induction vs with
    | nil =>
      intro ks acc accd r1 r2
      cases r1
      exact r2
    | cons v vs ih =>
      intro ks acc accd r1 r2
      cases r1 with
      | @cons k v d vs ds r rr => exact ih _ (putK acc k v) (storeK accd k d) rr (r2.put k r)
  have kp := c2.put (m' := .dK (ks.foldl (fun acc kd => storeK acc kd.1 kd.2) [])) (o := .dK (mergeK [] vs)) hi ⟨_, rfl, merge vs ks [] [] rs .nil⟩
  exact ⟨ho, vs, e, by rw [rs.length]; exact hl15, hq _ _ _ _ kp.1 ((k.2.trans s2).trans kp.2) .ptr q⟩

/-! ### built-in calls -/
theorem we_callB {id : String} {r : List V → Hp → VK → Prop} (hc : ∀ X : Cx, X.calm = true → CallR X (.builtin id) r) (hg : GlC c.sc x) (hm : c.mg x = none) (hv : bootBuiltins x = some (.builtin id))
    (h : WA c (e :: es) Γ M fun ds M1 => ∀ (S : AS) (H : Hp) (vs : List V), Core c.K S M1 H → Reps c.K (av S M1) H vs ds → ∀ Q' : VK, (∀ v H' d M', Core c.K S M' H' → Step M1 M' H H' → Rep c.K (av S M') H' v d → Q d M' → Q' v H') → r vs H Q')
    (hn : x ≠ "__name__" := by decide) (hdb : (x == ("__debug__" : Str)) = false := by decide) {p : Pos}
    (he : ∀ env, starEach (e :: es) env = (false, eval e env) :: starEach es env := by intro _; rfl) (hpl : ∀ env, (backTo pos (starEach es env)).any (·.1) = false := by intro _; rfl) : WE c (.Call (.Name x p) (e :: es) [] pos) Γ M Q := .mk fun X S σ H at_ Q' hq =>
  PE.to (pe_callB (hc X at_.is.calm) (at_.is.gl hg) (at_.is.mgN hm) hv wA.pa hn hdb (he _) (hpl _)) (h.run X S σ H at_ _ fun vs H1 ds M1 c1 s1 r1 q => q S H1 vs c1 r1 Q' fun v H' d M' c2 s2 r2 q2 => hq v H' d M' c2 (s1.trans s2) r2 q2)
theorem we_abs {p : Pos} (hg : GlC c.sc "abs") (hm : c.mg "abs" = none) (h : WE c e Γ M fun x M1 => ∃ i, x = .int i ∧ Q (.int (if i < 0 then -i else i)) M1)
    (he : ∀ env, starEach [e] env = (false, eval e env) :: starEach [] env := by intro _; rfl) : WE c (.Call (.Name "abs" p) [e] [] pos) Γ M Q :=
  we_callB (fun X _ => call_abs) hg hm (by decide +kernel) (wa_cons (.mk fun X S σ H at_ Q' hq => h.run X S σ H at_ Q' fun v H' d M' c1 s1 r1 ⟨i, e1, q⟩ => hq v H' d M' c1 s1 r1 (wa_nil (by
    subst e1
    intro S2 H2 vs c2 r2 Q2 hq2
    cases r2 with
    | cons r r' =>
      cases r'; cases r
      exact ⟨i, rfl, hq2 _ _ _ _ c2 .refl .int q⟩))) he) (he := he) (hpl := fun _ => rfl)
theorem we_min2 {p : Pos} {e' : Expr} (hg : GlC c.sc "min") (hm : c.mg "min" = none) (h : WE c e Γ M fun x M1 => WE c e' Γ M1 fun y M2 => ∃ i j, x = .int i ∧ y = .int j ∧ Q (.int (if j < i then j else i)) M2)
    (he : ∀ env, starEach [e, e'] env = (false, eval e env) :: starEach [e'] env := by intro _; rfl) (he2 : ∀ env, starEach [e'] env = (false, eval e' env) :: starEach [] env := by intro _; rfl) : WE c (.Call (.Name "min" p) [e, e'] [] pos) Γ M Q :=
  we_callB (fun X hc => call_min2 hc) hg hm (by decide +kernel) (wa_cons (.mk fun X S σ H at_ Q' hq => h.run X S σ H at_ Q' fun v H' d M' c1 s1 r1 q0 => hq v H' d M' c1 s1 r1 (wa_cons (.mk fun X S σ H at_ Q' hq => q0.run X S σ H at_ Q' fun v H' d' M' c1 s1 r1 ⟨i, j, e1, e2, q⟩ => hq v H' d' M' c1 s1 r1 (wa_nil (by
    subst e1 e2
    intro S2 H2 vs c2 r2 Q2 hq2
    cases r2 with
    | cons r r' =>
      cases r' with
      | cons r1 r2 =>
        cases r2; cases r; cases r1
        exact ⟨i, j, rfl, hq2 _ _ _ _ c2 .refl .int q⟩))) he2)) he) (he := he) (hpl := fun env => by rw [he2]; rfl)
theorem we_max2 {p : Pos} {e' : Expr} (hg : GlC c.sc "max") (hm : c.mg "max" = none) (h : WE c e Γ M fun x M1 => WE c e' Γ M1 fun y M2 => ∃ i j, x = .int i ∧ y = .int j ∧ Q (.int (if j > i then j else i)) M2)
    (he : ∀ env, starEach [e, e'] env = (false, eval e env) :: starEach [e'] env := by intro _; rfl) (he2 : ∀ env, starEach [e'] env = (false, eval e' env) :: starEach [] env := by intro _; rfl) : WE c (.Call (.Name "max" p) [e, e'] [] pos) Γ M Q :=
  we_callB (fun X hc => call_max2 hc) hg hm (by decide +kernel) (wa_cons (.mk fun X S σ H at_ Q' hq => h.run X S σ H at_ Q' fun v H' d M' c1 s1 r1 q0 => hq v H' d M' c1 s1 r1 (wa_cons (.mk fun X S σ H at_ Q' hq => q0.run X S σ H at_ Q' fun v H' d' M' c1 s1 r1 ⟨i, j, e1, e2, q⟩ => hq v H' d' M' c1 s1 r1 (wa_nil (by
    subst e1 e2
    intro S2 H2 vs c2 r2 Q2 hq2
    cases r2 with
    | cons r r' =>
      cases r' with
      | cons r1 r2 =>
        cases r2; cases r; cases r1
        exact ⟨i, j, rfl, hq2 _ _ _ _ c2 .refl .int q⟩))) he2)) he) (he := he) (hpl := fun env => by rw [he2]; rfl)
theorem we_len {p : Pos} (hg : GlC c.sc "len") (hm : c.mg "len" = none) (h : WE c e Γ M fun x M1 => ∃ ds, (View M1 x (.lst ds) ∨ View M1 x (.tup ds)) ∧ Q (.int (ds.length : Int)) M1)
    (he : ∀ env, starEach [e] env = (false, eval e env) :: starEach [] env := by intro _; rfl) : WE c (.Call (.Name "len" p) [e] [] pos) Γ M Q :=
  .mk fun X S σ H at_ Q' hq => PE.to (pe_callB call_len_seq (at_.is.gl hg) (at_.is.mgN hm) PySem.boot_len wA.pa (by decide) (by decide) (he _) rfl) ((wa_cons (c := c) (R := fun ds M1 => ∃ x zs, ds = [x] ∧ (View M1 x (.lst zs) ∨ View M1 x (.tup zs)) ∧ Q (.int (zs.length : Int)) M1) (.mk fun X S σ H at_ Q' hq => h.run X S σ H at_ Q' fun v H' d M' c1 s1 r1 ⟨ds, w, q⟩ => hq v H' d M' c1 s1 r1 (wa_nil ⟨d, ds, rfl, w, q⟩)) he).run X S σ H at_ _ (fun vs H1 ds M1 c1 s1 r1 ⟨x, zs, e1, w, q⟩ => by
    subst e1
    cases r1 with
    | cons r r' =>
      cases r'
      rw [at_.is.K]
      rcases w with w | w
      · have rr := w.rep c1 r
        cases rr with
        | lst h1 h2 => exact ⟨_, _, rfl, .inl h1.sq, by rw [h2.length]; exact hq _ _ _ _ c1 s1 .int q⟩
      · have rr := w.rep c1 r
        cases rr with
        | tup h1 h2 => exact ⟨_, _, rfl, .inr h1.sq, by rw [h2.length]; exact hq _ _ _ _ c1 s1 .int q⟩))
end
end PL
namespace PL
open PySem PySem.Spec PyProof.Rows L2

def wGs (X : Cx) (tgs : List Expr) : TGs := fun vs σ H Q => ∀ pins s us, Inv X pins σ H s → Vals vs us → wpAny (model X.prog X.w) X.A (assignInOrder ((assignEach tgs X.env).map (·.2)) us) (fun _ s' => ∃ σ' H', Inv X pins σ' H' s' ∧ Q σ' H') X.xe s
theorem wGs.pgs {X : Cx} {es : List Expr} : PGs X es (wGs X es) := ⟨fun pins s σ H vs us Q I r h => h pins s us I r⟩
theorem PGs.to {X : Cx} {es : List Expr} {t : TGs} {v σ H Q} (h : PGs X es t) (q : t v σ H Q) : wGs X es v σ H Q := fun pins s u I r => h.run pins s σ H v u Q I r q
structure WGs (c : Ctx) (tgs : List Expr) (ds : List D) (Γ : Gam) (M : Cells) (E : Gam → Cells → Prop) : Prop where
  run : ∀ X S σ H, At c X S Γ M σ H → ∀ vs, Reps c.K (av S M) H vs ds → ∀ Q' : L2.St → Hp → Prop, (∀ σ' H' Γ' M', Core c.K S M' H' → Slots c.K (av S M') H' Γ' σ' → Step M M' H H' → E Γ' M' → Q' σ' H') → wGs X tgs vs σ H Q'
section
variable {c : Ctx} {X : Cx} {S : AS} {Γ Γ' : Gam} {M M' : Cells} {σ σ' : L2.St} {H H' : Hp} {a b e tg : Expr} {es tgs : List Expr} {pos pos' : Pos} {Q : D → Cells → Prop} {R : Bool → Cells → Prop} {x : Str} {E : PEnds} {st : Stmt} {rest s1 s2 body : List Stmt} {d : D} {ds : List D} {G : Gam → Cells → Prop}

/-! ### targets -/
theorem wg_name {i : Nat} (hN : c.N[i]? = some x) (hl : LocC c x) (h : G (Γ.set i (some d)) M) : WG c (.Name x pos) d Γ M G := .mk fun X S σ H at_ v r Q' hq =>
  PG.to (pg_name at_.is.nd (at_.is.nm hN) (at_.is.loc hl) (at_.is.st hl)) (hq _ _ _ _ at_.core (at_.slots.set r) .refl h)
theorem wgs_nil (h : G Γ M) : WGs c [] [] Γ M G := .mk fun X S σ H at_ vs r Q' hq => by
  cases r
  exact PGs.to pgs_nil ⟨rfl, hq _ _ _ _ at_.core at_.slots .refl h⟩
theorem wgs_cons (h : WG c tg d Γ M fun Γ1 M1 => WGs c tgs ds Γ1 M1 G) (hs : ∀ env, (assignEach (tg :: tgs) env).map (·.2) = assign tg env :: (assignEach tgs env).map (·.2) := by intro _; rfl) : WGs c (tg :: tgs) (d :: ds) Γ M G := .mk fun X S σ H at_ vs r Q' hq => by
  cases r with
  | cons r rs =>
    exact PGs.to (pgs_cons wG.pg wGs.pgs (hs _)) ⟨_, _, rfl, h.run X S σ H at_ _ r _ fun σ1 H1 Γ1 M1 c1 sl1 st1 q => q.run X S σ1 H1 (at_.slot c1 sl1 st1) _ (rs.to st1.to) _ fun σ2 H2 Γ2 M2 c2 sl2 st2 q2 => hq _ _ _ _ c2 sl2 (st1.trans st2) q2⟩
theorem wg_tup {k : Nat} (hl : tgs.length = ds.length) (h : WGs c tgs ds Γ M G) (hn : ∀ env, (assignEach tgs env).length = tgs.length := by intro _; rfl) (hst : ∀ env, (assignEach tgs env).findIdx? (·.1) = none := by intro _; rfl) : WG c (.Tuple tgs k pos) (.tup ds) Γ M G := .mk fun X S σ H at_ v r Q' hq => by
  cases r with
  | tup h1 h2 =>
    refine PG.to (pg_tup at_.is.calm wGs.pgs (hn _) (hst _)) ⟨_, _, rfl, ?_, by rw [h2.length, hl], h.run X S σ H at_ _ h2 _ hq⟩
    rw [at_.is.K]
    exact h1.sq

/-! ### statements -/
theorem wss_nil (h : E.nx Γ M) : WSs c [] E Γ M := .mk fun X S σ H at_ Ds l => PSs.to pss_nil (l.nx _ _ _ _ at_.core at_.slots .refl h)
theorem wss_cons (h : WS c st { E with nx := fun Γ1 M1 => WSs c rest E Γ1 M1 } Γ M) : WSs c (st :: rest) E Γ M := .mk fun X S σ H at_ Ds l =>
  PSs.to (pss_cons wS.ps wSs.pss) (h.run X S σ H at_ { Ds with nx := wSs X rest Ds } ⟨fun σ1 H1 Γ1 M1 c1 sl1 st1 q => q.run X S σ1 H1 (at_.slot c1 sl1 st1) Ds (l.step st1), l.rt, l.bk, l.ct⟩)
theorem ws_asg {i : Nat} (hN : c.N[i]? = some x) (hl : LocC c x) (h : WE c e Γ M fun d M1 => E.nx (Γ.set i (some d)) M1) (hs : ∀ env, swapsWith e (some (.Name x pos')) pos.line env = pure false := by intro _; rfl) :
    WS c (.Assign [.Name x pos'] e pos) E Γ M := .mk fun X S σ H at_ Ds l =>
  PS.to (ps_set at_.is.nd (at_.is.nm hN) (at_.is.loc hl) wE.pe (hs _) (at_.is.st hl)) (h.run X S σ H at_ _ fun v H1 d M1 c1 s1 r1 q => l.nx _ _ _ _ c1 ((at_.slots.to s1.to).set r1) s1 q)
theorem ws_asgG (h : WE c e Γ M fun d M1 => WG c tg d Γ M1 E.nx) (hs : ∀ env, swapsWithSole [tg] e pos.line env = pure false := by intro _; rfl) (hw : ∀ env, env.scope = c.sc → swappedStores [tg] e env = pure none := by first | (intro _ _; rfl) | (rintro ⟨_, _, _, _, _, _, _, _, _⟩ rfl; rfl))
    (h1 : ∀ env, (assignEach [tg] env).map (·.2) = [assign tg env] := by intro _; rfl) : WS c (.Assign [tg] e pos) E Γ M := .mk fun X S σ H at_ Ds l =>
  PS.to (ps_asg wE.pe wG.pg (hs _) (hw _ at_.is.sc) (h1 _)) (h.run X S σ H at_ _ fun v H1 d M1 c1 s1 r1 q => q.run X S σ H1 (at_.step c1 s1) _ r1 _ fun σ2 H2 Γ2 M2 c2 sl2 s2 q2 => l.nx _ _ _ _ c2 sl2 (s1.trans s2) q2)
/-- x, y = a, b -/
theorem ws_par {i j : Nat} {y : Str} {px py pt pt2 : Pos} {kt k2 : Nat} (hi : c.N[i]? = some x) (hj : c.N[j]? = some y) (hij : i ≠ j) (hx : c.sc.names.lookup x = some .local) (hy : c.sc.names.lookup y = some .local)
    (h : WE c a Γ M fun d M1 => WE c b Γ M1 fun d2 M2 => E.nx ((Γ.set i (some d)).set j (some d2)) M2)
    (hw : ∀ env, env.scope = c.sc → swappedStores [.Tuple [.Name x px, .Name y py] kt pt] (.Tuple [a, b] k2 pt2) env = pure (some [x, y]) := by first | (rintro ⟨_, _, _, _, _, _, _, _, _⟩ rfl; rfl))
    (hs : ∀ env, swapsWithSole [.Tuple [.Name x px, .Name y py] kt pt] (.Tuple [a, b] k2 pt2) pos.line env = pure false := by intro _; rfl)
    (hst : ∀ env, starEach [a, b] env = (false, eval a env) :: starEach [b] env := by intro _; rfl) (hst2 : ∀ env, starEach [b] env = (false, eval b env) :: starEach [] env := by intro _; rfl) :
    WS c (.Assign [.Tuple [.Name x px, .Name y py] kt pt] (.Tuple [a, b] k2 pt2) pos) E Γ M := .mk fun X S σ H at_ Ds l =>
  PS.to (ps_par at_.is.calm at_.is.nd (at_.is.nm hi) (at_.is.nm hj) hij (by rw [at_.is.sc]; exact hx) (by rw [at_.is.sc]; exact hy) (pa_cons wE.pe (pa_cons wE.pe pa_nil (hst2 _)) (hst _)) (hw _ at_.is.sc) (hs _))
    (two h at_ fun v1 v2 H2 d1 d2 M2 c2 s2 r1 r2 q => ⟨v1, v2, rfl, l.nx _ _ _ _ c2 (((at_.slots.to s2.to).set r1).set r2) s2 q⟩)
theorem ws_aug {i : Nat} {op : Operator} {f : Int → Int → Int} {k : Int} (hop : ∀ X : Cx, PIp X op (ipI f)) (hN : c.N[i]? = some x) (hl : LocC c x) (hΓ : Γ[i]? = some (some (.int k))) (h : WE c e Γ M fun d M1 => ∃ j, d = .int j ∧ E.nx (Γ.set i (some (.int (f k j)))) M1) :
    WS c (.AugAssign (.Name x pos') op e pos) E Γ M := .mk fun X S σ H at_ Ds l => by
  obtain ⟨v, hv, r⟩ := at_.slots.at_ i _ hΓ
  cases r
  refine PS.to (ps_aug at_.is.nd (at_.is.nm hN) (at_.is.loc hl) wE.pe (hop X) (at_.is.st hl)) ⟨_, hv, h.run X S σ H at_ _ fun v H1 d M1 c1 s1 r1 ⟨j, e1, q⟩ => ?_⟩
  subst e1; cases r1
  exact ⟨k, j, rfl, rfl, l.nx _ _ _ _ c1 ((at_.slots.to s1.to).set .int) s1 q⟩
theorem ws_add {i : Nat} {k : Int} (hN : c.N[i]? = some x) (hl : LocC c x) (hΓ : Γ[i]? = some (some (.int k))) (h : WE c e Γ M fun d M1 => ∃ j, d = .int j ∧ E.nx (Γ.set i (some (.int (k + j)))) M1) : WS c (.AugAssign (.Name x pos') .Add e pos) E Γ M :=
  ws_aug (f := fun i j => i + j) (fun X => ip_add) hN hl hΓ h
theorem ws_expr (h : WE c e Γ M fun _ M1 => E.nx Γ M1) (hs : ∀ env, swapsWith e none pos.line env = pure false := by intro _; rfl) : WS c (.Expr e pos) E Γ M := .mk fun X S σ H at_ Ds l =>
  PS.to (ps_expr wE.pe (hs _)) (h.run X S σ H at_ _ fun v H1 d M1 c1 s1 r1 q => l.nx _ _ _ _ c1 (at_.slots.to s1.to) s1 q)
theorem ws_ret (h : WE c e Γ M E.rt) : WS c (.Return (some e) pos) E Γ M := .mk fun X S σ H at_ Ds l =>
  PS.to (ps_ret wE.pe) (h.run X S σ H at_ _ fun v H1 d M1 c1 s1 r1 q => l.rt _ _ _ _ c1 s1 r1 q)
theorem ws_retN (h : E.rt .non M) : WS c (.Return none pos) E Γ M := .mk fun X S σ H at_ Ds l =>
  PS.to ps_retN (l.rt _ _ _ _ at_.core .refl .non h)
theorem ws_pass (h : E.nx Γ M) : WS c (.Pass pos) E Γ M := .mk fun X S σ H at_ Ds l => PS.to ps_pass (l.nx _ _ _ _ at_.core at_.slots .refl h)
theorem ws_break (h : E.bk Γ M) : WS c (.Break pos) E Γ M := .mk fun X S σ H at_ Ds l => PS.to ps_break (l.bk _ _ _ _ at_.core at_.slots .refl h)
theorem ws_cont (h : E.ct Γ M) : WS c (.Continue pos) E Γ M := .mk fun X S σ H at_ Ds l => PS.to ps_continue (l.ct _ _ _ _ at_.core at_.slots .refl h)
theorem ws_never (h : False) : WS c st E Γ M := h.elim
theorem ws_if (h : WT c e Γ M fun k M1 => Br k (WSs c s1 E Γ M1) (WSs c s2 E Γ M1)) : WS c (.If e s1 s2 pos) E Γ M := .mk fun X S σ H at_ Ds l =>
  PS.to (ps_if wT.pt wSs.pss wSs.pss) (h.run X S σ H at_ _ fun k H1 M1 c1 st1 q => by
    cases k with
    | true => exact (q.1 rfl).run X S σ H1 (at_.step c1 st1) Ds (l.step st1)
    | false => exact (q.2 rfl).run X S σ H1 (at_.step c1 st1) Ds (l.step st1))
/-- what follows is shown once, from Mid -/
theorem wss_cut (Mid : Gam → Cells → Prop) (h1 : WS c st { E with nx := Mid } Γ M) (h2 : ∀ Γ1 M1, Mid Γ1 M1 → WSs c rest E Γ1 M1) : WSs c (st :: rest) E Γ M :=
  wss_cons (.mk fun X S σ H at_ Ds l => h1.run X S σ H at_ Ds ⟨fun σ1 H1 Γ1 M1 c1 sl1 st1 q => l.nx _ _ _ _ c1 sl1 st1 (h2 Γ1 M1 q), l.rt, l.bk, l.ct⟩)
/-- d[k] = v -/
theorem ws_dput (h : WE c e Γ M fun z M1 => WE c a Γ M1 fun x M2 => WE c b Γ M2 fun y M3 => ∃ (p : Addr) (i : Nat) (kvs : List (Key × D)) (k : Key), x = .ptr p ∧ M3[i]? = some (p, .dK kvs) ∧ y = keyD k ∧ kvs.length < sizeLine ∧ E.nx Γ (M3.set i (p, .dK (storeK kvs k z))))
    (hs : ∀ env, swapsWith e (some (.Subscript a b pos')) pos.line env = pure false := by intro _; rfl) : WS c (.Assign [.Subscript a b pos'] e pos) E Γ M := .mk fun X S σ H at_ Ds l =>
  PS.to (ps_dput at_.is.hu1 wE.pe wE.pe wE.pe (hs _)) (h.run X S σ H at_ _ fun v1 H1 d1 M1 c1 s1 r1 q1 => two q1 (at_.step c1 s1) fun v2 v3 H3 d2 d3 M3 c3 s3 r2 r3 ⟨p, i, kvs, k, e1, hi, e2, hl, q⟩ => by
    subst e1 e2; cases r2
    have ek := r3.key
    subst ek
    obtain ⟨o, ho, vs, e, rs⟩ := c3.at_ hi
    subst e
    have kp := c3.put (m' := .dK (storeK kvs k d1)) (o := .dK (putK vs k v1)) hi ⟨_, rfl, rs.put k (r1.to s3.to)⟩
    exact ⟨p, _, rfl, DPut.k ho (by rw [rs.length]; exact hl), l.nx _ _ _ _ kp.1 (at_.slots.to ((s1.trans s3).trans kp.2).to) ((s1.trans s3).trans kp.2) q⟩)
/-- d[k] += v, ints -/
theorem ws_dadd (h : WE c a Γ M fun x M1 => WE c b Γ M1 fun y M2 => ∃ (p : Addr) (i : Nat) (kvs : List (Key × D)) (k : Key) (n : Int), x = .ptr p ∧ M2[i]? = some (p, .dK kvs) ∧ y = keyD k ∧ lookK kvs k = some (.int n) ∧
      WE c e Γ M2 fun z M3 => ∃ (j : Nat) (kvs2 : List (Key × D)) (m : Int), z = .int m ∧ M3[j]? = some (p, .dK kvs2) ∧ kvs2.length < sizeLine ∧ E.nx Γ (M3.set j (p, .dK (storeK kvs2 k (.int (n + m))))))
    (ha : ∀ ov iv new, augStore b ov iv new = (do holding [new, ov, iv] (setItem ov iv new); release [new, ov, iv] []; pure .next) := by intros; rfl) : WS c (.AugAssign (.Subscript a b pos') .Add e pos) E Γ M := .mk fun X S σ H at_ Ds l =>
  PS.to (ps_daug at_.is.hu1 wE.pe wE.pe wE.pe in_add ha) (two h at_ fun v1 v2 H2 d1 d2 M2 c2 s2 r1 r2 ⟨p, i, kvs, k, n, e1, hi, e2, hl, q⟩ => by
    subst e1 e2; cases r1
    have ek := r2.key
    subst ek
    obtain ⟨o, ho, vs, e, rs⟩ := c2.at_ hi
    subst e
    rcases rs.look k with ⟨l', _⟩ | ⟨d', v, l1, l2, r⟩
    · rw [l'] at hl; cases hl
    · rw [l1] at hl
      have := Option.some.inj hl
      subst this
      cases r
      refine ⟨p, .int n, rfl, by rw [← l2]; exact DGet.k ho, q.run X S σ H2 (at_.step c2 s2) _ fun v3 H3 d3 M3 c3 s3 r3 ⟨j, kvs2, m, e3, hj, hl2, q3⟩ => ?_⟩
      subst e3; cases r3
      obtain ⟨o2, ho2, vs2, e2, rs2⟩ := c3.at_ hj
      subst e2
      have kp := c3.put (m' := .dK (storeK kvs2 k (.int (n + m)))) (o := .dK (putK vs2 k (.int (n + m)))) hj ⟨_, rfl, rs2.put k .int⟩
      exact ⟨n, m, rfl, rfl, _, DPut.k ho2 (by rw [rs2.length]; exact hl2), l.nx _ _ _ _ kp.1 (at_.slots.to ((s2.trans s3).trans kp.2).to) ((s2.trans s3).trans kp.2) q3⟩)
/-- a list cell's item stored -/
theorem ws_lput (h : WE c e Γ M fun z M1 => WE c a Γ M1 fun x M2 => WE c b Γ M2 fun y M3 => ∃ (p : Addr) (i : Nat) (ds : List D) (k : Int) (j : Nat), x = .ptr p ∧ M3[i]? = some (p, .lst ds) ∧ y = .int k ∧ ixN ds.length k = some j ∧ E.nx Γ (M3.set i (p, .lst (ds.set j z))))
    (hs : ∀ env, swapsWithSole [.Subscript a b pos'] e pos.line env = pure false := by intro _; rfl) (hw : ∀ env, swappedStores [.Subscript a b pos'] e env = pure none := by intro _; rfl) (h1 : ∀ env, (assignEach [.Subscript a b pos'] env).map (·.2) = [assign (.Subscript a b pos') env] := by intro _; rfl)
    (ha : ∀ env v, assign (.Subscript a b pos') env v = (do
      let ov ← holding [v] (eval a env)
      let iv ← holding [v, ov] (eval b env)
      standAt pos'
      holding [v, ov, iv] (setItem ov iv v)
      release [v, ov, iv] []) := by intro _ _; rfl) : WS c (.Assign [.Subscript a b pos'] e pos) E Γ M := .mk fun X S σ H at_ Ds l =>
  PS.to (ps_asg wE.pe (pg_sub wE.pe wE.pe set_list (ha _)) (hs _) (hw _) (h1 _)) (h.run X S σ H at_ _ fun v1 H1 d1 M1 c1 s1 r1 q1 => two q1 (at_.step c1 s1) fun v2 v3 H3 d2 d3 M3 c3 s3 r2 r3 ⟨p, i, ds, k, j, e1, hi, e2, hj, q⟩ => by
    subst e1 e2; cases r2; cases r3
    obtain ⟨o, ho, vs, e, rs⟩ := c3.at_ hi
    subst e
    have kp := c3.put (m' := .lst (ds.set j d1)) (o := .lst (vs.set j v1)) hi ⟨_, rfl, rs.set j (r1.to s3.to)⟩
    exact ⟨p, vs, k, j, rfl, rfl, ho, by rw [rs.length]; exact hj, l.nx _ _ _ _ kp.1 (at_.slots.to ((s1.trans s3).trans kp.2).to) ((s1.trans s3).trans kp.2) q⟩)

/-! ### the list that was made is done: it is data from now on -/
theorem Core.freeze (cr : Core c.K S M H) {i : Nat} {p : Addr} {ds : List D} (h : M[i]? = some (p, .lst ds)) : Core c.K S (M.eraseIdx i) H ∧ Rep c.K (av S (M.eraseIdx i)) H (.ref p) (.lst ds) ∧ Step M (M.eraseIdx i) H H := by
  have sub : (M.eraseIdx i).Sublist M := List.eraseIdx_sublist _ _
  have subd : (dom (M.eraseIdx i)).Sublist (dom M) := sub.map _
  have np : p ∉ dom (M.eraseIdx i) := by
    intro z
    obtain ⟨q, hq, e⟩ := List.mem_map.mp z
    obtain ⟨j, hj⟩ := List.getElem?_of_mem hq
    rw [List.getElem?_eraseIdx] at hj
    have e1 : (dom M)[i]? = some p := by unfold dom; rw [List.getElem?_map, h]; rfl
    have nd := cr.nod
    obtain ⟨h1, g1⟩ := List.getElem?_eq_some_iff.mp e1
    have fin : ∀ m, (dom M)[m]? = some p → m = i := fun m hm => by
      obtain ⟨h2, g2⟩ := List.getElem?_eq_some_iff.mp hm
      exact (List.getElem_inj nd).mp (g2.trans g1.symm)
    split at hj
    · have := fin j (by unfold dom; rw [List.getElem?_map, hj]; show some q.1 = some p; rw [e])
      omega
    · have := fin (j + 1) (by unfold dom; rw [List.getElem?_map, hj]; show some q.1 = some p; rw [e])
      omega
  have st : Step M (M.eraseIdx i) H H := ⟨fun _ _ _ h => h, fun _ h => h, fun b hb => .inl (subd.subset hb)⟩
  obtain ⟨o, ho, vs, e, rs⟩ := cr.at_ h
  subst e
  have hp : p ∈ dom M := List.mem_map.mpr ⟨_, List.mem_of_getElem? h, rfl⟩
  refine ⟨⟨cr.known, cr.nod.sublist subd, fun a ha => cr.dis a (subd.subset ha), fun q hq => CellAt.to st.to (fun _ e => e) (cr.cells q (sub.subset hq))⟩, .lst (.inl ⟨fun z => ?_, .inl ho⟩) (rs.to st.to), st⟩
  rcases z with z | z
  · exact cr.dis p hp z
  · exact np z
theorem wss_freeze {j i : Nat} {p : Addr} {ds : List D} (hΓ : Γ[j]? = some (some (.ptr p))) (hM : M[i]? = some (p, .lst ds)) (h : WSs c rest E (Γ.set j (some (.lst ds))) (M.eraseIdx i)) : WSs c rest E Γ M := .mk fun X S σ H at_ Ds l => by
  obtain ⟨c1, r1, s1⟩ := at_.core.freeze hM
  obtain ⟨v, hv, r⟩ := at_.slots.at_ j _ hΓ
  cases r
  have sl := (at_.slots.to s1.to).set (i := j) r1
  have e : σ.set j (some (V.ref p)) = σ := by
    obtain ⟨h1, g1⟩ := List.getElem?_eq_some_iff.mp hv
    rw [← g1, List.set_getElem_self]
  rw [e] at sl
  exact h.run X S σ H (at_.slot c1 sl s1) Ds (l.step s1)
/-- cells that nobody needs any more -/
theorem wss_drop {i : Nat} (h : WSs c rest E Γ (M.eraseIdx i)) : WSs c rest E Γ M := .mk fun X S σ H at_ Ds l => by
  have sub : (M.eraseIdx i).Sublist M := List.eraseIdx_sublist _ _
  have subd : (dom (M.eraseIdx i)).Sublist (dom M) := sub.map _
  have st : Step M (M.eraseIdx i) H H := ⟨fun _ _ _ h => h, fun _ h => h, fun b hb => .inl (subd.subset hb)⟩
  exact h.run X S σ H (at_.step ⟨at_.core.known, at_.core.nod.sublist subd, fun a ha => at_.core.dis a (subd.subset ha), fun q hq => CellAt.to st.to (fun _ e => e) (at_.core.cells q (sub.subset hq))⟩ st) Ds (l.step st)

/-! ### loops -/
theorem ws_while (Inv : Nat → Gam → Cells → Prop) (m0 : Nat) (h0 : Inv m0 Γ M)
    (hs : ∀ m Γ1 M1, Inv m Γ1 M1 → WT c e Γ1 M1 fun k M2 => Br k (WSs c body { nx := fun Γ3 M3 => ∃ m', m' < m ∧ Inv m' Γ3 M3, ct := fun Γ3 M3 => ∃ m', m' < m ∧ Inv m' Γ3 M3, bk := E.nx, rt := E.rt } Γ1 M2) (E.nx Γ1 M2)) :
    WS c (.While e body [] pos) E Γ M := .mk fun X S σ H at_ Ds l =>
  PS.to (ps_while at_.is.po wT.pt wSs.pss) ⟨fun m σ1 H1 => ∃ Γ1 M1, Core c.K S M1 H1 ∧ Slots c.K (av S M1) H1 Γ1 σ1 ∧ Step M M1 H H1 ∧ Inv m Γ1 M1, ⟨m0, Γ, M, at_.core, at_.slots, .refl, h0⟩, fun m σ1 H1 ⟨Γ1, M1, c1, sl1, st1, hi⟩ => by
    refine (hs m Γ1 M1 hi).run X S σ1 H1 (at_.slot c1 sl1 st1) _ fun k H2 M2 c2 st2 q => ?_
    cases k with
    | true =>
      refine ⟨fun σ3 H3 => ∃ m', m' < m ∧ ∃ Γ3 M3, Core c.K S M3 H3 ∧ Slots c.K (av S M3) H3 Γ3 σ3 ∧ Step M M3 H H3 ∧ Inv m' Γ3 M3, fun σ3 H3 ⟨m', hm, w⟩ => ⟨m', hm, w⟩, ?_⟩
      refine (q.1 rfl).run X S σ1 H2 ((at_.slot c1 sl1 st1).step c2 st2) _ ⟨?_, ?_, ?_, ?_⟩
      · rintro σ3 H3 Γ3 M3 c3 sl3 st3 ⟨m', hm, q3⟩
        exact ⟨m', hm, Γ3, M3, c3, sl3, (st1.trans st2).trans st3, q3⟩
      · intro v H3 d M3 c3 st3 r3 q3
        exact l.rt v H3 d M3 c3 ((st1.trans st2).trans st3) r3 q3
      · intro σ3 H3 Γ3 M3 c3 sl3 st3 q3
        exact l.nx σ3 H3 Γ3 M3 c3 sl3 ((st1.trans st2).trans st3) q3
      · rintro σ3 H3 Γ3 M3 c3 sl3 st3 ⟨m', hm, q3⟩
        exact ⟨m', hm, Γ3, M3, c3, sl3, (st1.trans st2).trans st3, q3⟩
    | false => exact l.nx σ1 H2 Γ1 M2 c2 (sl1.to st2.to) (st1.trans st2) (q.2 rfl)⟩
theorem split_at {α : Type} {xs : List α} {i : Nat} {x : α} (h : xs[i]? = some x) : xs = xs.take i ++ x :: xs.drop (i + 1) ∧ xs.take (i + 1) = xs.take i ++ [x] := by
  obtain ⟨hi, e⟩ := List.getElem?_eq_some_iff.mp h
  refine ⟨?_, ?_⟩
  · rw [← e, List.getElem_cons_drop, List.take_append_drop]
  · rw [List.take_succ, h]; rfl
/-- for over a list (a tuple) of data; Inv by what was taken -/
theorem ws_forL {α : Type} (xs : List α) (f : α → D) (Inv : List α → Gam → Cells → Prop)
    (h : WE c e Γ M fun d M1 => d = .lst (xs.map f) ∧ Inv [] Γ M1 ∧
      (∀ pre y post Γ2 M2, xs = pre ++ y :: post → Inv pre Γ2 M2 → WG c tg (f y) Γ2 M2 fun Γ3 M3 => WSs c body { nx := Inv (pre ++ [y]), ct := Inv (pre ++ [y]), bk := E.nx, rt := E.rt } Γ3 M3) ∧ ∀ Γ2 M2, Inv xs Γ2 M2 → E.nx Γ2 M2)
    (hs : ∀ env x, foldedSetIterable e env x = pure x := by intro _ _; rfl) : WS c (.For tg e body [] pos) E Γ M := .mk fun X S σ H at_ Ds l => by
  refine PS.to (ps_for at_.is.po at_.is.calm (pi_list wE.pe) wG.pg wSs.pss (hs _)) (h.run X S σ H at_ _ fun v1 H1 d1 M1 c1 s1 r1 ⟨e1, inv0, step, fin⟩ => ?_)
  subst e1
  cases r1 with
  | lst h1 h2 =>
    rename_i a vs
    have hl : vs.length = xs.length := by rw [h2.length, List.length_map]
    refine ⟨_, rfl, ⟨_, by rw [at_.is.K]; exact h1.sq⟩, for_list (xs := vs) (fun i σ2 H2 => ∃ Γ2 M2, Core c.K S M2 H2 ∧ Slots c.K (av S M2) H2 Γ2 σ2 ∧ Step M1 M2 H1 H2 ∧ Inv (xs.take i) Γ2 M2)
      ⟨Γ, M1, c1, at_.slots.to s1.to, .refl, inv0⟩ (fun i σ2 H2 _ ⟨Γ2, M2, c2, sl2, st2, _⟩ => by rw [at_.is.K]; exact (st2.to.rdl h1).sq) ?_ ?_⟩
    · rintro i y σ2 H2 hi ⟨Γ2, M2, c2, sl2, st2, inv⟩
      obtain ⟨d, hd, rd⟩ := h2.getV hi
      rw [List.getElem?_map] at hd
      cases ex : xs[i]? with
      | none => rw [ex] at hd; cases hd
      | some z =>
        rw [ex] at hd
        have ed : f z = d := Option.some.inj hd
        subst ed
        obtain ⟨sp, tk⟩ := split_at ex
        refine (step _ z _ Γ2 M2 sp inv).run X S σ2 H2 (at_.slot c2 sl2 (s1.trans st2)) _ (rd.to st2.to) _ fun σ3 H3 Γ3 M3 c3 sl3 st3 q => q.run X S σ3 H3 (at_.slot c3 sl3 ((s1.trans st2).trans st3)) _ ⟨?_, ?_, ?_, ?_⟩
        · intro σ4 H4 Γ4 M4 c4 sl4 st4 q4
          exact ⟨Γ4, M4, c4, sl4, (st2.trans st3).trans st4, by rw [tk]; exact q4⟩
        · intro v4 H4 d4 M4 c4 st4 r4 q4
          exact l.rt v4 H4 d4 M4 c4 (((s1.trans st2).trans st3).trans st4) r4 q4
        · intro σ4 H4 Γ4 M4 c4 sl4 st4 q4
          exact l.nx σ4 H4 Γ4 M4 c4 sl4 (((s1.trans st2).trans st3).trans st4) q4
        · intro σ4 H4 Γ4 M4 c4 sl4 st4 q4
          exact ⟨Γ4, M4, c4, sl4, (st2.trans st3).trans st4, by rw [tk]; exact q4⟩
    · rintro σ2 H2 ⟨Γ2, M2, c2, sl2, st2, inv⟩
      rw [hl, List.take_length] at inv
      exact l.nx σ2 H2 Γ2 M2 c2 sl2 (s1.trans st2) (fin Γ2 M2 inv)
theorem ws_forT {α : Type} (xs : List α) (f : α → D) (Inv : List α → Gam → Cells → Prop)
    (h : WE c e Γ M fun d M1 => d = .tup (xs.map f) ∧ Inv [] Γ M1 ∧
      (∀ pre y post Γ2 M2, xs = pre ++ y :: post → Inv pre Γ2 M2 → WG c tg (f y) Γ2 M2 fun Γ3 M3 => WSs c body { nx := Inv (pre ++ [y]), ct := Inv (pre ++ [y]), bk := E.nx, rt := E.rt } Γ3 M3) ∧ ∀ Γ2 M2, Inv xs Γ2 M2 → E.nx Γ2 M2)
    (hs : ∀ env x, foldedSetIterable e env x = pure x := by intro _ _; rfl) : WS c (.For tg e body [] pos) E Γ M := .mk fun X S σ H at_ Ds l => by
  refine PS.to (ps_for at_.is.po at_.is.calm (pi_tup wE.pe) wG.pg wSs.pss (hs _)) (h.run X S σ H at_ _ fun v1 H1 d1 M1 c1 s1 r1 ⟨e1, inv0, step, fin⟩ => ?_)
  subst e1
  cases r1 with
  | tup h1 h2 =>
    rename_i a vs
    have hl : vs.length = xs.length := by rw [h2.length, List.length_map]
    refine ⟨_, rfl, ⟨_, by rw [at_.is.K]; exact h1.sq⟩, for_tup (xs := vs) (fun i σ2 H2 => ∃ Γ2 M2, Core c.K S M2 H2 ∧ Slots c.K (av S M2) H2 Γ2 σ2 ∧ Step M1 M2 H1 H2 ∧ Inv (xs.take i) Γ2 M2)
      ⟨Γ, M1, c1, at_.slots.to s1.to, .refl, inv0⟩ (fun i σ2 H2 _ ⟨Γ2, M2, c2, sl2, st2, _⟩ => by rw [at_.is.K]; exact (st2.to.rdt h1).sq) ?_ ?_⟩
    · rintro i y σ2 H2 hi ⟨Γ2, M2, c2, sl2, st2, inv⟩
      obtain ⟨d, hd, rd⟩ := h2.getV hi
      rw [List.getElem?_map] at hd
      cases ex : xs[i]? with
      | none => rw [ex] at hd; cases hd
      | some z =>
        rw [ex] at hd
        have ed : f z = d := Option.some.inj hd
        subst ed
        obtain ⟨sp, tk⟩ := split_at ex
        refine (step _ z _ Γ2 M2 sp inv).run X S σ2 H2 (at_.slot c2 sl2 (s1.trans st2)) _ (rd.to st2.to) _ fun σ3 H3 Γ3 M3 c3 sl3 st3 q => q.run X S σ3 H3 (at_.slot c3 sl3 ((s1.trans st2).trans st3)) _ ⟨?_, ?_, ?_, ?_⟩
        · intro σ4 H4 Γ4 M4 c4 sl4 st4 q4
          exact ⟨Γ4, M4, c4, sl4, (st2.trans st3).trans st4, by rw [tk]; exact q4⟩
        · intro v4 H4 d4 M4 c4 st4 r4 q4
          exact l.rt v4 H4 d4 M4 c4 (((s1.trans st2).trans st3).trans st4) r4 q4
        · intro σ4 H4 Γ4 M4 c4 sl4 st4 q4
          exact l.nx σ4 H4 Γ4 M4 c4 sl4 (((s1.trans st2).trans st3).trans st4) q4
        · intro σ4 H4 Γ4 M4 c4 sl4 st4 q4
          exact ⟨Γ4, M4, c4, sl4, (st2.trans st3).trans st4, by rw [tk]; exact q4⟩
    · rintro σ2 H2 ⟨Γ2, M2, c2, sl2, st2, inv⟩
      rw [hl, List.take_length] at inv
      exact l.nx σ2 H2 Γ2 M2 c2 sl2 (s1.trans st2) (fin Γ2 M2 inv)
/-- for over a range of whole numbers -/
theorem ws_forR {p : Pos} {i : Nat} {px : Pos} {y : Str} (hg : GlC c.sc "range") (hm : c.mg "range" = none) (hN : c.N[i]? = some y) (hl : LocC c y) (Inv : Nat → Gam → Cells → Prop)
    (h : WE c a Γ M fun d M1 => ∃ n : Int, d = .int n ∧ -(2 ^ 62) ≤ n ∧ n < 2 ^ 62 ∧ Inv 0 Γ M1 ∧ (∀ (k : Nat) Γ2 M2, (k : Int) < n → Inv k Γ2 M2 → WSs c body { nx := Inv (k + 1), ct := Inv (k + 1), bk := E.nx, rt := E.rt } (Γ2.set i (some (.int k))) M2) ∧ ∀ Γ2 M2, Inv n.toNat Γ2 M2 → E.nx Γ2 M2)
    (hst : ∀ env, starEach [a] env = (false, eval a env) :: starEach [] env := by intro _; rfl) (hs : ∀ env x, foldedSetIterable (.Call (.Name "range" p) [a] [] pos') env x = pure x := by intro _ _; rfl) :
    WS c (.For (.Name y px) (.Call (.Name "range" p) [a] [] pos') body [] pos) E Γ M := .mk fun X S σ H at_ Ds l => by
  refine PS.to (ps_for at_.is.po at_.is.calm (pi_range1 (at_.is.gl hg) (at_.is.mgN hm) (pa_cons wE.pe pa_nil (hst _)) (by rw [hst]; rfl)) (pg_name at_.is.nd (at_.is.nm hN) (at_.is.loc hl) (at_.is.st hl)) wSs.pss (hs _)) (h.run X S σ H at_ _ fun v1 H1 d1 M1 c1 s1 r1 ⟨n, e1, b1, b2, inv0, step, fin⟩ => ?_)
  subst e1
  cases r1
  refine ⟨n, rfl, b1, b2, for_range (lo := 0) (n := n.toNat) (fun i σ2 H2 => ∃ Γ2 M2, Core c.K S M2 H2 ∧ Slots c.K (av S M2) H2 Γ2 σ2 ∧ Step M1 M2 H1 H2 ∧ Inv i Γ2 M2) ⟨Γ, M1, c1, at_.slots.to s1.to, .refl, inv0⟩ ?_ ?_⟩
  · rintro k σ2 H2 hk ⟨Γ2, M2, c2, sl2, st2, inv⟩
    rw [Int.zero_add]
    refine (step k Γ2 M2 (by omega) inv).run X S _ H2 (at_.slot c2 (sl2.set .int) (s1.trans st2)) _ ⟨?_, ?_, ?_, ?_⟩
    · intro σ4 H4 Γ4 M4 c4 sl4 st4 q4
      exact ⟨Γ4, M4, c4, sl4, st2.trans st4, q4⟩
    · intro v4 H4 d4 M4 c4 st4 r4 q4
      exact l.rt v4 H4 d4 M4 c4 ((s1.trans st2).trans st4) r4 q4
    · intro σ4 H4 Γ4 M4 c4 sl4 st4 q4
      exact l.nx σ4 H4 Γ4 M4 c4 sl4 ((s1.trans st2).trans st4) q4
    · intro σ4 H4 Γ4 M4 c4 sl4 st4 q4
      exact ⟨Γ4, M4, c4, sl4, st2.trans st4, q4⟩
  · rintro σ2 H2 ⟨Γ2, M2, c2, sl2, st2, inv⟩
    exact l.nx σ2 H2 Γ2 M2 c2 sl2 (s1.trans st2) (fin Γ2 M2 inv)
/-- from lo up to below hi -/
theorem ws_forR2 {p : Pos} {i : Nat} {px : Pos} {y : Str} (hg : GlC c.sc "range") (hm : c.mg "range" = none) (hN : c.N[i]? = some y) (hl : LocC c y) (Inv : Nat → Gam → Cells → Prop)
    (h : WE c a Γ M fun d M1 => WE c b Γ M1 fun d2 M1 => ∃ lo n : Int, d = .int lo ∧ d2 = .int n ∧ (-(2 ^ 62) ≤ lo ∧ lo < 2 ^ 62 ∧ -(2 ^ 62) ≤ n ∧ n < 2 ^ 62) ∧ Inv 0 Γ M1 ∧ (∀ (k : Nat) Γ2 M2, lo + (k : Int) < n → Inv k Γ2 M2 → WSs c body { nx := Inv (k + 1), ct := Inv (k + 1), bk := E.nx, rt := E.rt } (Γ2.set i (some (.int (lo + k)))) M2) ∧ ∀ Γ2 M2, Inv (n - lo).toNat Γ2 M2 → E.nx Γ2 M2)
    (hst : ∀ env, starEach [a, b] env = (false, eval a env) :: starEach [b] env := by intro _; rfl) (hst2 : ∀ env, starEach [b] env = (false, eval b env) :: starEach [] env := by intro _; rfl) (hs : ∀ env x, foldedSetIterable (.Call (.Name "range" p) [a, b] [] pos') env x = pure x := by intro _ _; rfl) :
    WS c (.For (.Name y px) (.Call (.Name "range" p) [a, b] [] pos') body [] pos) E Γ M := .mk fun X S σ H at_ Ds l => by
  refine PS.to (ps_for at_.is.po at_.is.calm (pi_range2 (at_.is.gl hg) (at_.is.mgN hm) (pa_cons wE.pe (pa_cons wE.pe pa_nil (hst2 _)) (hst _)) (by rw [hst, hst2]; rfl) (by rw [hst2]; rfl)) (pg_name at_.is.nd (at_.is.nm hN) (at_.is.loc hl) (at_.is.st hl)) wSs.pss (hs _)) (two h at_ fun v1 v2 H1 d1 d2 M1 c1 s1 r1 r2 ⟨lo, n, e1, e2, b1, inv0, step, fin⟩ => ?_)
  subst e1 e2
  cases r1; cases r2
  refine ⟨lo, n, rfl, b1, for_range (lo := lo) (n := (n - lo).toNat) (fun i σ2 H2 => ∃ Γ2 M2, Core c.K S M2 H2 ∧ Slots c.K (av S M2) H2 Γ2 σ2 ∧ Step M1 M2 H1 H2 ∧ Inv i Γ2 M2) ⟨Γ, M1, c1, at_.slots.to s1.to, .refl, inv0⟩ ?_ ?_⟩
  · rintro k σ2 H2 hk ⟨Γ2, M2, c2, sl2, st2, inv⟩
    refine (step k Γ2 M2 (by omega) inv).run X S _ H2 (at_.slot c2 (sl2.set .int) (s1.trans st2)) _ ⟨?_, ?_, ?_, ?_⟩
    · intro σ4 H4 Γ4 M4 c4 sl4 st4 q4
      exact ⟨Γ4, M4, c4, sl4, st2.trans st4, q4⟩
    · intro v4 H4 d4 M4 c4 st4 r4 q4
      exact l.rt v4 H4 d4 M4 c4 ((s1.trans st2).trans st4) r4 q4
    · intro σ4 H4 Γ4 M4 c4 sl4 st4 q4
      exact l.nx σ4 H4 Γ4 M4 c4 sl4 ((s1.trans st2).trans st4) q4
    · intro σ4 H4 Γ4 M4 c4 sl4 st4 q4
      exact ⟨Γ4, M4, c4, sl4, st2.trans st4, q4⟩
  · rintro σ2 H2 ⟨Γ2, M2, c2, sl2, st2, inv⟩
    exact l.nx σ2 H2 Γ2 M2 c2 sl2 (s1.trans st2) (fin Γ2 M2 inv)
end

/-! ### defs -/
/-- what a def does, in data: arguments, cells, what is wanted of its value and the cells behind, what of what it raises -/
abbrev PF := List D → Cells → (D → Cells → Prop) → (Addr → D → Cells → Prop) → Prop
def liftF (K : PySem.W.Frag) (pf : PF) : Sp := fun vs H Q E => ∃ (S : AS) (M : Cells) (ds : List D), Core K S M H ∧ Reps K (av S M) H vs ds ∧
  pf ds M (fun d M' => ∀ v H', Core K S M' H' → Step M M' H H' → Rep K (av S M') H' v d → Q v H')
    (fun C d M' => ∀ dd v H', Core K S M' H' → Step M M' H H' → H' dd = some (.xd [(("what" : Str), v)]) → Rep K (av S M') H' v d → E (.ref C) (some dd) H')
structure Def (P : Program) (w : World) (K : PySem.W.Frag) (mg : Str → Option Value) (base : Heap) (x : Str) (f : Addr) (fd : FuncData) (ps : List Str) (k : Nat) (pf : PF) : Prop where
  mgx : mg x = some (.ref f)
  kp : PySem.W.keepIn K (.ref f) = true
  binds : Binds K fd ps []
  ok : FnOk P w K mg base (L2.CX P w) k f fd ps (liftF K pf)
section
variable {P : Program} {w : World} {K : PySem.W.Frag} {mg : Str → Option Value} {base : Heap}
theorem Def.mono {x : Str} {f : Addr} {fd : FuncData} {ps : List Str} {k k' : Nat} {pf : PF} (F : Def P w K mg base x f fd ps k pf) (h : k ≤ k') : Def P w K mg base x f fd ps k' pf := ⟨F.mgx, F.kp, F.binds, F.ok.mono h⟩
/-- a def's body, read -/
theorem fn_mk {x qual : Str} {st : Stmt} {f : Addr} {fd : FuncData} {N ps : List Str} {k : Nat} {pf : PF} (F : Fun K x qual st f fd) (Sc : FnScope N ps (defScope st))
    (len : ∀ ds M R Z, pf ds M R Z → ds.length = ps.length)
    (body : ∀ ds M R Z, pf ds M R Z → WSs ⟨P, w, K, mg, base, N, defScope st, k, fun C d _ M' => Z C d M', fun _ => true, true⟩ (defBody st) { nx := fun _ M' => R .non M', rt := R } (ds.map some ++ List.replicate (N.length - ds.length) none) M) :
    FnOk P w K mg base (L2.CX P w) (k + 1) f fd ps (liftF K pf) := by
  refine F.okX Sc (fun vs H Q E h => ?_) (fun cdv A outer s H vs Q E hr h => ?_)
  · obtain ⟨S, M, ds, c1, r1, h⟩ := h
    rw [r1.length]
    exact len _ _ _ _ h
  · obtain ⟨S, M, ds, c1, r1, h⟩ := h
    refine ⟨_, wSs.pss, ?_⟩
    refine (body ds M _ _ h).run _ S _ H ⟨⟨rfl, rfl, rfl, rfl, rfl, rfl, rfl, hr, rfl, Sc.nd, fun _ _ _ => rfl, ?po, fun _ => ⟨rfl, rfl⟩⟩, c1, ?sl, ?ld⟩ _ ⟨fun σ' H' Γ' M' c' sl' st' q => q .non H' c' st' .non, fun v H' d M' c' st' r' q => q v H' c' st' r', fun _ _ _ _ _ _ _ q => q.elim, fun _ _ _ _ _ _ _ q => q.elim⟩
    case po => exact passes_of rfl
    case sl =>
      have hl := r1.length
      refine ⟨by simp [L2.start, hl], fun i d hd => ?_⟩
      by_cases hi : i < ds.length
      · rw [List.getElem?_append_left (by simpa using hi), List.getElem?_map] at hd
        cases e : ds[i]? with
        | none => rw [e] at hd; cases hd
        | some d' =>
          rw [e] at hd
          have := Option.some.inj (Option.some.inj hd)
          subst this
          obtain ⟨v, hv, r⟩ := r1.get e
          refine ⟨v, ?_, r⟩
          unfold L2.start
          rw [List.getElem?_append_left (by simpa [hl] using hi), List.getElem?_map, hv]
          rfl
      · rw [List.getElem?_append_right (by simpa using Nat.le_of_not_lt hi)] at hd
        have := List.mem_of_getElem? hd
        have := List.eq_of_mem_replicate this
        cases this
    case ld =>
      refine ⟨fun cls d _ H => E cls d H, takes_of rfl rfl rfl rfl, fun C dd v d σ' H' Γ' M' c' sl' st' hd r z => z dd v H' c' st' hd r⟩
end
section
variable {K : PySem.W.Frag} {S : AS} {kept lent M2 : Cells} {H H' : Hp}
theorem av_app {b : Addr} : av (av S kept) lent b ↔ av S (kept ++ lent) b := by
  unfold av dom
  rw [List.map_append, List.mem_append]
  constructor
  · rintro ((h | h) | h)
    · exact .inl h
    · exact .inr (.inl h)
    · exact .inr (.inr h)
  · rintro (h | h | h)
    · exact .inl (.inl h)
    · exact .inl (.inr h)
    · exact .inr h
theorem To.of_iff {A A' : AS} (h : ∀ b, A' b → A b) : To A A' H H := ⟨fun _ _ _ e => e, fun b z => .inl (h b z)⟩
theorem Core.lend (cr : Core K S (kept ++ lent) H) : Core K (av S kept) lent H := by
  have nd : ((dom kept) ++ (dom lent)).Nodup := by
    have := cr.nod
    unfold dom at this ⊢
    rw [List.map_append] at this
    exact this
  obtain ⟨n1, n2, n3⟩ := List.nodup_append.mp nd
  refine ⟨fun b z => ?_, n2, fun a ha z => ?_, fun p hp => CellAt.to (To.of_iff fun b z => av_app.mp z) (fun _ e => e) (cr.cells p (List.mem_append_right _ hp))⟩
  · rcases z with z | z
    · exact cr.known b z
    · obtain ⟨q, hq, e⟩ := List.mem_map.mp z
      have := (cr.cells q (List.mem_append_left _ hq)).ne
      rw [e] at this
      exact this
  · rcases z with z | z
    · refine cr.dis a ?_ z
      unfold dom
      rw [List.map_append]
      exact List.mem_append_right _ ha
    · exact n3 a z a ha rfl
theorem Core.back (cr : Core K S (kept ++ lent) H) (c2 : Core K (av S kept) M2 H') (st : PL.Step lent M2 H H') : Core K S (kept ++ M2) H' ∧ PL.Step (kept ++ lent) (kept ++ M2) H H' := by
  have nd : ((dom kept) ++ (dom lent)).Nodup := by
    have := cr.nod
    unfold dom at this ⊢
    rw [List.map_append] at this
    exact this
  obtain ⟨n1, n2, n3⟩ := List.nodup_append.mp nd
  have da : ∀ A B : Cells, dom (A ++ B) = dom A ++ dom B := fun A B => by unfold dom; rw [List.map_append]
  have st' : PL.Step (kept ++ lent) (kept ++ M2) H H' := by
    refine ⟨fun b o n h => st.keep b o (fun z => n (by rw [da]; exact List.mem_append_right _ z)) h, st.grow, fun b hb => ?_⟩
    rw [da] at hb ⊢
    rcases List.mem_append.mp hb with z | z
    · exact .inl (List.mem_append_left _ z)
    · rcases st.fresh b z with q | q
      · exact .inl (List.mem_append_right _ q)
      · exact .inr q
  refine ⟨⟨fun b z => st.grow b (cr.known b z), ?_, fun a ha z => ?_, fun p hp => ?_⟩, st'⟩
  · rw [da]
    refine List.nodup_append.mpr ⟨n1, c2.nod, fun a h1 b h2 e => ?_⟩
    subst e
    exact c2.dis a h2 (.inr h1)
  · rw [da] at ha
    rcases List.mem_append.mp ha with q | q
    · exact cr.dis a (by rw [da]; exact List.mem_append_left _ q) z
    · exact c2.dis a q (.inl z)
  · rcases List.mem_append.mp hp with q | q
    · refine CellAt.to st'.to (fun o e => st.keep _ o (fun z => ?_) e) (cr.cells p (List.mem_append_left _ q))
      exact n3 p.1 (List.mem_map.mpr ⟨p, q, rfl⟩) p.1 z rfl
    · exact CellAt.to (To.of_iff fun b z => av_app.mpr z) (fun _ e => e) (c2.cells p q)
end
section
variable {c : Ctx} {X : Cx} {S : AS} {Γ Γ' : Gam} {M M' : Cells} {σ σ' : L2.St} {H H' : Hp} {a b e tg : Expr} {es tgs : List Expr} {pos pos' : Pos} {Q : D → Cells → Prop} {R : Bool → Cells → Prop} {x : Str} {E : PEnds}
/-- what a callee wants, from what the caller has -/
def Callee (c : Ctx) (pf : PF) (Γ : Gam) (ds : List D) (M : Cells) (Q : D → Cells → Prop) : Prop :=
  ∃ kept lent, M = kept ++ lent ∧ ∀ (R : D → Cells → Prop) (Z : Addr → D → Cells → Prop), (∀ d M2, Q d (kept ++ M2) → R d M2) → (∀ C d M2, c.Z C d Γ (kept ++ M2) → Z C d M2) → pf ds lent R Z
theorem Callee.lift {pf : PF} {ds : List D} {vs : List V} (h : Callee c pf Γ ds M Q) (at_ : At c X S Γ M σ H) (r : Reps c.K (av S M) H vs ds) {W : WX}
    (hW : ∀ C dd v d σ' H' Γ' M', Core c.K S M' H' → Slots c.K (av S M') H' Γ' σ' → Step M M' H H' → H' dd = some (.xd [(("what" : Str), v)]) → Rep c.K (av S M') H' v d → c.Z C d Γ' M' → W (.ref C) (some dd) σ' H')
    {Q' : VK} (hq : ∀ v H' d M', Core c.K S M' H' → Step M M' H H' → Rep c.K (av S M') H' v d → Q d M' → Q' v H') : liftF c.K pf vs H Q' (fun cls d H' => W cls d σ H') := by
  obtain ⟨kept, lent, eM, q⟩ := h
  subst eM
  refine ⟨av S kept, lent, ds, at_.core.lend, r.to (To.of_iff fun b z => av_app.mp z), q _ _ (fun d M2 hd v H2 c2 st r2 => ?_) (fun C d M2 hz dd v H2 c2 st hd r2 => ?_)⟩
  · obtain ⟨c3, st3⟩ := at_.core.back c2 st
    exact hq v H2 d _ c3 st3 (r2.to (To.of_iff fun b z => av_app.mpr z)) hd
  · obtain ⟨c3, st3⟩ := at_.core.back c2 st
    exact hW C dd v d σ H2 Γ _ c3 (at_.slots.to st3.to) st3 hd (r2.to (To.of_iff fun b z => av_app.mpr z)) hz
/-- f(e, ..) -/
theorem we_call {p : Pos} {f : Addr} {fd : FuncData} {ps : List Str} {k : Nat} {pf : PF} (F : Def c.P c.w c.K c.mg c.base x f fd ps k pf) (hk : k ≤ c.k) (hg : GlC c.sc x)
    (h : WA c (e :: es) Γ M fun ds M1 => Callee c pf Γ ds M1 Q)
    (hdb : (x == ("__debug__" : Str)) = false := by decide) (he : ∀ env, starEach (e :: es) env = (false, eval e env) :: starEach es env := by intro _; rfl) (hpl : ∀ env, (backTo pos (starEach es env)).any (·.1) = false := by intro _; rfl) :
    WE c (.Call (.Name x p) (e :: es) [] pos) Γ M Q := .mk fun X S σ H at_ Q' hq => by
  obtain ⟨W, tk, hW⟩ := at_.land
  have eP := at_.is.prog; have ew := at_.is.w; have eK := at_.is.K; have emg := at_.is.mg; have eb := at_.is.base
  refine PE.to (pe_callS (CX := L2.CX X.prog X.w) (fd := fd) (ps := ps) (k := k) (sp := liftF c.K pf) (E := L2.WE W) (f := f) (by rw [eP, ew, eK, emg, eb]; exact F.ok) (at_.is.room.mono hk) (at_.is.gl hg) (at_.is.mgN F.mgx) (by rw [eK]; exact F.kp) (by rw [eK]; exact F.binds) (fun σ => passAt tk σ) wA.pa hdb (he _) (hpl _)) ?_
  refine h.run X S σ H at_ _ fun vs H1 ds M1 c1 s1 r1 q => ?_
  exact q.lift (at_.step c1 s1) r1 (fun C dd v d σ' H' Γ' M' c2 sl2 st2 => hW C dd v d σ' H' Γ' M' c2 sl2 (s1.trans st2)) fun v H' d M' c2 st2 => hq v H' d M' c2 (s1.trans st2)
end

/-! ### keywords -/
def wK (X : Cx) (kws : List Keyword) : TA := fun σ H Q => ∀ pos pins s, Inv X pins σ H s → wpAny (model X.prog X.w) X.A (evalAll ((backToKw pos (keywordEach kws X.env)).map (·.2))) (AP X pins σ Q) X.xe s
theorem wK.pk {X : Cx} {kws : List Keyword} : PK X kws (wK X kws) := ⟨fun pos pins s σ H Q I h => h pos pins s I⟩
theorem PK.to {X : Cx} {kws : List Keyword} {t : TA} {σ H Q} (h : PK X kws t) (q : t σ H Q) : wK X kws σ H Q := fun pos pins s I => h.run pos pins s σ H Q I q
structure WK (c : Ctx) (kws : List Keyword) (Γ : Gam) (M : Cells) (Q : List D → Cells → Prop) : Prop where
  run : ∀ X S σ H, At c X S Γ M σ H → ∀ Q' : List V → Hp → Prop, (∀ vs H' ds M', Core c.K S M' H' → Step M M' H H' → Reps c.K (av S M') H' vs ds → Q ds M' → Q' vs H') → wK X kws σ H Q'
def pick {α : Type} (is : List Nat) (l : List α) : List α := is.filterMap fun i => l[i]?
theorem Reps.pick {K : PySem.W.Frag} {A : AS} {H : Hp} {vs : List V} {ds : List D} (r : Reps K A H vs ds) : ∀ is : List Nat, Reps K A H (PL.pick is vs) (PL.pick is ds)
  | [] => .nil
  | i :: is => by
    unfold PL.pick
    cases e : ds[i]? with
    | none =>
      have e2 : vs[i]? = none := by
        rw [List.getElem?_eq_none_iff] at e ⊢
        rw [r.length]; exact e
      rw [List.filterMap_cons, List.filterMap_cons, e, e2]
      exact r.pick is
    | some d =>
      obtain ⟨v, hv, rv⟩ := r.get e
      rw [List.filterMap_cons, List.filterMap_cons, e, hv]
      exact .cons rv (r.pick is)
section
variable {c : Ctx} {X : Cx} {S : AS} {Γ Γ' : Gam} {M M' : Cells} {σ σ' : L2.St} {H H' : Hp} {a b e tg : Expr} {es tgs : List Expr} {pos pos' kpos : Pos} {Q : D → Cells → Prop} {R : Bool → Cells → Prop} {x : Str} {E : PEnds} {kws : List Keyword} {nm : Option Str}
theorem wk_nil {R : List D → Cells → Prop} (q : R [] M) : WK c [] Γ M R := .mk fun X S σ H at_ Q' hq => PK.to pk_nil (hq _ _ _ _ at_.core .refl .nil q)
theorem wk_cons {R : List D → Cells → Prop} (h : WE c e Γ M fun x M1 => WK c kws Γ M1 fun xs M2 => R (x :: xs) M2) : WK c (⟨nm, e, kpos⟩ :: kws) Γ M R := .mk fun X S σ H at_ Q' hq =>
  PK.to (pk_cons wE.pe wK.pk) (h.run X S σ H at_ _ fun v1 H1 d1 M1 c1 s1 r1 q1 => q1.run X S σ H1 (at_.step c1 s1) _ fun vs H2 ds M2 c2 s2 r2 q2 => hq _ _ _ _ c2 (s1.trans s2) (.cons (r1.to s2.to) r2) q2)
/-- f(k = v, ..), by names alone: is puts the keywords' values in the parameters' order -/
structure KwB (K : PySem.W.Frag) (fd : FuncData) (ps ks : List Str) (is : List Nat) : Prop where
  to : ∀ (s : Shared) (ws : List Value), K.In s.heap → ws.length = ks.length → BindsTo s fd ⟨[], ks.zip ws⟩ (ps.zip (pick is ws))
theorem we_callK0 {p : Pos} {f : Addr} {fd : FuncData} {ps ks : List Str} {is : List Nat} {k : Nat} {pf : PF} (F : Def c.P c.w c.K c.mg c.base x f fd ps k pf) (B : KwB c.K fd ps ks is) (hk : k ≤ c.k) (hg : GlC c.sc x) (hl : kws.length = ks.length)
    (h : WK c kws Γ M fun ds M1 => ds.length = ks.length ∧ Callee c pf Γ (pick is ds) M1 Q)
    (hall : ∀ env, (backToKw pos (keywordEach kws env)).all (·.1.isSome) = true := by intro _; rfl) (hks : ∀ env, (backToKw pos (keywordEach kws env)).filterMap (·.1) = ks := by intro _; rfl)
    (hpl : ∀ env, ((backTo pos (starEach [] env)).any (·.1) || (backToKw pos (keywordEach kws env)).any (·.1.isNone)) = false := by intro _; rfl)
    (hdb : (x == ("__debug__" : Str)) = false := by decide) :
    WE c (.Call (.Name x p) [] kws pos) Γ M Q := .mk fun X S σ H at_ Q' hq => by
  obtain ⟨W, tk, hW⟩ := at_.land
  have eP := at_.is.prog; have ew := at_.is.w; have eK := at_.is.K; have emg := at_.is.mg; have eb := at_.is.base
  have G : FnOk X.prog X.w X.K X.mg X.base (L2.CX X.prog X.w) k f fd ps (liftF c.K pf) := by rw [eP, ew, eK, emg, eb]; exact F.ok
  intro pins s I
  refine wpAny_Call_Name_kw (ld_glob I (at_.is.gl hg) (at_.is.mgN F.mgx) ?_ hdb)
  refine PySem.W.callWith_KW0 (h₀ := X.base) I.ok.mod.kin (by rw [eK]; exact F.kp) (hall _) ?_ (hpl _)
  refine thn ((h.run X S σ H at_ (fun vs H1 => vs.length = ks.length ∧ liftF c.K pf (pick is vs) H1 Q' (fun cls d H' => W cls d σ H')) fun vs H1 ds M1 c1 s1 r1 ⟨l1, q⟩ => ⟨by rw [r1.length, l1], ?_⟩) pos pins s I) fun ws s2 ⟨zs, H2, I2, rz, l1, q2⟩ => ⟨I2.kIn, ?_⟩
  · exact q.lift (at_.step c1 s1) (r1.pick is) (fun C dd v d σ' H' Γ' M' c2 sl2 st2 => hW C dd v d σ' H' Γ' M' c2 sl2 (s1.trans st2)) fun v H' d M' c2 st2 => hq v H' d M' c2 (s1.trans st2)
  · rw [hks]
    have rp : Vals (pick is zs) (pick is ws) := by
      have : ∀ is : List Nat, Vals (pick is zs) (pick is ws) := by
        intro is
        induction is with
        | nil => exact .nil
        | cons i is ih =>
          unfold pick at ih ⊢
          cases e : zs[i]? with
          | none =>
            have e2 := rz.none_of e
            rw [List.filterMap_cons, List.filterMap_cons, e, e2]
            exact ih
          | some v =>
            obtain ⟨u, hu, ru⟩ := rz.get e
            rw [List.filterMap_cons, List.filterMap_cons, e, hu]
            exact .cons ru ih
      exact this is
    refine wpAny_call (codeAny_mono (G.run X.A X.stack s2 H2 ⟨[], ks.zip ws⟩ (pick is ws) (pick is zs) Q' (fun cls d H' => W cls d σ H') (at_.is.room.mono hk) I2.env0 (B.to s2 ws (by rw [← eK]; exact I2.kIn) (by rw [← rz.length, l1])) rp q2) fun r s' hq' => ?_)
    cases r with
    | error e => exact passAt tk σ _ _ _ _ _ I2 hq'
    | ok fl =>
      cases fl with
      | ret u => exact I2.after hq'
      | next => exact False.elim hq'
      | brk => exact False.elim hq'
      | cont => exact False.elim hq'
theorem we_powK {i j v : Int} {ni nj : Nat} {p1 p2 : Pos} (h1 : CPow i j) (hv : i ^ j.toNat = v) (q : Q (.int v) M) : WE c (.BinOp (.Constant (.int i) ni p1) .Pow (.Constant (.int j) nj p2) pos) Γ M Q :=
  we_pow (we_int (we_int ⟨_, _, rfl, rfl, h1, by rw [hv]; exact q⟩))
end
end PL
namespace PL
open PySem PySem.Spec PyProof.Rows L2
/-! ### sizes -/
/-- no more than three hundred figures -/
def Sm (i : Int) : Prop := -1000000000000000000000000000000000000000000000000000000000000000000000000000000000000000000000000000000000000000000000000000000000000000000000000000000000000000000000000000000000000000000000000000000000000000000000000000000000000000000000000000000000000000000000000000000000000000000000000000000000000 < i ∧ i < 1000000000000000000000000000000000000000000000000000000000000000000000000000000000000000000000000000000000000000000000000000000000000000000000000000000000000000000000000000000000000000000000000000000000000000000000000000000000000000000000000000000000000000000000000000000000000000000000000000000000000
theorem Sm.nat {i : Int} (h : Sm i) : i.natAbs < 2 ^ 1000 := by
  obtain ⟨h1, h2⟩ := h
  have e : 1000000000000000000000000000000000000000000000000000000000000000000000000000000000000000000000000000000000000000000000000000000000000000000000000000000000000000000000000000000000000000000000000000000000000000000000000000000000000000000000000000000000000000000000000000000000000000000000000000000000000 ≤ 2 ^ 1000 := by decide +kernel
  omega
theorem cmulB {i j : Int} (h1 : Sm i) (h2 : Sm j) : CMulW i j := wide_mul h1.nat h2.nat (by decide) (by decide) (by decide)
theorem cdivB {i j : Int} (h1 : 0 < j) (h2 : Sm j) : CDivW i j := wide_div h1 h2.nat (by decide) (by decide)
theorem mulB {a b A B : Int} (ha : -A ≤ a ∧ a ≤ A) (hb : -B ≤ b ∧ b ≤ B) : -(A * B) ≤ a * b ∧ a * b ≤ A * B := by
  have h1 : a.natAbs ≤ A.natAbs := by omega
  have h2 : b.natAbs ≤ B.natAbs := by omega
  have h3 : a.natAbs * b.natAbs ≤ A.natAbs * B.natAbs := Nat.mul_le_mul h1 h2
  rw [← Int.natAbs_mul, ← Int.natAbs_mul] at h3
  have h4 : 0 ≤ A * B := Int.mul_nonneg (by omega) (by omega)
  omega
theorem len_app {α : Type} (l : List α) (x : α) : (l ++ [x]).length = l.length + 1 := by simp
/-- small lists -/
theorem lenB {n : Nat} (h : n < 10000000) : n < sizeLine := Nat.lt_trans h (by decide)
theorem lenB' {n : Nat} (h : n < 10000000) : n ≤ sizeLine := Nat.le_of_lt (lenB h)
theorem br_decT {p : Prop} [Decidable p] {A B : Prop} (h : p) (a : A) : Br (decide p) A B := ⟨fun _ => a, fun z => absurd h (of_decide_eq_false z)⟩
theorem br_decF {p : Prop} [Decidable p] {A B : Prop} (h : ¬ p) (b : B) : Br (decide p) A B := ⟨fun z => absurd (of_decide_eq_true z) h, fun _ => b⟩
theorem br_nd {p : Prop} [Decidable p] {A B : Prop} (h1 : ¬ p → A) (h2 : p → B) : Br (!decide p) A B := br_not (br_dec h2 h1)
theorem br_nk {k : Bool} {A B : Prop} (h1 : k = false → A) (h2 : k = true → B) : Br (!k) A B := br_not ⟨h2, h1⟩
theorem br_nkF {k : Bool} {A B : Prop} (h : k = true) (b : B) : Br (!k) A B := by
  subst h
  exact ⟨fun z => (by cases z), fun _ => b⟩
theorem br_kT {k : Bool} {A B : Prop} (h : k = true) (a : A) : Br k A B := by
  subst h
  exact br_t a
theorem br_kF {k : Bool} {A B : Prop} (h : k = false) (b : B) : Br k A B := by
  subst h
  exact br_f b
/-- how keywords alone bind -/
theorem kwb_of {K : PySem.W.Frag} {x qual : Str} {st : Stmt} {f : Addr} {fd : FuncData} {ps ks : List Str} {is : List Nat} (F : Fun K x qual st f fd)
    (h : ∀ (kV doc pm : Value) (an : Option Addr) (cdv ct : Value) (ws : List Value), ws.length = ks.length → bindArgs (PySem.W.fnOf x qual (defArgs st) (defBody st) (defScope st) .none kV doc pm an cdv ct) ⟨[], ks.zip ws⟩ = pure (ps.zip (pick is ws))) : KwB K fd ps ks is := by
  obtain ⟨oc, od, kV, doc, pm, an, cdv, ct, osl, rfl, lk, hcd⟩ := F.ex
  exact ⟨fun s ws _ hl => .of_eq (h kV doc pm an cdv ct ws hl)⟩
section
variable {c : Ctx} {Γ : Gam} {M : Cells} {a b : Expr} {pos : Pos} {Q : D → Cells → Prop}
theorem atI_some {α : Type} {xs : List α} {i : Int} (h : 0 ≤ i ∧ i < xs.length) : ∃ j, ∃ hj : j < xs.length, i = (j : Int) ∧ atI xs i = some xs[j] := by
  obtain ⟨j, rfl⟩ : ∃ j : Nat, i = (j : Int) := ⟨i.toNat, by omega⟩
  refine ⟨j, by omega, rfl, ?_⟩
  exact atI_nat (List.getElem?_eq_getElem (by omega))
/-- an item of a written tuple of ints at some place in bounds, by what is so of each -/
theorem we_ixI (P : Int → Prop) (h : WE c a Γ M fun x M1 => WE c b Γ M1 fun y M2 => ∃ (ns : List Int) (i : Int), x = .tup (ns.map D.int) ∧ y = .int i ∧ (0 ≤ i ∧ i < ns.length) ∧ (∀ v ∈ ns, P v) ∧ ∀ v, P v → Q (.int v) M2) (hs : PlainIx b := by exact fun _ _ => rfl) :
    WE c (.Subscript a b pos) Γ M Q :=
  we_ix (.mk fun X S σ H at_ Q' hq => h.run X S σ H at_ Q' fun v H' d M' c1 s1 r1 q => hq v H' d M' c1 s1 r1 (.mk fun X S σ H at_ Q' hq => q.run X S σ H at_ Q' fun v H' d M' c1 s1 r1 ⟨ns, i, e1, e2, hi, hP, q⟩ => hq v H' d M' c1 s1 r1 (by
    obtain ⟨j, hj, _, e⟩ := atI_some (xs := ns.map D.int) (by rw [List.length_map]; exact hi)
    refine ⟨ns.map D.int, i, .int ns[j], .inl e1, e2, by rw [e]; simp, q _ (hP _ (List.getElem_mem _))⟩))) hs
end
theorem callee0 {c : Ctx} {pf : PF} {Γ : Gam} {ds : List D} {M : Cells} {Q : D → Cells → Prop} (h : ∀ (R : D → Cells → Prop) (Z : Addr → D → Cells → Prop), (∀ d M2, Q d M2 → R d M2) → (∀ C d M2, c.Z C d Γ M2 → Z C d M2) → pf ds M R Z) : Callee c pf Γ ds M Q := ⟨[], M, rfl, h⟩
end PL
namespace PL
open PySem PySem.Spec PyProof.Rows L2

/-! ### comprehensions -/
def wipeG (Γ : Gam) : List Nat → Gam
  | [] => Γ
  | v :: vs => (wipeG Γ vs).set v none
def setG (Γ : Gam) : List Nat → List D → Gam
  | i :: is, d :: ds => setG (Γ.set i (some d)) is ds
  | _, _ => Γ
theorem Slots.wipe2 {K : PySem.W.Frag} {A : AS} {H : Hp} {Γ : Gam} {σ : L2.St} (s : Slots K A H Γ σ) (i : Nat) : Slots K A H (Γ.set i none) (σ.set i none) := by
  refine ⟨by simp [s.len], fun j e h => ?_⟩
  by_cases hij : i = j
  · subst hij
    by_cases hi : i < Γ.length
    · rw [List.getElem?_set_self hi] at h
      cases h
    · rw [List.getElem?_eq_none (by simp; omega)] at h
      cases h
  · rw [List.getElem?_set_ne hij] at h
    obtain ⟨v, hv, r⟩ := s.at_ j e h
    exact ⟨v, by rw [List.getElem?_set_ne hij]; exact hv, r⟩
theorem Slots.wipes {K : PySem.W.Frag} {A : AS} {H : Hp} {Γ : Gam} {σ : L2.St} (s : Slots K A H Γ σ) : ∀ vs : List Nat, Slots K A H (wipeG Γ vs) (L2.wipe σ vs)
  | [] => s
  | v :: vs => (s.wipes vs).wipe2 v
theorem wipe_get {σ : L2.St} {j : Nat} : ∀ {vs : List Nat}, j ∈ vs → (wipe σ vs)[j]? = if j < σ.length then some none else none
  | v :: vs, h => by
    unfold wipe
    by_cases e : v = j
    · subst e
      split
      · rename_i hl
        rw [List.getElem?_set_self (by rw [wipe_length]; exact hl)]
      · rename_i hl
        rw [List.getElem?_eq_none (by rw [List.length_set, wipe_length]; omega)]
    · rw [List.getElem?_set_ne e]
      exact wipe_get ((List.mem_cons.mp h).resolve_left fun z => e z.symm)
theorem wipe_out' {σ : L2.St} {i : Nat} : ∀ {vs : List Nat}, i ∉ vs → (wipe σ vs)[i]? = σ[i]?
  | [], _ => rfl
  | v :: vs, h => by
    unfold wipe
    rw [List.getElem?_set_ne (fun e => h (by rw [e]; exact List.mem_cons_self))]
    exact wipe_out' fun z => h (List.mem_cons_of_mem _ z)
theorem wipe_same {σ σ2 : L2.St} {vs : List Nat} (hl : σ2.length = σ.length) (h : ∀ j, j ∉ vs → σ2[j]? = (wipe σ vs)[j]?) : wipe σ2 vs = wipe σ vs := by
  apply List.ext_getElem?
  intro j
  by_cases hj : j ∈ vs
  · rw [wipe_get hj, wipe_get hj, hl]
  · rw [wipe_out' hj, h j hj]
/-- targets of names: which slots get what -/
inductive Tgt (c : Ctx) : Expr → D → List Nat → List D → Prop
  | name {x : Str} {i : Nat} {pos : Pos} {d : D} : c.N[i]? = some x → LocC c x → Tgt c (.Name x pos) d [i] [d]
mutual
inductive TgtT (c : Ctx) : Expr → D → List Nat → List D → Prop
  | name {x : Str} {i : Nat} {pos : Pos} {d : D} : c.N[i]? = some x → LocC c x → TgtT c (.Name x pos) d [i] [d]
  | tup {tgs : List Expr} {k : Nat} {pos : Pos} {ds us : List D} {is : List Nat} : tgs.length = ds.length → (∀ env, (assignEach tgs env).length = tgs.length) → (∀ env, (assignEach tgs env).findIdx? (·.1) = none) → TgtS c tgs ds is us → TgtT c (.Tuple tgs k pos) (.tup ds) is us
inductive TgtS (c : Ctx) : List Expr → List D → List Nat → List D → Prop
  | nil : TgtS c [] [] [] []
  | cons {tg : Expr} {tgs : List Expr} {d : D} {ds u1 u2 : List D} {i1 i2 : List Nat} : (∀ env, (assignEach (tg :: tgs) env).map (·.2) = assign tg env :: (assignEach tgs env).map (·.2)) → TgtT c tg d i1 u1 → TgtS c tgs ds i2 u2 → TgtS c (tg :: tgs) (d :: ds) (i1 ++ i2) (u1 ++ u2)
end
theorem setG_app {Γ : Gam} : ∀ {i1 : List Nat} {u1 : List D} {i2 : List Nat} {u2 : List D}, i1.length = u1.length → setG Γ (i1 ++ i2) (u1 ++ u2) = setG (setG Γ i1 u1) i2 u2
  | [], [], _, _, _ => rfl
  | i :: i1, d :: u1, i2, u2, h => by
    show setG (Γ.set i (some d)) (i1 ++ i2) (u1 ++ u2) = setG (setG (Γ.set i (some d)) i1 u1) i2 u2
    exact setG_app (by simpa using h)
mutual
theorem TgtT.len {c : Ctx} : ∀ {tg : Expr} {d : D} {is : List Nat} {us : List D}, TgtT c tg d is us → is.length = us.length
  | _, _, _, _, .name _ _ => rfl
  | _, _, _, _, .tup _ _ _ h => h.len
theorem TgtS.len {c : Ctx} : ∀ {tg : List Expr} {d : List D} {is : List Nat} {us : List D}, TgtS c tg d is us → is.length = us.length
  | _, _, _, _, .nil => rfl
  | _, _, _, _, .cons _ h1 h2 => by rw [List.length_append, List.length_append, h1.len, h2.len]
end
mutual
theorem TgtT.run {c : Ctx} {X : Cx} (is_ : c.Is X) {A : AS} {H : Hp} : ∀ {tg : Expr} {d : D} {is : List Nat} {us : List D}, TgtT c tg d is us → ∀ {Γ : Gam} {σ : L2.St} {v : V} {Q : L2.St → Hp → Prop}, Slots c.K A H Γ σ → Rep c.K A H v d →
    (∀ σ', Slots c.K A H (setG Γ is us) σ' → σ'.length = σ.length → (∀ j, j ∉ is → σ'[j]? = σ[j]?) → Q σ' H) → wG X tg v σ H Q
  | _, _, _, _, .name hN hl, Γ, σ, v, Q, sl, r, h =>
    PG.to (pg_name is_.nd (is_.nm hN) (is_.loc hl) (is_.st hl)) (h _ (sl.set r) (by simp) fun j hj => by
      rw [List.getElem?_set_ne (fun e => hj (by rw [e]; exact List.mem_singleton.mpr rfl))])
  | _, _, _, _, .tup hl hn hst hs, Γ, σ, v, Q, sl, r, h => by
    cases r with
    | tup h1 h2 =>
      refine PG.to (L2.pg_tup is_.calm wGs.pgs (hn _) (hst _)) ⟨_, _, rfl, ?_, by rw [h2.length, hl], hs.run is_ sl h2 h⟩
      rw [is_.K]
      exact h1.sq
theorem TgtS.run {c : Ctx} {X : Cx} (is_ : c.Is X) {A : AS} {H : Hp} : ∀ {tgs : List Expr} {ds : List D} {is : List Nat} {us : List D}, TgtS c tgs ds is us → ∀ {Γ : Gam} {σ : L2.St} {vs : List V} {Q : L2.St → Hp → Prop}, Slots c.K A H Γ σ → Reps c.K A H vs ds →
    (∀ σ', Slots c.K A H (setG Γ is us) σ' → σ'.length = σ.length → (∀ j, j ∉ is → σ'[j]? = σ[j]?) → Q σ' H) → wGs X tgs vs σ H Q
  | _, _, _, _, .nil, Γ, σ, vs, Q, sl, r, h => by
    cases r
    exact PGs.to L2.pgs_nil ⟨rfl, h _ sl rfl fun _ _ => rfl⟩
  | _, _, _, _, .cons (i1 := i1) (i2 := i2) (u1 := u1) (u2 := u2) hs h1 h2, Γ, σ, vs, Q, sl, r, h => by
    cases r with
    | cons r rs =>
      exact PGs.to (L2.pgs_cons wG.pg wGs.pgs (hs _)) ⟨_, _, rfl, h1.run is_ sl r fun σ1 sl1 l1 k1 => h2.run is_ sl1 rs fun σ2 sl2 l2 k2 => h σ2 (by rw [setG_app h1.len]; exact sl2) (l2.trans l1) fun j hj => by
        rw [k2 j fun z => hj (List.mem_append_right _ z), k1 j fun z => hj (List.mem_append_left _ z)]⟩
end

/-! ### a clause's tests -/
def wTs (X : Cx) (ifs : List Expr) : TT := fun σ H Q => ∀ pins s, Inv X pins σ H s →
  wpAny (model X.prog X.w) X.A (forIn ifs true fun c r => if r = true then do let ok ← isTrue c X.env (eval c X.env); pure (ForInStep.yield ok) else pure (ForInStep.yield r)) (TP X pins σ Q) X.xe s
structure WIs (c : Ctx) (ifs : List Expr) (Γ : Gam) (M : Cells) (Q : Bool → Cells → Prop) : Prop where
  run : ∀ X S σ H, At c X S Γ M σ H → ∀ Q' : Bool → Hp → Prop, (∀ b H' M', Core c.K S M' H' → Step M M' H H' → Q b M' → Q' b H') → wTs X ifs σ H Q'
section
variable {c : Ctx} {X : Cx} {S : AS} {Γ Γ' : Gam} {M M' : Cells} {σ σ' : L2.St} {H H' : Hp} {a b e elt tg iter : Expr} {es ifs : List Expr} {pos pos' : Pos} {Q : D → Cells → Prop} {R : Bool → Cells → Prop} {x : Str} {E : PEnds} {scope : Scope} {own : List (Str × Nat)}
theorem wis_nil {R : Bool → Cells → Prop} (q : R true M) : WIs c [] Γ M R := .mk fun X S σ H at_ Q' hq pins s I => pts_nil.run pins s σ H Q' I (hq _ _ _ at_.core .refl q)
theorem wis_one {R : Bool → Cells → Prop} (h : WT c e Γ M R) : WIs c [e] Γ M R := .mk fun X S σ H at_ Q' hq pins s I => (pts_one wT.pt).run pins s σ H Q' I (h.run X S σ H at_ Q' hq)
/-- the context of a comprehension's block -/
def Ctx.blk (c : Ctx) (scope : Scope) : Ctx := ⟨c.P, c.w, c.K, c.mg, c.base, c.N, relS scope c.sc, c.k, fun _ _ _ _ => False, fun x => scope.names.lookup x == some .cell, false⟩
theorem Ctx.Is.blk (i : c.Is X) (s : Shared) (H0 : Hp) (C : Addr) (cl : List (Str × Addr)) (fp : List Addr) : (c.blk scope).Is (X.blk s H0 scope (compEnvC scope cl C X.env) fp) := by
  refine ⟨i.prog, i.w, i.K, i.mg, i.base, i.N, ?_, i.room, i.calm, i.nd, fun x _ h => h, PySem.PassesOwn.never, fun z => (by cases z)⟩
  show relS scope X.env.scope = relS scope c.sc
  rw [i.sc]
theorem land_blk (s : Shared) (H0 : Hp) (C : Addr) (cl : List (Str × Addr)) (fp : List Addr) : Land (c.blk scope) (X.blk s H0 scope (compEnvC scope cl C X.env) fp) S M H :=
  ⟨fun _ _ _ _ => False, fun u s' ⟨_, _, _, _, _, _, _, _, _, _, _, _, _, _, _, _, w⟩ => w, fun _ _ _ _ _ _ _ _ _ _ _ _ _ z => z⟩
def gB (X : Cx) (scope : Scope) (tg : Expr) : TG := fun v σ H Q => ∀ (s : Shared) (H0 : Hp) (C : Addr) (cl : List (Str × Addr)) (fp : List Addr), wG (X.blk s H0 scope (compEnvC scope cl C X.env) fp) tg v σ H Q
def tB (X : Cx) (scope : Scope) (e : Expr) : TE := fun σ H Q => ∀ (s : Shared) (H0 : Hp) (C : Addr) (cl : List (Str × Addr)) (fp : List Addr), wE (X.blk s H0 scope (compEnvC scope cl C X.env) fp) e σ H Q
def ttB (X : Cx) (scope : Scope) (ifs : List Expr) : TT := fun σ H Q => ∀ (s : Shared) (H0 : Hp) (C : Addr) (cl : List (Str × Addr)) (fp : List Addr), wTs (X.blk s H0 scope (compEnvC scope cl C X.env) fp) ifs σ H Q
theorem gB.pg (s : Shared) (H0 : Hp) (C : Addr) (cl : List (Str × Addr)) (fp : List Addr) : PG (X.blk s H0 scope (compEnvC scope cl C X.env) fp) tg (gB X scope tg) := ⟨fun pins s1 σ H v u Q I r h => h s H0 C cl fp pins s1 u I r⟩
theorem tB.pe (s : Shared) (H0 : Hp) (C : Addr) (cl : List (Str × Addr)) (fp : List Addr) : PE (X.blk s H0 scope (compEnvC scope cl C X.env) fp) e (tB X scope e) := ⟨fun pins s1 σ H Q I h => h s H0 C cl fp pins s1 I⟩
theorem ttB.pts (s : Shared) (H0 : Hp) (C : Addr) (cl : List (Str × Addr)) (fp : List Addr) : PTs (X.blk s H0 scope (compEnvC scope cl C X.env) fp) ifs (ttB X scope ifs) := ⟨fun pins s1 σ H Q I h => h s H0 C cl fp pins s1 I⟩
/-- one turn -/
def Turn1 (c : Ctx) (scope : Scope) (vs : List Nat) (tg elt : Expr) (ifs : List Expr) (d : D) (Γ : Gam) (M : Cells) (N1 : D → Cells → Prop) (N0 : Cells → Prop) : Prop :=
  ∃ is us, TgtT (c.blk scope) tg d is us ∧ (is.all fun i => vs.contains i) = true ∧ WIs (c.blk scope) ifs (setG (wipeG Γ vs) is us) M fun k M3 => Br k (WE (c.blk scope) elt (setG (wipeG Γ vs) is us) M3 N1) (N0 M3)
theorem lc_turn {vs : List Nat} {D0 : Addr} {acc : List D} {M1 M2 : Cells} {H1 : Hp} {v : V} {d : D} {N1 : D → Cells → Prop} {N0 : Cells → Prop} {Nx : Hp → Prop} (is_ : c.Is X) (sl : Slots c.K (av S M1) H1 Γ σ)
    (cr : Core c.K S ((D0, .lst acc) :: M2) H) (st : Step M1 ((D0, .lst acc) :: M2) H1 H) (rv : Rep c.K (av S ((D0, .lst acc) :: M2)) H v d) (hz : acc.length < sizeLine)
    (h : Turn1 c scope vs tg elt ifs d Γ M2 N1 N0)
    (n1 : ∀ d M4 H', Core c.K S ((D0, .lst (acc ++ [d])) :: M4) H' → Step M1 ((D0, .lst (acc ++ [d])) :: M4) H1 H' → N1 d M4 → Nx H')
    (n0 : ∀ M4 H', Core c.K S ((D0, .lst acc) :: M4) H' → Step M1 ((D0, .lst acc) :: M4) H1 H' → N0 M4 → Nx H') :
    gB X scope tg v (wipe σ vs) H fun σ2 H2 => wipe σ2 vs = wipe σ vs ∧ ttB X scope ifs σ2 H2 fun b H3 =>
      if b = true then tB X scope elt σ2 H3 fun y H4 => ∃ acc, H4 D0 = some (.lst acc) ∧ acc.length < sizeLine ∧ Nx (upd H4 D0 (.lst (acc ++ [y]))) else Nx H3 := by
  obtain ⟨is, us, ht, hv, hi⟩ := h
  intro s H0 C cl fp
  have e1 : (D0, MO.lst acc) :: M2 = [(D0, MO.lst acc)] ++ M2 := rfl
  have cl2 : Core c.K (av S [(D0, .lst acc)]) M2 H := Core.lend (kept := [(D0, MO.lst acc)]) cr
  have toL : To (av S ((D0, .lst acc) :: M2)) (av (av S [(D0, .lst acc)]) M2) H H := To.of_iff fun b z => av_app.mp z
  have sl2 : Slots c.K (av (av S [(D0, .lst acc)]) M2) H (wipeG Γ vs) (wipe σ vs) := ((sl.wipes vs).to st.to).to toL
  refine ht.run (is_.blk s H0 C cl fp) sl2 (rv.to toL) fun σ2 sl3 hl hk => ⟨?_, ?_⟩
  · refine wipe_same (by rw [hl, wipe_length]) fun j hj => hk j fun z => hj ?_
    exact List.contains_iff_mem.mp (List.all_eq_true.mp hv j z)
  · intro s2 H02 C2 cl3 fp2
    refine hi.run _ (av S [(D0, .lst acc)]) σ2 H ⟨is_.blk s2 H02 C2 cl3 fp2, cl2, sl3, land_blk s2 H02 C2 cl3 fp2⟩ _ fun k H3 M3 c3 s3 q => ?_
    obtain ⟨b3, bs3⟩ := Core.back (kept := [(D0, MO.lst acc)]) cr c3 s3
    cases k with
    | false =>
      simp only [Bool.false_eq_true, if_false]
      exact n0 M3 H3 b3 (st.trans bs3) (q.2 rfl)
    | true =>
      simp only [if_true]
      intro s4 H04 C4 cl4 fp4
      refine (q.1 rfl).run _ (av S [(D0, .lst acc)]) σ2 H3 ⟨is_.blk s4 H04 C4 cl4 fp4, c3, sl3.to s3.to, land_blk s4 H04 C4 cl4 fp4⟩ _ fun y H4 d4 M4 c4 s4' r4 q4 => ?_
      obtain ⟨b4, bs4⟩ := Core.back (kept := [(D0, MO.lst acc)]) b3 c4 s4'
      obtain ⟨o, ho, ws, eo, rs⟩ := b4.at_ (i := 0) (a := D0) (m := .lst acc) rfl
      subst eo
      refine ⟨ws, ho, by rw [rs.length]; exact hz, ?_⟩
      have r5 : Rep c.K (av S ([(D0, MO.lst acc)] ++ M4)) H4 y d4 := r4.to (To.of_iff fun b z => av_app.mpr z)
      have kp := b4.put (i := 0) (a := D0) (m := .lst acc) (m' := .lst (acc ++ [d4])) (o := .lst (ws ++ [y])) rfl ⟨_, rfl, rs.append (.cons r5 .nil)⟩
      exact n1 d4 M4 _ kp.1 (((st.trans bs3).trans bs4).trans kp.2) q4
/-- the whole -/
theorem lc_whole {α : Type} {xs : List α} {vs0 : List Nat} {D0 : Addr} {M1 : Cells} {H1 : Hp} {Qd : V → Hp → Prop} {Inv : List α → List D → Cells → Prop} {f : α → D} (hn : H1 D0 = none) (is_ : c.Is X) (sl : Slots c.K (av S M1) H1 Γ σ) (cr : Core c.K S M1 H1) (hz : xs.length ≤ sizeLine)
    (h0 : Inv [] [] M1) (hs : ∀ pre y post acc M2, xs = pre ++ y :: post → acc.length ≤ pre.length → Inv pre acc M2 → Turn1 c scope vs0 tg elt ifs (f y) Γ M2 (fun d M4 => Inv (pre ++ [y]) (acc ++ [d]) M4) (fun M4 => Inv (pre ++ [y]) acc M4))
    (hd : ∀ acc M2 H2, acc.length ≤ xs.length → Inv xs acc M2 → Core c.K S M2 H2 → Step M1 M2 H1 H2 → Rep c.K (av S M2) H2 (.ref D0) (.lst acc) → Qd (.ref D0) H2) :
    ∃ Pv : Nat → Hp → Prop, Pv 0 (upd H1 D0 (.lst [])) ∧ (∀ i H2, Pv i H2 → ∃ M2, Step M1 M2 H1 H2) ∧
      (∀ i y H2 v, xs[i]? = some y → Pv i H2 → (∀ M2, Core c.K S M2 H2 → Step M1 M2 H1 H2 → Rep c.K (av S M2) H2 v (f y)) → gB X scope tg v (wipe σ vs0) H2 fun σ2 H2 => wipe σ2 vs0 = wipe σ vs0 ∧ ttB X scope ifs σ2 H2 fun b H3 =>
        if b = true then tB X scope elt σ2 H3 fun y H4 => ∃ acc, H4 D0 = some (.lst acc) ∧ acc.length < sizeLine ∧ Pv (i + 1) (upd H4 D0 (.lst (acc ++ [y]))) else Pv (i + 1) H3) ∧ ∀ H2, Pv xs.length H2 → Qd (.ref D0) H2 := by
  refine ⟨fun i H2 => ∃ acc M2, Core c.K S ((D0, .lst acc) :: M2) H2 ∧ Step M1 ((D0, .lst acc) :: M2) H1 H2 ∧ acc.length ≤ i ∧ Inv (xs.take i) acc M2, ?_, ?_, ?_, ?_⟩
  · have k := cr.cell (o := .lst []) (m := .lst []) hn ⟨[], rfl, .nil⟩
    exact ⟨[], M1, k.1, k.2, Nat.le_refl _, h0⟩
  · rintro i H2 ⟨acc, M2, c2, s2, _, _⟩
    exact ⟨_, s2⟩
  · rintro i y H2 v hy ⟨acc, M2, c2, s2, hl, inv⟩ rv
    obtain ⟨hi, _⟩ := List.getElem?_eq_some_iff.mp hy
    obtain ⟨sp, tk⟩ := split_at hy
    refine lc_turn is_ sl c2 s2 (rv _ c2 s2) (by omega) (hs _ y _ acc M2 sp (by rw [List.length_take]; omega) inv) ?_ ?_
    · intro d M4 H' c4 s4 q
      exact ⟨_, M4, c4, s4, by simp; omega, by rw [tk]; exact q⟩
    · intro M4 H' c4 s4 q
      exact ⟨_, M4, c4, s4, by omega, by rw [tk]; exact q⟩
  · rintro H2 ⟨acc, M2, c2, s2, hl, inv⟩
    rw [List.take_length] at inv
    obtain ⟨c3, r3, s3⟩ := c2.freeze (i := 0) (p := D0) (ds := acc) rfl
    exact hd acc M2 H2 hl inv c3 (s2.trans s3) r3
/-- what a comprehension asks, behind its iterable's value -/
def LcQ (c : Ctx) (scope : Scope) (vs0 : List Nat) (tg elt : Expr) (ifs : List Expr) (Γ : Gam) {α : Type} (xs : List α) (f : α → D) (Inv : List α → List D → Cells → Prop) (M1 : Cells) (Q : D → Cells → Prop) : Prop :=
  xs.length ≤ sizeLine ∧ Inv [] [] M1 ∧ (∀ pre y post acc M2, xs = pre ++ y :: post → acc.length ≤ pre.length → Inv pre acc M2 → Turn1 c scope vs0 tg elt ifs (f y) Γ M2 (fun d M4 => Inv (pre ++ [y]) (acc ++ [d]) M4) (fun M4 => Inv (pre ++ [y]) acc M4)) ∧
  ∀ acc M2, acc.length ≤ xs.length → Inv xs acc M2 → Q (.lst acc) M2
section
variable {α : Type} {xs : List α} {f : α → D} {Inv : List α → List D → Cells → Prop}
theorem lcL_core (is_ : c.Is X) {M1 : Cells} {H1 : Hp} {a : Addr} {us : List V} (cr : Core c.K S M1 H1) (sl : Slots c.K (av S M1) H1 Γ σ) (h1 : RdL c.K (av S M1) H1 a us) (h2 : Reps c.K (av S M1) H1 us (xs.map f))
    (h : LcQ c scope (own.map (·.2)) tg elt ifs Γ xs f Inv M1 Q) {Q' : VK} (hq : ∀ v H' d M', Core c.K S M' H' → Step M1 M' H1 H' → Rep c.K (av S M') H' v d → Q d M' → Q' v H') :
    ∀ D, H1 D = none → ∃ W : Nat → Nat → Hp → Prop, (∃ m, W 0 m (upd H1 D (.lst []))) ∧ ∀ i m H, W i m H →
      ((Itl X.K a).stop i H ∧ Q' (.ref D) H) ∨ ((Itl X.K a).go i H ∧ ∃ Nx : Hp → Prop, (∀ H', Nx H' → ∃ m', m' < m ∧ W (i + 1) m' H') ∧ ∀ x H', (Itl X.K a).yld i H x H' → gB X scope tg x (wipe σ (own.map (·.2))) H' fun σ2 H2 => wipe σ2 (own.map (·.2)) = wipe σ (own.map (·.2)) ∧ ttB X scope ifs σ2 H2 fun b H3 =>
        if b = true then tB X scope elt σ2 H3 fun y H4 => ∃ acc, H4 D = some (.lst acc) ∧ acc.length < sizeLine ∧ Nx (upd H4 D (.lst (acc ++ [y]))) else Nx H3) := by
  intro D0 hn
  obtain ⟨hz, h0, hs, hd⟩ := h
  have hl : us.length = xs.length := by rw [h2.length, List.length_map]
  obtain ⟨Pv, p0, pst, pt, pd⟩ := lc_whole (Qd := Q') (D0 := D0) hn is_ sl cr hz h0 hs fun acc M2 H2 l i c2 s2 r2 => hq _ _ _ _ c2 s2 r2 (hd acc M2 l i)
  refine lc_list (xs := us) (Qd := Q' (.ref D0)) Pv p0 (fun i H _ p => ?_) (fun i v H hv p => ?_) (fun H p => pd H (by rw [← hl]; exact p))
  · obtain ⟨M2, s2⟩ := pst i H p
    rw [is_.K]
    exact (s2.to.rdl h1).sq
  · obtain ⟨d, hd', rd⟩ := h2.getV hv
    rw [List.getElem?_map] at hd'
    cases ex : xs[i]? with
    | none => rw [ex] at hd'; cases hd'
    | some z =>
      rw [ex] at hd'
      have ed : f z = d := Option.some.inj hd'
      subst ed
      exact pt i z H v ex p fun M2 _ s2 => rd.to s2.to
theorem lcT_core (is_ : c.Is X) {M1 : Cells} {H1 : Hp} {a : Addr} {us : List V} (cr : Core c.K S M1 H1) (sl : Slots c.K (av S M1) H1 Γ σ) (h1 : RdT c.K (av S M1) H1 a us) (h2 : Reps c.K (av S M1) H1 us (xs.map f))
    (h : LcQ c scope (own.map (·.2)) tg elt ifs Γ xs f Inv M1 Q) {Q' : VK} (hq : ∀ v H' d M', Core c.K S M' H' → Step M1 M' H1 H' → Rep c.K (av S M') H' v d → Q d M' → Q' v H') :
    ∀ D, H1 D = none → ∃ W : Nat → Nat → Hp → Prop, (∃ m, W 0 m (upd H1 D (.lst []))) ∧ ∀ i m H, W i m H →
      ((Itt X.K a).stop i H ∧ Q' (.ref D) H) ∨ ((Itt X.K a).go i H ∧ ∃ Nx : Hp → Prop, (∀ H', Nx H' → ∃ m', m' < m ∧ W (i + 1) m' H') ∧ ∀ x H', (Itt X.K a).yld i H x H' → gB X scope tg x (wipe σ (own.map (·.2))) H' fun σ2 H2 => wipe σ2 (own.map (·.2)) = wipe σ (own.map (·.2)) ∧ ttB X scope ifs σ2 H2 fun b H3 =>
        if b = true then tB X scope elt σ2 H3 fun y H4 => ∃ acc, H4 D = some (.lst acc) ∧ acc.length < sizeLine ∧ Nx (upd H4 D (.lst (acc ++ [y]))) else Nx H3) := by
  intro D0 hn
  obtain ⟨hz, h0, hs, hd⟩ := h
  have hl : us.length = xs.length := by rw [h2.length, List.length_map]
  obtain ⟨Pv, p0, pst, pt, pd⟩ := lc_whole (Qd := Q') (D0 := D0) hn is_ sl cr hz h0 hs fun acc M2 H2 l i c2 s2 r2 => hq _ _ _ _ c2 s2 r2 (hd acc M2 l i)
  refine lc_tup (xs := us) (Qd := Q' (.ref D0)) Pv p0 (fun i H _ p => ?_) (fun i v H hv p => ?_) (fun H p => pd H (by rw [← hl]; exact p))
  · obtain ⟨M2, s2⟩ := pst i H p
    rw [is_.K]
    exact (s2.to.rdt h1).sq
  · obtain ⟨d, hd', rd⟩ := h2.getV hv
    rw [List.getElem?_map] at hd'
    cases ex : xs[i]? with
    | none => rw [ex] at hd'; cases hd'
    | some z =>
      rw [ex] at hd'
      have ed : f z = d := Option.some.inj hd'
      subst ed
      exact pt i z H v ex p fun M2 _ s2 => rd.to s2.to
theorem lcR_core (is_ : c.Is X) {M1 : Cells} {H1 : Hp} {lo : Int} {n : Nat} (cr : Core c.K S M1 H1) (sl : Slots c.K (av S M1) H1 Γ σ)
    {Inv : List Nat → List D → Cells → Prop} (h : LcQ c scope (own.map (·.2)) tg elt ifs Γ (List.range n) (fun k => .int (lo + (k : Int))) Inv M1 Q) {Q' : VK} (hq : ∀ v H' d M', Core c.K S M' H' → Step M1 M' H1 H' → Rep c.K (av S M') H' v d → Q d M' → Q' v H') :
    ∀ D, H1 D = none → ∃ W : Nat → Nat → Hp → Prop, (∃ m, W 0 m (upd H1 D (.lst []))) ∧ ∀ i m H, W i m H →
      ((Itr lo n).stop i H ∧ Q' (.ref D) H) ∨ ((Itr lo n).go i H ∧ ∃ Nx : Hp → Prop, (∀ H', Nx H' → ∃ m', m' < m ∧ W (i + 1) m' H') ∧ ∀ x H', (Itr lo n).yld i H x H' → gB X scope tg x (wipe σ (own.map (·.2))) H' fun σ2 H2 => wipe σ2 (own.map (·.2)) = wipe σ (own.map (·.2)) ∧ ttB X scope ifs σ2 H2 fun b H3 =>
        if b = true then tB X scope elt σ2 H3 fun y H4 => ∃ acc, H4 D = some (.lst acc) ∧ acc.length < sizeLine ∧ Nx (upd H4 D (.lst (acc ++ [y]))) else Nx H3) := by
  intro D0 hn
  obtain ⟨hz, h0, hs, hd⟩ := h
  obtain ⟨Pv, p0, pst, pt, pd⟩ := lc_whole (Qd := Q') (D0 := D0) hn is_ sl cr hz h0 hs fun acc M2 H2 l i c2 s2 r2 => hq _ _ _ _ c2 s2 r2 (hd acc M2 l i)
  refine lc_range (Qd := Q' (.ref D0)) Pv p0 (fun i H hi p => ?_) (fun H p => pd H (by rw [List.length_range]; exact p))
  exact pt i i H _ (List.getElem?_range hi) p fun M2 _ s2 => .int
theorem At.blkOk (at_ : At c X S Γ M σ H) (hb : blkC c.N c.sc scope own = true) : BlkOk X.N X.env.scope scope own := by
  rw [at_.is.N, at_.is.sc]
  exact blkOk_by hb
/-- [elt for tg in iter if ..] -/
theorem we_lcL (own : List (Str × Nat)) (hb : blkC c.N c.sc scope own = true) (xs : List α) (f : α → D) (Inv : List α → List D → Cells → Prop) (h : WE c iter Γ M fun d M1 => d = .lst (xs.map f) ∧ LcQ c scope (own.map (·.2)) tg elt ifs Γ xs f Inv M1 Q)
    (hs : ∀ env x, foldedSetIterable iter env x = pure x := by intro _ _; rfl) : WE c (.ListComp elt [⟨tg, iter, ifs, 0⟩] scope pos) Γ M Q := .mk fun X S σ H at_ Q' hq =>
  PE.to (pe_lc at_.is.calm at_.is.nd (pi_list wE.pe) (at_.blkOk hb) (fun s H C cl fp => gB.pg s H C cl fp) (fun s H C cl fp => ttB.pts s H C cl fp) (fun s H C cl fp => tB.pe s H C cl fp) (hs _)) (h.run X S σ H at_ _ fun v1 H1 d1 M1 c1 s1 r1 ⟨e1, q⟩ => by
    subst e1
    cases r1 with
    | lst h1 h2 => exact ⟨_, rfl, ⟨_, by rw [at_.is.K]; exact h1.sq⟩, lcL_core at_.is c1 (at_.slots.to s1.to) h1 h2 q fun v H' d M' c2 s2 r2 q2 => hq v H' d M' c2 (s1.trans s2) r2 q2⟩)
theorem we_lcT (own : List (Str × Nat)) (hb : blkC c.N c.sc scope own = true) (xs : List α) (f : α → D) (Inv : List α → List D → Cells → Prop) (h : WE c iter Γ M fun d M1 => d = .tup (xs.map f) ∧ LcQ c scope (own.map (·.2)) tg elt ifs Γ xs f Inv M1 Q)
    (hs : ∀ env x, foldedSetIterable iter env x = pure x := by intro _ _; rfl) : WE c (.ListComp elt [⟨tg, iter, ifs, 0⟩] scope pos) Γ M Q := .mk fun X S σ H at_ Q' hq =>
  PE.to (pe_lc at_.is.calm at_.is.nd (pi_tup wE.pe) (at_.blkOk hb) (fun s H C cl fp => gB.pg s H C cl fp) (fun s H C cl fp => ttB.pts s H C cl fp) (fun s H C cl fp => tB.pe s H C cl fp) (hs _)) (h.run X S σ H at_ _ fun v1 H1 d1 M1 c1 s1 r1 ⟨e1, q⟩ => by
    subst e1
    cases r1 with
    | tup h1 h2 => exact ⟨_, rfl, ⟨_, by rw [at_.is.K]; exact h1.sq⟩, lcT_core at_.is c1 (at_.slots.to s1.to) h1 h2 q fun v H' d M' c2 s2 r2 q2 => hq v H' d M' c2 (s1.trans s2) r2 q2⟩)
theorem we_lcR {p p' : Pos} (own : List (Str × Nat)) (hb : blkC c.N c.sc scope own = true) (hg : GlC c.sc "range") (hm : c.mg "range" = none) (Inv : List Nat → List D → Cells → Prop)
    (h : WE c a Γ M fun d M1 => ∃ n : Int, d = .int n ∧ -(2 ^ 62) ≤ n ∧ n < 2 ^ 62 ∧ LcQ c scope (own.map (·.2)) tg elt ifs Γ (List.range n.toNat) (fun k => .int (0 + (k : Int))) Inv M1 Q)
    (hst : ∀ env, starEach [a] env = (false, eval a env) :: starEach [] env := by intro _; rfl) (hs : ∀ env x, foldedSetIterable (.Call (.Name "range" p) [a] [] p') env x = pure x := by intro _ _; rfl) : WE c (.ListComp elt [⟨tg, .Call (.Name "range" p) [a] [] p', ifs, 0⟩] scope pos) Γ M Q := .mk fun X S σ H at_ Q' hq =>
  PE.to (pe_lc at_.is.calm at_.is.nd (pi_range1 (at_.is.gl hg) (at_.is.mgN hm) (pa_cons wE.pe pa_nil (hst _)) (by rw [hst]; rfl)) (at_.blkOk hb) (fun s H C cl fp => gB.pg s H C cl fp) (fun s H C cl fp => ttB.pts s H C cl fp) (fun s H C cl fp => tB.pe s H C cl fp) (hs _)) (h.run X S σ H at_ _ fun v1 H1 d1 M1 c1 s1 r1 ⟨n, e1, b1, b2, q⟩ => by
    subst e1
    cases r1
    exact ⟨n, rfl, b1, b2, lcR_core at_.is c1 (at_.slots.to s1.to) q fun v H' d M' c2 s2 r2 q2 => hq v H' d M' c2 (s1.trans s2) r2 q2⟩)
/-- name = [..] on one line -/
theorem ws_lcL {i : Nat} {y : Str} {py spos : Pos} (own : List (Str × Nat)) (hb : blkC c.N c.sc scope own = true) (hy : c.N[i]? = some y) (hyl : c.sc.names.lookup y = some .local) (xs : List α) (f : α → D) (Inv : List α → List D → Cells → Prop) (h : WE c iter Γ M fun d M1 => d = .lst (xs.map f) ∧ LcQ c scope (own.map (·.2)) tg elt ifs Γ xs f Inv M1 fun d M2 => E.nx (Γ.set i (some d)) M2)
    (hsw : ∀ env, env.scope = c.sc → swapsWith (.ListComp elt [⟨tg, iter, ifs, 0⟩] scope pos) (some (.Name y py)) spos.line env = pure true := by (rintro ⟨_, _, _, _, _, _, _, _, _⟩ rfl; rfl)) (hs : ∀ env x, foldedSetIterable iter env x = pure x := by intro _ _; rfl) : WS c (.Assign [.Name y py] (.ListComp elt [⟨tg, iter, ifs, 0⟩] scope pos) spos) E Γ M := .mk fun X S σ H at_ Ds l =>
  PS.to (ps_setLc at_.is.calm at_.is.nd (at_.is.nm hy) (by rw [at_.is.sc]; exact hyl) (hsw _ at_.is.sc) (pi_list wE.pe) (at_.blkOk hb) (fun s H C cl fp => gB.pg s H C cl fp) (fun s H C cl fp => ttB.pts s H C cl fp) (fun s H C cl fp => tB.pe s H C cl fp) (hs _)) (h.run X S σ H at_ _ fun v1 H1 d1 M1 c1 s1 r1 ⟨e1, q⟩ => by
    subst e1
    cases r1 with
    | lst h1 h2 => exact ⟨_, rfl, ⟨_, by rw [at_.is.K]; exact h1.sq⟩, lcL_core at_.is c1 (at_.slots.to s1.to) h1 h2 q fun v H' d M' c2 s2 r2 q2 => l.nx _ _ _ _ c2 ((at_.slots.to (s1.trans s2).to).set r2) (s1.trans s2) q2⟩)
theorem ws_lcT {i : Nat} {y : Str} {py spos : Pos} (own : List (Str × Nat)) (hb : blkC c.N c.sc scope own = true) (hy : c.N[i]? = some y) (hyl : c.sc.names.lookup y = some .local) (xs : List α) (f : α → D) (Inv : List α → List D → Cells → Prop) (h : WE c iter Γ M fun d M1 => d = .tup (xs.map f) ∧ LcQ c scope (own.map (·.2)) tg elt ifs Γ xs f Inv M1 fun d M2 => E.nx (Γ.set i (some d)) M2)
    (hsw : ∀ env, env.scope = c.sc → swapsWith (.ListComp elt [⟨tg, iter, ifs, 0⟩] scope pos) (some (.Name y py)) spos.line env = pure true := by (rintro ⟨_, _, _, _, _, _, _, _, _⟩ rfl; rfl)) (hs : ∀ env x, foldedSetIterable iter env x = pure x := by intro _ _; rfl) : WS c (.Assign [.Name y py] (.ListComp elt [⟨tg, iter, ifs, 0⟩] scope pos) spos) E Γ M := .mk fun X S σ H at_ Ds l =>
  PS.to (ps_setLc at_.is.calm at_.is.nd (at_.is.nm hy) (by rw [at_.is.sc]; exact hyl) (hsw _ at_.is.sc) (pi_tup wE.pe) (at_.blkOk hb) (fun s H C cl fp => gB.pg s H C cl fp) (fun s H C cl fp => ttB.pts s H C cl fp) (fun s H C cl fp => tB.pe s H C cl fp) (hs _)) (h.run X S σ H at_ _ fun v1 H1 d1 M1 c1 s1 r1 ⟨e1, q⟩ => by
    subst e1
    cases r1 with
    | tup h1 h2 => exact ⟨_, rfl, ⟨_, by rw [at_.is.K]; exact h1.sq⟩, lcT_core at_.is c1 (at_.slots.to s1.to) h1 h2 q fun v H' d M' c2 s2 r2 q2 => l.nx _ _ _ _ c2 ((at_.slots.to (s1.trans s2).to).set r2) (s1.trans s2) q2⟩)
theorem ws_lcR {p p' : Pos} {i : Nat} {y : Str} {py spos : Pos} (own : List (Str × Nat)) (hb : blkC c.N c.sc scope own = true) (hy : c.N[i]? = some y) (hyl : c.sc.names.lookup y = some .local) (hg : GlC c.sc "range") (hm : c.mg "range" = none) (Inv : List Nat → List D → Cells → Prop)
    (h : WE c a Γ M fun d M1 => ∃ n : Int, d = .int n ∧ -(2 ^ 62) ≤ n ∧ n < 2 ^ 62 ∧ LcQ c scope (own.map (·.2)) tg elt ifs Γ (List.range n.toNat) (fun k => .int (0 + (k : Int))) Inv M1 fun d M2 => E.nx (Γ.set i (some d)) M2)
    (hsw : ∀ env, env.scope = c.sc → swapsWith (.ListComp elt [⟨tg, .Call (.Name "range" p) [a] [] p', ifs, 0⟩] scope pos) (some (.Name y py)) spos.line env = pure true := by (rintro ⟨_, _, _, _, _, _, _, _, _⟩ rfl; rfl))
    (hst : ∀ env, starEach [a] env = (false, eval a env) :: starEach [] env := by intro _; rfl) (hs : ∀ env x, foldedSetIterable (.Call (.Name "range" p) [a] [] p') env x = pure x := by intro _ _; rfl) : WS c (.Assign [.Name y py] (.ListComp elt [⟨tg, .Call (.Name "range" p) [a] [] p', ifs, 0⟩] scope pos) spos) E Γ M := .mk fun X S σ H at_ Ds l =>
  PS.to (ps_setLc at_.is.calm at_.is.nd (at_.is.nm hy) (by rw [at_.is.sc]; exact hyl) (hsw _ at_.is.sc) (pi_range1 (at_.is.gl hg) (at_.is.mgN hm) (pa_cons wE.pe pa_nil (hst _)) (by rw [hst]; rfl)) (at_.blkOk hb) (fun s H C cl fp => gB.pg s H C cl fp) (fun s H C cl fp => ttB.pts s H C cl fp) (fun s H C cl fp => tB.pe s H C cl fp) (hs _)) (h.run X S σ H at_ _ fun v1 H1 d1 M1 c1 s1 r1 ⟨n, e1, b1, b2, q⟩ => by
    subst e1
    cases r1
    exact ⟨n, rfl, b1, b2, lcR_core at_.is c1 (at_.slots.to s1.to) q fun v H' d M' c2 s2 r2 q2 => l.nx _ _ _ _ c2 ((at_.slots.to (s1.trans s2).to).set r2) (s1.trans s2) q2⟩)
/-- elements that are told by what is taken, nothing changed -/
theorem lcq_map (g : α → D) {vs0 : List Nat} (hz : xs.length ≤ sizeLine) (hs : ∀ y ∈ xs, Turn1 c scope vs0 tg elt ifs (f y) Γ M (fun d M4 => d = g y ∧ M4 = M) (fun _ => False)) (q : Q (.lst (xs.map g)) M) :
    LcQ c scope vs0 tg elt ifs Γ xs f (fun pre acc M2 => acc = pre.map g ∧ M2 = M) M Q := by
  refine ⟨hz, ⟨rfl, rfl⟩, ?_, ?_⟩
  · rintro pre y post acc M2 e _ ⟨rfl, rfl⟩
    obtain ⟨is, us, ht, hv, hi⟩ := hs y (by rw [e]; simp)
    refine ⟨is, us, ht, hv, .mk fun X S σ H at_ Q' hq => hi.run X S σ H at_ Q' fun k H' M' c1 s1 b => hq k H' M' c1 s1 ⟨fun hk => .mk fun X S σ H at_ Q' hq => (b.1 hk).run X S σ H at_ Q' fun v H' d M' c1 s1 r1 ⟨e1, e2⟩ => hq v H' d M' c1 s1 r1 ⟨by rw [e1, List.map_append]; rfl, e2⟩, fun hk => (b.2 hk).elim⟩⟩
  · rintro acc M2 _ ⟨rfl, rfl⟩
    exact q
theorem lcq_filter (p : α → Bool) (g : α → D) {vs0 : List Nat} (hz : xs.length ≤ sizeLine) (hs : ∀ y ∈ xs, Turn1 c scope vs0 tg elt ifs (f y) Γ M (fun d M4 => p y = true ∧ d = g y ∧ M4 = M) (fun M4 => p y = false ∧ M4 = M)) (q : Q (.lst ((xs.filter p).map g)) M) :
    LcQ c scope vs0 tg elt ifs Γ xs f (fun pre acc M2 => acc = (pre.filter p).map g ∧ M2 = M) M Q := by
  refine ⟨hz, ⟨rfl, rfl⟩, ?_, ?_⟩
  · rintro pre y post acc M2 e _ ⟨rfl, rfl⟩
    obtain ⟨is, us, ht, hv, hi⟩ := hs y (by rw [e]; simp)
    refine ⟨is, us, ht, hv, .mk fun X S σ H at_ Q' hq => hi.run X S σ H at_ Q' fun k H' M' c1 s1 b => hq k H' M' c1 s1 ⟨fun hk => .mk fun X S σ H at_ Q' hq => (b.1 hk).run X S σ H at_ Q' fun v H' d M' c1 s1 r1 ⟨e0, e1, e2⟩ => hq v H' d M' c1 s1 r1 ⟨by rw [e1, List.filter_append, List.map_append]; simp [e0], e2⟩, fun hk => ?_⟩⟩
    obtain ⟨e0, e2⟩ := b.2 hk
    exact ⟨by rw [List.filter_append, List.map_append]; simp [e0], e2⟩
  · rintro acc M2 _ ⟨rfl, rfl⟩
    exact q
end
end
end PL
namespace PL
open PySem PySem.Spec PyProof.Rows L2

section
variable {c : Ctx} {X : Cx} {S : AS} {Γ Γ' : Gam} {M M' : Cells} {σ σ' : L2.St} {H H' : Hp} {a b e : Expr} {es : List Expr} {pos pos' p : Pos} {Q : D → Cells → Prop} {R : Bool → Cells → Prop} {x : Str} {E : PEnds}
/-! ### built-in calls of one argument -/
def Arg1 (c : Ctx) (r : List V → Hp → VK → Prop) (Q : D → Cells → Prop) (d : D) (M1 : Cells) : Prop :=
  ∀ (S : AS) (H : Hp) (v : V), Core c.K S M1 H → Rep c.K (av S M1) H v d → ∀ Q' : VK, (∀ v H' d M', Core c.K S M' H' → Step M1 M' H H' → Rep c.K (av S M') H' v d → Q d M' → Q' v H') → r [v] H Q'
theorem wa_one {R : List D → Cells → Prop} (h : WE c e Γ M fun d M1 => R [d] M1) (he : ∀ env, starEach [e] env = (false, eval e env) :: starEach [] env := by intro _; rfl) : WA c [e] Γ M R :=
  wa_cons (.mk fun X S σ H at_ Q' hq => h.run X S σ H at_ Q' fun v H' d M' c1 s1 r1 q => hq v H' d M' c1 s1 r1 (wa_nil q)) he
theorem we_callB1 {id : String} {r : List V → Hp → VK → Prop} (hc : ∀ X : Cx, c.Is X → CallR X (.builtin id) r) (hg : GlC c.sc x) (hm : c.mg x = none) (hv : bootBuiltins x = some (.builtin id))
    (h : WE c e Γ M (Arg1 c r Q)) (hn : x ≠ "__name__" := by decide) (hdb : (x == ("__debug__" : Str)) = false := by decide)
    (he : ∀ env, starEach [e] env = (false, eval e env) :: starEach [] env := by intro _; rfl) : WE c (.Call (.Name x p) [e] [] pos) Γ M Q := .mk fun X S σ H at_ Q' hq =>
  PE.to (pe_callB (hc X at_.is) (at_.is.gl hg) (at_.is.mgN hm) hv wA.pa hn hdb (he _) (by rfl)) ((wa_one (R := fun ds M1 => ∃ d, ds = [d] ∧ Arg1 c r Q d M1) (.mk fun X S σ H at_ Q' hq => h.run X S σ H at_ Q' fun v H' d M' c1 s1 r1 q => hq v H' d M' c1 s1 r1 ⟨d, rfl, q⟩) he).run X S σ H at_ _ fun vs H1 ds M1 c1 s1 r1 ⟨d, e1, q⟩ => by
    subst e1
    cases r1 with
    | cons r r' =>
      cases r'
      exact q S H1 _ c1 r Q' fun v H' d M' c2 s2 r2 q2 => hq v H' d M' c2 (s1.trans s2) r2 q2)
theorem we_callT1 {T : String} {r : List V → Hp → VK → Prop} (hc : ∀ X : Cx, c.Is X → CallR X (.type T) r) (hg : GlC c.sc x) (hm : c.mg x = none) (hv : bootBuiltins x = some (.type T))
    (h : WE c e Γ M (Arg1 c r Q)) (hn : x ≠ "__name__" := by decide) (hdb : (x == ("__debug__" : Str)) = false := by decide)
    (he : ∀ env, starEach [e] env = (false, eval e env) :: starEach [] env := by intro _; rfl) : WE c (.Call (.Name x p) [e] [] pos) Γ M Q := .mk fun X S σ H at_ Q' hq =>
  PE.to (pe_callTy (hc X at_.is) (at_.is.gl hg) (at_.is.mgN hm) hv wA.pa hn hdb (he _) (by rfl)) ((wa_one (R := fun ds M1 => ∃ d, ds = [d] ∧ Arg1 c r Q d M1) (.mk fun X S σ H at_ Q' hq => h.run X S σ H at_ Q' fun v H' d M' c1 s1 r1 q => hq v H' d M' c1 s1 r1 ⟨d, rfl, q⟩) he).run X S σ H at_ _ fun vs H1 ds M1 c1 s1 r1 ⟨d, e1, q⟩ => by
    subst e1
    cases r1 with
    | cons r r' =>
      cases r'
      exact q S H1 _ c1 r Q' fun v H' d M' c2 s2 r2 q2 => hq v H' d M' c2 (s1.trans s2) r2 q2)
theorem WE.imp {Q2 : D → Cells → Prop} (h : WE c e Γ M Q) (k : ∀ d M1, Q d M1 → Q2 d M1) : WE c e Γ M Q2 := .mk fun X S σ H at_ Q' hq => h.run X S σ H at_ Q' fun v H' d M' c1 s1 r1 q => hq v H' d M' c1 s1 r1 (k d M' q)
/-- a fresh list -/
theorem fresh_lst {K : PySem.W.Frag} {c : Ctx} {S : AS} {M : Cells} {H : Hp} {q : Addr} {vs : List V} {ds : List D} (cr : Core c.K S M H) (np : H q = none) (r : Reps c.K (av S M) H vs ds) :
    Core c.K S M (upd H q (.lst vs)) ∧ Step M M H (upd H q (.lst vs)) ∧ Rep c.K (av S M) (upd H q (.lst vs)) (.ref q) (.lst ds) :=
  ⟨cr.new np, Step.same (same_new np), .lst (.inl ⟨cr.free np, .inl upd_same⟩) (r.to (Step.same (same_new np)).to)⟩
/-- sorted(e), ints -/
theorem we_sortedI (hg : GlC c.sc "sorted") (hm : c.mg "sorted" = none) (h : WE c e Γ M fun d M1 => ∃ ns : List Int, View M1 d (.lst (ns.map D.int)) ∧ ∀ ns' : List Int, ns'.Perm ns → ns'.Pairwise (· ≤ ·) → Q (.lst (ns'.map D.int)) M1)
    (he : ∀ env, starEach [e] env = (false, eval e env) :: starEach [] env := by intro _; rfl) : WE c (.Call (.Name "sorted" p) [e] [] pos) Γ M Q :=
  we_callB1 (r := rSortedI c.K) (fun X i => by rw [← i.K]; exact cr_sortedI) hg hm PyProof.Rows.boot_sorted (h.imp fun d M1 ⟨ns, w, q⟩ S H v c1 r1 Q' hq => by
    have rr := w.rep c1 r1
    cases rr with
    | lst h1 h2 =>
      have e1 := h2.ints
      subst e1
      refine ⟨_, ns, rfl, h1.sq, fun ns' p hp hs np => ?_⟩
      obtain ⟨k1, k2, k3⟩ := fresh_lst (K := c.K) c1 np (Reps.of_ints (K := c.K) (A := av S M1) (H := H) ns')
      exact hq _ _ _ _ k1 k2 k3 (q ns' hp hs)) (he := he)
/-- max(e), min(e), ints -/
theorem we_maxI (hg : GlC c.sc "max") (hm : c.mg "max" = none) (h : WE c e Γ M fun d M1 => ∃ ns : List Int, View M1 d (.lst (ns.map D.int)) ∧ 0 < ns.length ∧ ∀ m, m ∈ ns → (∀ y, y ∈ ns → y ≤ m) → Q (.int m) M1)
    (he : ∀ env, starEach [e] env = (false, eval e env) :: starEach [] env := by intro _; rfl) : WE c (.Call (.Name "max" p) [e] [] pos) Γ M Q :=
  we_callB1 (r := rMax c.K) (fun X i => by rw [← i.K]; exact cr_max i.calm) hg hm PyProof.Rows.boot_max (h.imp fun d M1 ⟨ns, w, hne, q⟩ S H v c1 r1 Q' hq => by
    have rr := w.rep c1 r1
    cases rr with
    | lst h1 h2 =>
      have e1 := h2.ints
      subst e1
      exact ⟨_, ns, rfl, h1.sq, hne, fun m h1 h2 => hq _ _ _ _ c1 .refl .int (q m h1 h2)⟩) (he := he)
theorem we_minI (hg : GlC c.sc "min") (hm : c.mg "min" = none) (h : WE c e Γ M fun d M1 => ∃ ns : List Int, View M1 d (.lst (ns.map D.int)) ∧ 0 < ns.length ∧ ∀ m, m ∈ ns → (∀ y, y ∈ ns → m ≤ y) → Q (.int m) M1)
    (he : ∀ env, starEach [e] env = (false, eval e env) :: starEach [] env := by intro _; rfl) : WE c (.Call (.Name "min" p) [e] [] pos) Γ M Q :=
  we_callB1 (r := rMin c.K) (fun X i => by rw [← i.K]; exact cr_min i.calm) hg hm (by decide +kernel) (h.imp fun d M1 ⟨ns, w, hne, q⟩ S H v c1 r1 Q' hq => by
    have rr := w.rep c1 r1
    cases rr with
    | lst h1 h2 =>
      have e1 := h2.ints
      subst e1
      exact ⟨_, ns, rfl, h1.sq, hne, fun m h1 h2 => hq _ _ _ _ c1 .refl .int (q m h1 h2)⟩) (he := he)
/-- list(e): a new list, to stay as it is, or a cell -/
theorem we_listOf (hg : GlC c.sc "list") (hm : c.mg "list" = none) (h : WE c e Γ M fun d M1 => ∃ ds, (View M1 d (.lst ds) ∨ View M1 d (.tup ds)) ∧ Q (.lst ds) M1)
    (he : ∀ env, starEach [e] env = (false, eval e env) :: starEach [] env := by intro _; rfl) : WE c (.Call (.Name "list" p) [e] [] pos) Γ M Q :=
  we_callT1 (r := fun xs H Q => ∃ p ys, xs = [.ref p] ∧ (SqL c.K H p ys ∨ SqT c.K H p ys) ∧ ∀ l, H l = none → Q (.ref l) (upd H l (.lst ys))) (fun X i => by rw [← i.K]; exact call_list_of) hg hm (by decide +kernel) (h.imp fun d M1 ⟨ds, w, q⟩ S H v c1 r1 Q' hq => by
    rcases w with w | w
    · cases w with
      | self =>
        cases r1 with
        | lst h1 h2 => exact ⟨_, _, rfl, .inl h1.sq, fun l np => by
            obtain ⟨k1, k2, k3⟩ := fresh_lst (K := c.K) c1 np h2
            exact hq _ _ _ _ k1 k2 k3 q⟩
      | cell hc =>
        cases r1
        obtain ⟨o, ho, vs, eo, rs⟩ := c1.at_ hc
        subst eo
        exact ⟨_, _, rfl, .inl (.of ho), fun l np => by
          obtain ⟨k1, k2, k3⟩ := fresh_lst (K := c.K) c1 np rs
          exact hq _ _ _ _ k1 k2 k3 q⟩
    · cases w with
      | self =>
        cases r1 with
        | tup h1 h2 => exact ⟨_, _, rfl, .inr h1.sq, fun l np => by
            obtain ⟨k1, k2, k3⟩ := fresh_lst (K := c.K) c1 np h2
            exact hq _ _ _ _ k1 k2 k3 q⟩) (he := he)
theorem we_listOfC (hg : GlC c.sc "list") (hm : c.mg "list" = none) (h : WE c e Γ M fun d M1 => ∃ ds, (View M1 d (.lst ds) ∨ View M1 d (.tup ds)) ∧ ∀ p, Q (.ptr p) ((p, .lst ds) :: M1))
    (he : ∀ env, starEach [e] env = (false, eval e env) :: starEach [] env := by intro _; rfl) : WE c (.Call (.Name "list" p) [e] [] pos) Γ M Q :=
  we_callT1 (r := fun xs H Q => ∃ p ys, xs = [.ref p] ∧ (SqL c.K H p ys ∨ SqT c.K H p ys) ∧ ∀ l, H l = none → Q (.ref l) (upd H l (.lst ys))) (fun X i => by rw [← i.K]; exact call_list_of) hg hm (by decide +kernel) (h.imp fun d M1 ⟨ds, w, q⟩ S H v c1 r1 Q' hq => by
    rcases w with w | w
    · cases w with
      | self =>
        cases r1 with
        | lst h1 h2 => exact ⟨_, _, rfl, .inl h1.sq, fun l np => by
            have k := c1.cell (o := .lst _) (m := .lst ds) np ⟨_, rfl, h2⟩
            exact hq _ _ _ _ k.1 k.2 .ptr (q l)⟩
      | cell hc =>
        cases r1
        obtain ⟨o, ho, vs, eo, rs⟩ := c1.at_ hc
        subst eo
        exact ⟨_, _, rfl, .inl (.of ho), fun l np => by
          have k := c1.cell (o := .lst _) (m := .lst ds) np ⟨_, rfl, rs⟩
          exact hq _ _ _ _ k.1 k.2 .ptr (q l)⟩
    · cases w with
      | self =>
        cases r1 with
        | tup h1 h2 => exact ⟨_, _, rfl, .inr h1.sq, fun l np => by
            have k := c1.cell (o := .lst _) (m := .lst ds) np ⟨_, rfl, h2⟩
            exact hq _ _ _ _ k.1 k.2 .ptr (q l)⟩) (he := he)
/-- int(e), e a truth or an int -/
theorem we_intOf (hg : GlC c.sc "int") (hm : c.mg "int" = none) (h : WE c e Γ M fun d M1 => (∃ k, d = .bl k ∧ Q (.int (if k then 1 else 0)) M1) ∨ ∃ i, d = .int i ∧ Q (.int i) M1)
    (he : ∀ env, starEach [e] env = (false, eval e env) :: starEach [] env := by intro _; rfl) : WE c (.Call (.Name "int" p) [e] [] pos) Γ M Q :=
  we_callT1 (fun X i => call_int1) hg hm (by decide +kernel) (h.imp fun d M1 w S H v c1 r1 Q' hq => by
    rcases w with ⟨k, e1, q⟩ | ⟨i, e1, q⟩
    · subst e1; cases r1
      exact .inr ⟨k, rfl, hq _ _ _ _ c1 .refl .int q⟩
    · subst e1; cases r1
      exact .inl ⟨i, rfl, hq _ _ _ _ c1 .refl .int q⟩) (he := he)

/-! ### sorted(e), data of one kind -/
theorem view_dp {n : Nat} {d : D} {ds : List D} {v : V} (w : View M d (.lst ds)) (cr : Core c.K S M H) (r : Rep c.K (av S M) H v d) (o : D.okds n ds = true) : ∃ a vs, v = .ref a ∧ RdL c.K S H a vs ∧ Reps c.K S H vs ds := by
  have rr := w.rep cr r
  cases rr with
  | lst h1 h2 => exact ⟨_, _, rfl, h1, h2⟩
def rSortD (K : PySem.W.Frag) : List V → Hp → VK → Prop := fun xs H Q => ∃ (a : Addr) (bs : List (V × PyData)), xs = [.ref a] ∧ SqL K H a (bs.map (·.1)) ∧ (∀ b ∈ bs, Dp K H b.1 b.2) ∧ PySem.W.AllAlike (bs.map (·.2)) ∧ PySem.W.Sortable (bs.map (·.2)) ∧ (∀ b ∈ bs, b.2.depth ≤ 60) ∧
  ∀ p, H p = none → Q (.ref p) (upd H p (.lst ((bs.mergeSort (PySem.W.dataLe false (·.2))).map (·.1))))
theorem cr_sortedD (hu : X.A.units + 64 < cLine) : CallR X (.builtin "sorted") (rSortD X.K) := by
  intro pins s σ H xs us Q I r h
  obtain ⟨a, bs, rfl, hs, hd, hal, hk, hdep, q⟩ := h
  obtain ⟨its, rv, hl, hz⟩ := I.list hs
  rw [Vals.ref1 r]
  have each : ∀ (bs : List (V × PyData)) (its : List Value), Vals (bs.map (·.1)) its → PySem.W.EachIs (fun v b => RelV b.1 v) its bs := by
    intro bs
    induction bs with
    | nil => intro its r; cases r; exact .nil
    | cons b bs ih =>
      intro its r
      rw [List.map_cons] at r
      cases r with
      | cons r1 r2 => exact .cons r1 (ih _ r2)
  have ev := each bs its rv
  have er : ∀ (bs : List (V × PyData)) (its : List Value), (∀ b ∈ bs, Dp X.K H b.1 b.2) → PySem.W.EachIs (fun v (b : V × PyData) => RelV b.1 v) its bs → PySem.W.EachIs (fun v (b : V × PyData) => ∃ as, Reads s.heap v b.2 as) its bs := by
    intro bs
    induction bs with
    | nil => intro its _ r; cases r; exact .nil
    | cons b bs ih =>
      intro its hd r
      cases r with
      | cons r1 r2 => exact .cons (Dp.reads I b.2 b.1 _ (hd b List.mem_cons_self) r1) (ih _ (fun b hb => hd b (List.mem_cons_of_mem _ hb)) r2)
  have hlen : its.length = bs.length := by rw [← rv.length, List.length_map]
  refine PySem.W.sorted_data (vs := its) (enc := fun b : V × PyData => b.2) hl.isList ev (er bs its hd ev) hal hk (by rw [List.length_map] at hz; exact hz) (fun b hb => by have := hdep b hb; omega) fun out ho eo => ?_
  obtain ⟨ep, he'⟩ := PyProof.Rows.sortedAll_at s.heap its out.toArray
  have vo : ∀ (zs : List (V × PyData)) (out : List Value), PySem.W.EachIs (fun v (b : V × PyData) => RelV b.1 v) out zs → Vals (zs.map (·.1)) out := by
    intro zs
    induction zs with
    | nil => intro out r; cases r; exact .nil
    | cons z zs ih =>
      intro out r
      cases r with
      | cons r1 r2 => exact .cons r1 (ih _ r2)
  have hvo := vo _ _ eo
  exact ⟨.ref _, upd H (s.heap.objs.size + 1) (.lst ((bs.mergeSort (PySem.W.dataLe false (·.2))).map (·.1))), I.laid (t' := s.toks) (fun _ _ => PyProof.Rows.sortedAll_old) (Nat.le_succ _) ⟨by rw [hvo.length, ho]; rw [List.length_map] at hz; exact hz, out, ep, hvo, he'⟩, rfl, q _ (I.hok.fresh (Nat.le_succ _))⟩
theorem Reps.zip {K : PySem.W.Frag} {A : AS} : ∀ {vs : List V} {ds : List D}, Reps K A H vs ds → (vs.zip ds).map (·.1) = vs ∧ (vs.zip ds).map (·.2) = ds ∧ ∀ b ∈ vs.zip ds, Rep K A H b.1 b.2
  | _, _, .nil => ⟨rfl, rfl, fun b hb => absurd hb (by simp)⟩
  | v :: vs, d :: ds, .cons r rs => by
    obtain ⟨h1, h2, h3⟩ := rs.zip
    refine ⟨by rw [List.zip_cons_cons, List.map_cons, h1], by rw [List.zip_cons_cons, List.map_cons, h2], fun b hb => ?_⟩
    rw [List.zip_cons_cons] at hb
    rcases List.mem_cons.mp hb with e | hb
    · subst e; exact r
    · exact h3 b hb
theorem Reps.of_zip {K : PySem.W.Frag} {A : AS} : ∀ {bs : List (V × D)}, (∀ b ∈ bs, Rep K A H b.1 b.2) → Reps K A H (bs.map (·.1)) (bs.map (·.2))
  | [], _ => .nil
  | b :: bs, h => .cons (h b List.mem_cons_self) (Reps.of_zip fun b hb => h b (List.mem_cons_of_mem _ hb))
/-- how sorted orders data -/
def leD (a b : D) : Bool := PySem.W.dataLe false D.py a b
theorem sortD_fin {M1 : Cells} {a : Addr} {vs : List V} {ds : List D} (c1 : Core c.K S M1 H) (h1 : SqL c.K H a vs) (h2 : Reps c.K (av S M1) H vs ds) (o : D.okds 60 ds = true) (hal : PySem.W.AllAlike (ds.map D.py)) (hk : PySem.W.Sortable (ds.map D.py)) (q : Q (.lst (ds.mergeSort leD)) M1)
    {Q' : VK} (hq : ∀ v H' d M', Core c.K S M' H' → Step M1 M' H H' → Rep c.K (av S M') H' v d → Q d M' → Q' v H') : rSortD c.K [.ref a] H Q' := by
  obtain ⟨z1, z2, z3⟩ := h2.zip
  have eb : ((vs.zip ds).map fun b => (b.1, b.2.py)).map (·.1) = vs := by rw [List.map_map]; exact z1
  have ed : ((vs.zip ds).map fun b => (b.1, b.2.py)).map (·.2) = ds.map D.py := by
    have z := congrArg (List.map D.py) z2
    rw [List.map_map] at z ⊢
    exact z
  have od : ∀ b ∈ ds, b.okd 60 = true := by
    intro b hb
    clear h2 hal hk q z1 z2 z3 eb ed
    induction ds with
    | nil => exact absurd hb (by simp)
    | cons d ds ih =>
      have o' : d.okd 60 = true ∧ D.okds 60 ds = true := by simpa [D.okds] using o
      rcases List.mem_cons.mp hb with e | hb
      · subst e; exact o'.1
      · exact ih o'.2 hb
  have mz : ∀ b ∈ vs.zip ds, b.2 ∈ ds := fun b hb => by rw [← z2]; exact List.mem_map.mpr ⟨b, hb, rfl⟩
  refine ⟨a, (vs.zip ds).map fun b => (b.1, b.2.py), rfl, by rw [eb]; exact h1, ?_, by rw [ed]; exact hal, by rw [ed]; exact hk, ?_, fun p np => ?_⟩
  · rintro b hb
    obtain ⟨b', hb', rfl⟩ := List.mem_map.mp hb
    exact (z3 b' hb').dp 60 _ (od _ (mz _ hb'))
  · rintro b hb
    obtain ⟨b', hb', rfl⟩ := List.mem_map.mp hb
    exact (D.plain_ok 60 _ (od _ (mz _ hb'))).2
  · have e1 : ((vs.zip ds).map fun b => (b.1, b.2.py)).mergeSort (PySem.W.dataLe false (·.2)) = ((vs.zip ds).mergeSort fun a b => leD a.2 b.2).map fun b => (b.1, b.2.py) :=
      (List.map_mergeSort (f := fun b : V × D => (b.1, b.2.py)) fun _ _ _ _ => rfl).symm
    have e2 : ((vs.zip ds).mergeSort fun a b => leD a.2 b.2).map (·.2) = ds.mergeSort leD := by
      rw [List.map_mergeSort (f := fun b : V × D => b.2) (s := leD) fun _ _ _ _ => rfl, z2]
    rw [e1, List.map_map]
    have rr : Reps c.K (av S M1) H (((vs.zip ds).mergeSort fun a b => leD a.2 b.2).map (·.1)) (((vs.zip ds).mergeSort fun a b => leD a.2 b.2).map (·.2)) := Reps.of_zip fun b hb => z3 b ((List.mergeSort_perm _ _).mem_iff.mp hb)
    rw [e2] at rr
    obtain ⟨k1, k2, k3⟩ := fresh_lst (K := c.K) c1 np rr
    exact hq _ _ _ _ k1 k2 k3 q
theorem we_sortedD (hg : GlC c.sc "sorted") (hm : c.mg "sorted" = none) (h : WE c e Γ M fun d M1 => ∃ ds, View M1 d (.lst ds) ∧ D.okds 60 ds = true ∧ PySem.W.AllAlike (ds.map D.py) ∧ PySem.W.Sortable (ds.map D.py) ∧ Q (.lst (ds.mergeSort leD)) M1)
    (he : ∀ env, starEach [e] env = (false, eval e env) :: starEach [] env := by intro _; rfl) : WE c (.Call (.Name "sorted" p) [e] [] pos) Γ M Q :=
  .mk fun X S σ H at_ Q' hq => (we_callB1 (c := c) (r := fun xs H Q => X.A.units + 64 < cLine → rSortD c.K xs H Q) (fun X2 i => by
      intro pins s σ H xs us Q I r h
      have hu := i.hu
      exact (by rw [← i.K] at h; exact cr_sortedD (X := X2) hu pins s σ H xs us Q I r (h at_.is.hu))) hg hm PyProof.Rows.boot_sorted (h.imp fun d M1 ⟨ds, w, o, hal, hk, q⟩ S H v c1 r1 Q' hq _ => by
    cases w with
    | self =>
      cases r1 with
      | @lst a vs ds h1 h2 =>
        refine sortD_fin c1 h1.sq h2 o hal hk q hq
    | cell hc =>
      cases r1
      obtain ⟨oo, ho, vs, eo, rs⟩ := c1.at_ hc
      subst eo
      exact sortD_fin c1 (.of ho) rs o hal hk q hq) (he := he)).run X S σ H at_ Q' hq
end
end PL
/-! set(xs) by its update loop alone -/
namespace PL
open PySem PySem.Spec PyProof.Rows L2
section
variable {P : Program} {w : World} {A : Around} {E : Value → Shared → Prop} {s : Shared}
/-- an empty set -/
abbrev setNew (w : World) : Obj := { cls := .type "set", dict := none, data := .set #[] 0 (.fresh 0 0 (!w.params.followText "set-order")) }
/-- a list's iterator at its beginning -/
abbrev iterNew (l : Addr) : Obj := { cls := .type "list_iterator", data := .fields #[.ref l, .int 0 0] }
/-- set(xs), told by what the loop over xs leaves: T, with all objects kept -/
theorem call_set_loop {l : Addr} {items : Array Value} {T : Heap → Prop} {Q : Value → Shared → Prop} (hl : s.heap.IsList l items)
    (loop : ∀ R : Result → Shared → Prop, (∀ h' tk, T h' → (∀ b o, s.heap.get? b = some o → h'.get? b = some o) → R (.ok (.ret .none)) { s with heap := h', toks := tk }) →
      codeAny (model P w) A.in1.in1 (.builtin "set.update.loop" ⟨[.ref s.heap.objs.size, .ref (s.heap.push (setNew w)).objs.size], []⟩) R { s with heap := (s.heap.push (setNew w)).push (iterNew l) })
    (h : ∀ h' tk, T h' → (∀ b o, s.heap.get? b = some o → h'.get? b = some o) → Q (.ref s.heap.objs.size) { s with heap := h', toks := tk }) : wpAny (model P w) A (call (.type "set") [.ref l]) Q E s := by
  obtain ⟨c, tl, hmro⟩ := F.called_set.mro
  have made := F.called_set.made
  have sub := F.called_set.sub
  have nt := F.called_set.notType
  have cc := F.called_set.canCreate
  have one := F.typeCall_set_1 (.ref l)
  refine wpAny_call (codeAny_of_tree ?_)
  show wpAny _ _ (callAny (.type "set") _) _ _ _
  refine wpAny_pure ⟨Code.quiet_builtin _ (by decide +kernel), codeAny_builtin F.entry_type_call ?_⟩
  rw [Around.under_plain (weight_type_call_type "set" [.ref l] []) rfl]
  repeat (any_goals (first | assumption | wp_step))
  refine codeAny_mono (code_set_led1 (.ref l) (E := E) (Q₁ := fun v s₁ => v = .ref s.heap.objs.size ∧ s₁ = { s with heap := s.heap.push (setNew w) }) ⟨rfl, rfl⟩) fun r s₁ hr => ?_
  match r, hr with
  | .error e, hr => exact hr
  | .ok (.ret v), ⟨e1, e2⟩ =>
    subst e1 e2
    have new : (s.heap.push (setNew w)).get? s.heap.objs.size = some (setNew w) := Heap.get?_push_size _ rfl
    have ty : Shared.TypeIs { s with heap := s.heap.push (setNew w) } (.ref s.heap.objs.size) "set" := ⟨_, new, rfl⟩
    have il := F.called_set.init.lookup
    have ib := F.called_set.init.bind (.ref s.heap.objs.size)
    repeat (any_goals (first | assumption | wp_step))
    refine codeAny_mono (codeAny_call_builtin (R := wants (fun v s₂ => v = .none ∧ ∃ h' tk, s₂ = { s with heap := h', toks := tk } ∧ T h' ∧ ∀ b o, s.heap.get? b = some o → h'.get? b = some o) E) F.called_set.init.plain F.entry_set_init (check_set_init_1 ty ?_)) fun r₂ s₂ hr₂ => ?_
    · obtain ⟨⟨cls, dict, data, slots⟩, ol, cl, n, dl⟩ := hl
      simp only at cl dl
      subst cl dl
      have ol' := Heap.get?_push_of_some (setNew w) ol
      have ll : (s.heap.push (setNew w)).IsList l items := ⟨_, ol', rfl, n, rfl⟩
      have ns := F.sub_list_set
      have nf := F.sub_list_frozenset
      have nd : (Value.type "list" == Value.type "dict") = false := by decide
      unfold Builtin.«set.__init__» noKeywords Builtin.Frozenset.updateFrom
      generalize hI : pyIter = I
      wp_walk
      subst hI
      refine wpAny_pyIter_list ll (wpAny_bind (wpAny_runValue (loop _ fun h' tk t k => ?_)))
      show wpAny _ _ _ _ _ _
      refine wpAny_pure ?_
      show wpAny _ _ (ret Value.none) _ _ _
      exact wpAny_pure ⟨rfl, h', tk, rfl, t, k⟩
    · match r₂, hr₂ with
      | .error e, hr₂ => exact hr₂
      | .ok (.ret v), ⟨e1, h', tk, e2, t, k⟩ =>
        subst e1 e2
        repeat (any_goals (first | assumption | wp_step))
        exact h _ _ t k
/-- set(xs) of a list of ints -/
theorem call_set_listI {l : Addr} {items : Array Value} (ns : List Int) {Q : Value → Shared → Prop} (hh : A.handled = none) (hl : s.heap.IsList l items) (hit : IntsAre items.toList ns) (hb : ns.length + 1 < scanBound)
    (h : ∀ (h' : Heap) (tk c : Nat), SetR w h' s.heap.objs.size (fun j => decide (j ∈ ns)) c → c ≤ ns.length → (∀ b o, s.heap.get? b = some o → h'.get? b = some o) → Q (.ref s.heap.objs.size) { s with heap := h', toks := tk }) :
    wpAny (model P w) A (call (.type "set") [.ref l]) Q E s := by
  refine call_set_loop (T := fun h' => ∃ c, SetR w h' s.heap.objs.size (fun j => decide (j ∈ ns)) c ∧ c ≤ ns.length) hl (fun R hR => ?_) fun h' tk ⟨c, r, hc⟩ k => h h' tk c r hc k
  have sz : items.size = ns.length := by simpa using IntsAre.length hit
  have ln : l < s.heap.objs.size := by obtain ⟨o, ho, _⟩ := hl; exact Heap.lt_size ho
  have nI : l ≠ (s.heap.push (setNew w)).objs.size := by rw [Heap.size_push]; exact Nat.ne_of_lt (Nat.lt_succ_of_lt ln)
  have val : ∀ (i : Nat) (v : Value), items[i]? = some v → ∃ k t, ns[i]? = some k ∧ v = .int k t := fun i v hv => by
    have hi : i < ns.length := by rw [← sz]; exact (Array.getElem?_eq_some_iff.mp hv).1
    obtain ⟨t, e⟩ := PyProof.Rows.IntsAre.int_at hit i v (by rw [Array.getElem?_toList]; exact hv)
    refine ⟨ns[i], t, List.getElem?_eq_getElem hi, ?_⟩
    rw [e, List.getD_eq_getElem?_getD, List.getElem?_eq_getElem hi]
    rfl
  refine set_update_ints ((Walks.list (by simp [hh]) (s.heap.push (setNew w)).objs.size l nI items).toS) s.heap.objs.size ?_ ns sz hb val items.size 0 _ (by omega) (Nat.zero_le _) ⟨⟨_, Heap.get?_push_size _ rfl, rfl, rfl⟩, (hl.push _).push _⟩
    ⟨0, Nat.le_refl 0, setR_new_at (Heap.get?_push_of_some _ (Heap.get?_push_size _ rfl))⟩ fun s' c hm hc r => ?_
  · rw [Heap.size_push]
    simp only [List.mem_cons, List.not_mem_nil, or_false, not_or]
    exact ⟨Nat.ne_of_lt (Nat.lt_succ_self _), Nat.ne_of_gt ln⟩
  · obtain ⟨h', g2, d', tk', os'⟩ := s'
    obtain rfl : g2 = s.gens := hm.gens
    obtain rfl : d' = s.drawn := hm.drawn
    obtain rfl : os' = s.os := hm.os
    refine hR h' tk' ⟨c, r, by omega⟩ fun b o e => ?_
    have lb := Heap.lt_size e
    refine hm.heap b o ?_ (Heap.get?_push_of_some _ (Heap.get?_push_of_some _ e))
    rw [Heap.size_push]
    simp only [List.mem_cons, List.not_mem_nil, or_false, not_or]
    exact ⟨Nat.ne_of_lt lb, Nat.ne_of_lt (Nat.lt_succ_of_lt lb)⟩
end
end PL
namespace PL
open PySem PySem.Spec PyProof.Rows L2
section
variable {c : Ctx} {X : Cx} {S : AS} {Γ Γ' : Gam} {M M' : Cells} {σ σ' : L2.St} {H H' : Hp} {a b e : Expr} {es : List Expr} {pos pos' p : Pos} {Q : D → Cells → Prop} {R : Bool → Cells → Prop} {x : Str} {E : PEnds}
def tSortSetI (K : PySem.W.Frag) (ta : TE) : TE := fun σ H Q => ta σ H fun x H1 => ∃ (l : Addr) (ns : List Int), x = V.ref l ∧ SqL K H1 l (ns.map V.int) ∧ ns.length < 64 ∧
  ∀ (ns' : List Int) (p : Addr), ns'.Pairwise (· < ·) → (∀ k : Int, k ∈ ns' ↔ k ∈ ns) → H1 p = none → Q (.ref p) (upd H1 p (.lst (ns'.map V.int)))
theorem pe_sortSetI {ta : TE} {p p2 q pos : Pos} (hc : X.calm = true) (hg : Gl X "sorted") (hm : X.mg "sorted" = none) (hg2 : Gl X "set") (hm2 : X.mg "set" = none) (ha : PE X a ta)
    (na : starEach [a] X.env = (false, eval a X.env) :: starEach [] X.env := by rfl) : PE X (.Call (.Name "sorted" p) [.Call (.Name "set" p2) [a] [] q] [] pos) (tSortSetI X.K ta) := by
  refine ⟨fun pins s σ H Q I h => ?_⟩
  refine Call_ (ld_blt I hg hm PyProof.Rows.boot_sorted ?_)
  refine PyProof.Rows.callWith_builtin1 (PyProof.Rows.args_cons ?_ rfl) rfl rfl
  refine Call_ (ld_blt I hg2 hm2 PyProof.Rows.boot_set ?_)
  refine PyProof.Rows.callWith_type1 (PyProof.Rows.args_cons (thn (ha.run pins s σ H _ I h) fun v s1 ⟨x, H1, I1, r1, q1⟩ => PyProof.Rows.args_nil ?_) na) na rfl
  obtain ⟨l, ns, rfl, hq, h1, q1⟩ := q1
  cases r1
  obtain ⟨its, r, pl, hz⟩ := I1.list hq
  have h64 : ns.length + 1 < scanBound := by unfold scanBound; omega
  refine call_set_listI ns (I1.ok.hd hc) pl.isList (by simpa using r.ints) h64 fun h' tk k hS hk hkp => ?_
  refine PyProof.Rows.args_nil ?_
  have I2 : Inv X pins σ H1 { s1 with heap := h', toks := tk } := I1.kept fun b o e => hkp b o e
  refine sorted_set (s := { s1 with heap := h', toks := tk }) hS (I2.ok.hd hc) (by omega) fun s' p out cc ms kk g o hp hg' hi hs hm hl => ?_
  have hlen : (ms.map V.int).length ≤ sizeLine := by rw [List.length_map, hl, sizeLine_eq]; omega
  have hn : H1 p = none := I2.hok.fresh hp
  have J : Inv X pins σ (upd H1 p (.lst (ms.map V.int))) { ({ s1 with heap := h', toks := tk } : Shared) with heap := s'.heap, gens := s'.gens, drawn := s'.drawn, toks := s'.toks } :=
    I2.call (ch := []) (Un.laid kk hp hn) (I2.hok.laid kk hp ⟨hlen, out.toList, cc, vals_of_ints hi, hg'⟩) (by rw [g]; exact I2.bare) (fun _ z => nomatch z)
  have e : s' = { ({ s1 with heap := h', toks := tk } : Shared) with heap := s'.heap, gens := s'.gens, drawn := s'.drawn, toks := s'.toks } := by
    cases s'
    cases s1
    cases o
    rfl
  rw [e]
  exact ⟨.ref p, _, J, rfl, q1 ms p hs (fun k => by rw [hm]; exact decide_eq_true_iff) hn⟩
theorem we_sortSetI {p p2 q : Pos} (hg : GlC c.sc "sorted") (hm : c.mg "sorted" = none) (hg2 : GlC c.sc "set") (hm2 : c.mg "set" = none)
    (h : WE c a Γ M fun d M1 => ∃ ns : List Int, View M1 d (.lst (ns.map D.int)) ∧ ns.length < 64 ∧ ∀ ns' : List Int, ns'.Pairwise (· < ·) → (∀ k : Int, k ∈ ns' ↔ k ∈ ns) → Q (.lst (ns'.map D.int)) M1)
    (na : ∀ env, starEach [a] env = (false, eval a env) :: starEach [] env := by intro _; rfl) : WE c (.Call (.Name "sorted" p) [.Call (.Name "set" p2) [a] [] q] [] pos) Γ M Q := .mk fun X S σ H at_ Q' hq =>
  PE.to (pe_sortSetI at_.is.calm (at_.is.gl hg) (at_.is.mgN hm) (at_.is.gl hg2) (at_.is.mgN hm2) wE.pe (na _)) (h.run X S σ H at_ _ fun v1 H1 d1 M1 c1 s1 r1 ⟨ns, w, h64, q⟩ => by
    have rr := w.rep c1 r1
    cases rr with
    | lst h1 h2 =>
      have e1 := h2.ints
      subst e1
      refine ⟨_, ns, rfl, by rw [at_.is.K]; exact h1.sq, h64, fun ns' p hp hs np => ?_⟩
      obtain ⟨k1, k2, k3⟩ := fresh_lst (K := c.K) c1 np (Reps.of_ints (K := c.K) (A := av S M1) (H := H1) ns')
      exact hq _ _ _ _ k1 (s1.trans k2) k3 (q ns' hp hs))

/-! ### isinstance with a built-in type -/
def D.tyN : D → Option String
  | .non => some "NoneType"
  | .bl _ => some "bool"
  | .int _ => some "int"
  | .str _ => some "str"
  | .tup _ => some "tuple"
  | .lst _ => some "list"
  | _ => none
theorem Rep.ty {K : PySem.W.Frag} {A : AS} {v : V} {d : D} {t : String} (r : Rep K A H v d) (h : d.tyN = some t) : TyX K H v (.type t) := by
  cases d with
  | non => cases r; cases h; exact .base .non
  | bl b => cases r; cases h; exact .base (.bl b)
  | int b => cases r; cases h; exact .base (.int b)
  | str b => cases r; cases h; exact .base (.str b)
  | tup ds =>
    cases r with
    | tup h1 h2 =>
      cases h
      rcases h1 with ⟨_, h1 | ⟨o, h1⟩⟩ | ⟨o, its, n, h1, h2, _⟩
      · exact .base (.tup h1)
      · exact .fTuple h1
      · exact .kTuple h1 h2
  | lst ds =>
    cases r with
    | lst h1 h2 =>
      cases h
      rcases h1 with ⟨_, h1 | ⟨o, h1⟩⟩ | ⟨o, its, n, h1, h2, _⟩
      · exact .base (.lst h1)
      · exact .base (.frz h1)
      · exact .kList h1 h2
  | ptr a => cases h
  | obj C fs => cases h
theorem we_isi {T : String} {n : Str} {p2 : Pos} {p3 : Pos} (hg : GlC c.sc "isinstance") (hm : c.mg "isinstance" = none) (hg2 : GlC c.sc n) (hm2 : c.mg n = none) (hT : bootBuiltins n = some (.type T))
    (h : WE c a Γ M fun d M1 => ∃ d' t k, View M1 d d' ∧ d'.tyN = some t ∧ kitB t T = some k ∧ Q (.bl k) M1)
    (na : ∀ env, starEach [a, .Name n p3] env = (false, eval a env) :: starEach [.Name n p3] env := by intro _; rfl) (hn : n ≠ "__name__" := by decide) (hd : (n == ("__debug__" : Str)) = false := by decide) : WE c (.Call (.Name "isinstance" p2) [a, .Name n p3] [] pos) Γ M Q := .mk fun X S σ H at_ Q' hq =>
  PE.to (pe_callB call_isi (at_.is.gl hg) (at_.is.mgN hm) PyProof.Rows.boot_isinstance (pa_cons wE.pe (pa_cons (pe_bltn (v := .ty T) (at_.is.gl hg2) (at_.is.mgN hm2) hT rfl hn hd) pa_nil) (na _)) (by decide) (by decide) (na _) (by rfl)) (h.run X S σ H at_ _ fun v1 H1 d1 M1 c1 s1 r1 ⟨d', t, k, w, ht, hk, q⟩ => by
    refine ⟨v1, .ty T, .type t, .type T, k, rfl, .ty T, ?_, kit_ty hk, hq _ _ _ _ c1 s1 .bl q⟩
    rw [at_.is.K]
    exact (w.rep c1 r1).ty ht)
theorem kit_bb : kitB "bool" "bool" = some true := by decide +kernel
theorem kit_ib : kitB "int" "bool" = some false := by decide +kernel
theorem kit_sb : kitB "str" "bool" = some false := by decide +kernel
theorem kit_tb : kitB "tuple" "bool" = some false := by decide +kernel
theorem kit_lb : kitB "list" "bool" = some false := by decide +kernel
theorem kit_bi : kitB "bool" "int" = some true := by decide +kernel
theorem kit_ii : kitB "int" "int" = some true := by decide +kernel
theorem kit_si : kitB "str" "int" = some false := by decide +kernel
theorem kit_ti : kitB "tuple" "int" = some false := by decide +kernel
theorem kit_li : kitB "list" "int" = some false := by decide +kernel
theorem kit_ss : kitB "str" "str" = some true := by decide +kernel
theorem kit_ts : kitB "tuple" "str" = some false := by decide +kernel
theorem kit_ls : kitB "list" "str" = some false := by decide +kernel
theorem kit_tl : kitB "tuple" "list" = some false := by decide +kernel
theorem kit_ll : kitB "list" "list" = some true := by decide +kernel
theorem kit_tt : kitB "tuple" "tuple" = some true := by decide +kernel
theorem kit_lt : kitB "list" "tuple" = some false := by decide +kernel
theorem kit_nb : kitB "NoneType" "bool" = some false := by decide +kernel
theorem kit_ni : kitB "NoneType" "int" = some false := by decide +kernel

/-! ### list + list, tuple + tuple -/
def rCatL (K : PySem.W.Frag) : R2 := fun x y H Q => ∃ l b xs zs, x = .ref l ∧ y = .ref b ∧ SqL K H l xs ∧ SqL K H b zs ∧ xs.length + zs.length ≤ sizeLine ∧ ∀ p, H p = none → Q (.ref p) (upd H p (.lst (xs ++ zs)))
theorem op_catL : OpR X (binaryOp .Add) (rCatL X.K) := by
  intro pins s σ H x y v u Q I rx ry h
  obtain ⟨l, b, xs, zs, rfl, rfl, hH, hB, hz, q⟩ := h
  cases rx
  cases ry
  obtain ⟨its, r, hl, _⟩ := I.list hH
  obtain ⟨its2, r2, hl2, _⟩ := I.list hB
  obtain ⟨⟨cls, dd, data, sl⟩, ho, hc, n, hd⟩ := hl.isList
  obtain ⟨⟨cls2, dd2, data2, sl2⟩, ho2, hc2, n2, hd2⟩ := hl2.isList
  simp only at hc hd hc2 hd2
  subst hc hd hc2 hd2
  refine concat_meets ⟨_, ho, rfl⟩ ⟨_, ho2, rfl⟩ noFill_list_add seq_list_add PySem.F.slot_list_add PySem.F.entry_list_add (PySem.F.args_list_add_2 _ _) (list_addW l b its.toArray its2.toArray n n2 dd dd2 sl sl2 (by rw [List.size_toArray, List.size_toArray, ← r.length, ← r2.length]; exact hz)) ⟨ho, ho2, ?_⟩
  have ea : its.toArray ++ its2.toArray = (its ++ its2).toArray := by simp
  rw [ea]
  exact ⟨.ref _, _, I.lnew (t' := s.toks) (r.append r2) (by rw [List.length_append]; omega), rfl, q _ I.fresh⟩
theorem we_addL (h : WE c a Γ M fun x M1 => WE c b Γ M1 fun y M2 => ∃ ds es, View M2 x (.lst ds) ∧ View M2 y (.lst es) ∧ ds.length + es.length ≤ sizeLine ∧ Q (.lst (ds ++ es)) M2) : WE c (.BinOp a .Add b pos) Γ M Q := .mk fun X S σ H at_ Q' hq =>
  PE.to (pe_op op_catL wE.pe wE.pe) (two h at_ fun v1 v2 H2 d1 d2 M2 c2 s2 r1 r2 ⟨ds, es, w1, w2, hz, q⟩ => by
    have toA : To S (av S M2) H2 H2 ∨ True := .inr trivial
    have get : ∀ {d : D} {ds : List D} {v : V}, View M2 d (.lst ds) → Rep c.K (av S M2) H2 v d → ∃ a vs, v = .ref a ∧ SqL c.K H2 a vs ∧ Reps c.K (av S M2) H2 vs ds := by
      intro d ds v w r
      cases w with
      | self =>
        cases r with
        | lst h1 h2 => exact ⟨_, _, rfl, h1.sq, h2⟩
      | cell hc =>
        cases r
        obtain ⟨o, ho, vs, eo, rs⟩ := c2.at_ hc
        subst eo
        exact ⟨_, _, rfl, .of ho, rs⟩
    obtain ⟨a1, v1, e1, q1, p1⟩ := get w1 r1
    obtain ⟨a2, v2, e2, q2, p2⟩ := get w2 r2
    subst e1 e2
    rw [at_.is.K]
    refine ⟨a1, a2, v1, v2, rfl, rfl, q1, q2, by rw [p1.length, p2.length]; exact hz, fun p np => ?_⟩
    obtain ⟨k1, k2, k3⟩ := fresh_lst (K := c.K) c2 np (p1.append p2)
    exact hq _ _ _ _ k1 (s2.trans k2) k3 q)
theorem we_addT (h : WE c a Γ M fun x M1 => WE c b Γ M1 fun y M2 => ∃ ds es, x = .tup ds ∧ y = .tup es ∧ ds ≠ [] ∧ ds.length + es.length ≤ sizeLine ∧ Q (.tup (ds ++ es)) M2) : WE c (.BinOp a .Add b pos) Γ M Q := .mk fun X S σ H at_ Q' hq =>
  PE.to (pe_op op_catT wE.pe wE.pe) (two h at_ fun v1 v2 H2 d1 d2 M2 c2 s2 r1 r2 ⟨ds, es, e1, e2, hn, hz, q⟩ => by
    subst e1 e2
    cases r1 with
    | tup h1 h2 =>
      cases r2 with
      | tup h3 h4 =>
        rw [at_.is.K]
        refine ⟨_, _, _, _, rfl, rfl, h1.sq, h3.sq, fun z => hn ?_, by rw [h2.length, h4.length]; exact hz, fun z => ?_, fun _ p np => ?_⟩
        · subst z; cases h2; rfl
        · subst z; cases h4
          rw [List.append_nil] at q
          exact hq _ _ _ _ c2 s2 (.tup h1 h2) q
        · exact hq _ _ _ _ (c2.new np) (s2.trans (Step.same (same_new np))) (.tup (.inl ⟨c2.free np, .inl upd_same⟩) ((h2.append h4).to (Step.same (same_new np)).to)) q)
theorem we_addS (h : WE c a Γ M fun x M1 => WE c b Γ M1 fun y M2 => ∃ i j, x = .str i ∧ y = .str j ∧ i.length + j.length ≤ sizeLine ∧ Q (.str (i ++ j)) M2) : WE c (.BinOp a .Add b pos) Γ M Q := .mk fun X S σ H at_ Q' hq =>
  PE.to (pe_op op_add_str wE.pe wE.pe) (two h at_ fun v1 v2 H2 d1 d2 M2 c2 s2 r1 r2 ⟨i, j, e1, e2, hz, q⟩ => by
    subst e1 e2; cases r1; cases r2
    exact ⟨i, j, rfl, rfl, hz, hq _ _ _ _ c2 s2 .str q⟩)
/-- e[lo:] of a tuple, lo written, below the length, not 0 -/
theorem cutV_D {K : PySem.W.Frag} {A : AS} {vs : List V} {ds : List D} {lo hi : Option Int} (r : Reps K A H vs ds) : Reps K A H (cutV vs lo hi) ((ds.drop (HT.sIx ds.length 0 lo)).take (HT.sIx ds.length ds.length hi - HT.sIx ds.length 0 lo)) := by
  unfold cutV
  rw [r.length]
  exact (r.drop _).take _
theorem we_tail {k : Int} {n : Nat} {p2 p3 : Pos} (h : WE c a Γ M fun x M1 => ∃ ds, x = .tup ds ∧ k = 1 ∧ 1 ≤ ds.length ∧ Q (.tup (ds.drop 1)) M1) : WE c (.Subscript a (.Slice (some (.Constant (.int k) n p3)) none none p2) pos) Γ M Q := .mk fun X S σ H at_ Q' hq =>
  PE.to (pe_slice sl_tup wE.pe (po_some pe_int) po_none) (h.run X S σ H at_ _ fun v1 H1 d1 M1 c1 s1 r1 ⟨ds, e1, ek, hl, q⟩ => by
    subst e1 ek
    cases r1 with
    | tup h1 h2 =>
      rw [at_.is.K]
      have e2 : (ds.drop (HT.sIx ds.length 0 (some (1 : Int)))).take (HT.sIx ds.length ds.length none - HT.sIx ds.length 0 (some (1 : Int))) = ds.drop 1 := by
        have e3 : HT.sIx ds.length 0 (some (1 : Int)) = 1 := (HT.sIx_nat ds.length 0 1).trans (Nat.min_eq_left hl)
        rw [e3]
        show (ds.drop 1).take (ds.length - 1) = ds.drop 1
        rw [List.take_of_length_le (by simp)]
      refine ⟨1, rfl, _, _, rfl, h1.sq, ?_, fun p np => ?_⟩
      · rintro ⟨z, _⟩
        have e3 : HT.sIx ds.length 0 (some (1 : Int)) = 1 := (HT.sIx_nat ds.length 0 1).trans (Nat.min_eq_left hl)
        rw [h2.length, e3] at z
        cases z
      · have r2 := cutV_D (lo := some 1) (hi := none) h2
        rw [e2] at r2
        exact hq _ _ _ _ (c1.new np) (s1.trans (Step.same (same_new np))) (.tup (.inl ⟨c1.free np, .inl upd_same⟩) (r2.to (Step.same (same_new np)).to)) q)
end
end PL
namespace PL
open PySem PySem.Spec PyProof.Rows L2
section
variable {K : PySem.W.Frag} {A : AS} {H : Hp}
theorem RepF.look : ∀ {vs : List (Str × V)} {ds : List (Str × D)} (f : Str), RepF K A H vs ds → (ds.lookup f = none ∧ vs.lookup f = none) ∨ ∃ d v, ds.lookup f = some d ∧ vs.lookup f = some v ∧ Rep K A H v d
  | _, _, _, .nil => .inl ⟨rfl, rfl⟩
  | _, _, f, .cons (f := g) (v := v) (d := d) r rs => by
    rw [List.lookup_cons, List.lookup_cons]
    cases e : f == g with
    | true => exact .inr ⟨d, v, rfl, rfl, r⟩
    | false => exact RepF.look f rs
def putD (f : Str) (v : D) : List (Str × D) → List (Str × D)
  | [] => [(f, v)]
  | (k, x) :: r => if k = f then (k, v) :: r else (k, x) :: putD f v r
theorem RepF.put : ∀ {vs : List (Str × V)} {ds : List (Str × D)} (f : Str) {v : V} {d : D}, RepF K A H vs ds → Rep K A H v d → RepF K A H (putF f v vs) (putD f d ds)
  | _, _, f, v, d, .nil, q => .cons q .nil
  | _, _, f, v, d, .cons (f := g) r rs, q => by
    unfold putF putD
    by_cases e : g = f
    · rw [if_pos e, if_pos e]; exact .cons q rs
    · rw [if_neg e, if_neg e]; exact .cons r (rs.put f q)
theorem RepF.length : ∀ {vs : List (Str × V)} {ds : List (Str × D)}, RepF K A H vs ds → vs.length = ds.length
  | _, _, .nil => rfl
  | _, _, .cons _ rs => by rw [List.length_cons, List.length_cons, rs.length]
end
/-- an instance, a cell or data -/
inductive ObjAt (M : Cells) : D → Addr → List (Str × D) → Prop
  | obj {C fs} : ObjAt M (.obj C fs) C fs
  | cell {i : Nat} {p : Addr} {C : Addr} {fs : List (Str × D)} : M[i]? = some (p, .ins C fs) → ObjAt M (.ptr p) C fs
section
variable {c : Ctx} {X : Cx} {S : AS} {Γ Γ' : Gam} {M M' : Cells} {σ σ' : L2.St} {H H' : Hp} {a b e o value : Expr} {es : List Expr} {pos pos' p apos : Pos} {Q : D → Cells → Prop} {R : Bool → Cells → Prop} {x m : Str} {E : PEnds} {C : Addr}
theorem ObjAt.get {d : D} {fs : List (Str × D)} {v : V} (h : ObjAt M d C fs) (cr : Core c.K S M H) (r : Rep c.K (av S M) H v d) : ∃ a dx vs, v = .ref a ∧ H a = some (.ins C dx vs) ∧ RepF c.K (av S M) H vs fs := by
  cases h with
  | obj =>
    cases r with
    | obj h1 h2 h3 => exact ⟨_, _, _, rfl, h2, h3⟩
  | cell hi =>
    cases r
    obtain ⟨o, ho, dx, vs, eo, rs⟩ := cr.at_ hi
    subst eo
    exact ⟨_, dx, vs, rfl, ho, rs⟩
/-- e.f -/
theorem we_fld {f : Str} (h : WE c e Γ M fun x M1 => ∃ C fs d, ObjAt M1 x C fs ∧ Cls c.K C ∧ NoAttr c.K C f ∧ fs.lookup f = some d ∧ Q d M1) (hb : ∀ env, attributeBase e f env (eval e env) = eval e env := by intro _; rfl) : WE c (.Attribute e f pos) Γ M Q := .mk fun X S σ H at_ Q' hq =>
  PE.to (pe_fld wE.pe (hb _)) (h.run X S σ H at_ _ fun v1 H1 d1 M1 c1 s1 r1 ⟨C, fs, d, ho, cl, na, l, q⟩ => by
    obtain ⟨a, dx, vs, e1, h1, rf⟩ := ho.get c1 r1
    rcases rf.look f with ⟨l1, _⟩ | ⟨d', v, l1, l2, r⟩
    · rw [l] at l1; cases l1
    · rw [l] at l1
      have := Option.some.inj l1
      subst this
      rw [at_.is.K]
      exact ⟨a, C, dx, vs, v, e1, h1, cl, na, l2, hq _ _ _ _ c1 s1 r q⟩)
/-- o.f = value -/
theorem ws_fld {f : Str} (h : WE c value Γ M fun d M1 => WE c o Γ M1 fun x M2 => ∃ p i C fs, x = .ptr p ∧ M2[i]? = some (p, .ins C fs) ∧ Cls c.K C ∧ NoAttr c.K C f ∧ fs.length < 1000 ∧ E.nx Γ (M2.set i (p, .ins C (putD f d fs))))
    (hs : ∀ env, swapsWith value (some (.Attribute o f pos')) pos.line env = pure false := by intro _; rfl) : WS c (.Assign [.Attribute o f pos'] value pos) E Γ M := .mk fun X S σ H at_ Ds l =>
  PS.to (ps_fld wE.pe wE.pe (hs _)) (two h at_ fun v1 v2 H2 d1 d2 M2 c2 s2 r1 r2 ⟨p, i, C, fs, e1, hi, cl, na, hl, q⟩ => by
    subst e1; cases r2
    obtain ⟨oo, ho, dx, vs, eo, rs⟩ := c2.at_ hi
    subst eo
    have kp := c2.put (m' := .ins C (putD f d1 fs)) (o := .ins C dx (putF f v1 vs)) hi ⟨dx, _, rfl, rs.put f r1⟩
    rw [at_.is.K]
    exact ⟨p, C, dx, vs, rfl, ho, cl, na, by rw [rs.length]; exact hl, l.nx _ _ _ _ kp.1 (at_.slots.to (s2.trans kp.2).to) (s2.trans kp.2) q⟩)
/-- a method that stands -/
structure MDef (P : Program) (w : World) (K : PySem.W.Frag) (mg : Str → Option Value) (base : Heap) (C : Addr) (m : Str) (f : Addr) (fd : FuncData) (ps : List Str) (k : Nat) (pf : PF) : Prop where
  cl : Cls K C
  me : Meth K C m f
  binds : Binds K fd ps []
  ok : FnOk P w K mg base (L2.CX P w) k f fd ps (liftF K pf)
/-- a class that stands, by its __init__ -/
structure CDef (P : Program) (w : World) (K : PySem.W.Frag) (mg : Str → Option Value) (base : Heap) (x : Str) (C f : Addr) (fd : FuncData) (ps : List Str) (k : Nat) (pf : PF) : Prop where
  mgx : mg x = some (.ref C)
  cl : Cls K C
  mkc : Mk K C f
  binds : Binds K fd ps []
  ok : FnOk P w K mg base (L2.CX P w) k f fd ps (liftF K pf)
theorem we_meth {pl : Env → Sem Bool} {f : Addr} {fd : FuncData} {ps : List Str} {k : Nat} {pf : PF} (F : MDef c.P c.w c.K c.mg c.base C m f fd ps k pf) (hk : k ≤ c.k)
    (h : WE c o Γ M fun x M1 => ∃ fs, ObjAt M1 x C fs ∧ fs.lookup m = none ∧ WA c (e :: es) Γ M1 fun ds M2 => Callee c pf Γ (x :: ds) M2 Q)
    (he : ∀ env, starEach (e :: es) env = (false, eval e env) :: starEach es env := by intro _; rfl) (hpl : ∀ env, (backTo pos (starEach es env)).any (·.1) = false := by intro _; rfl)
    (ht : ∀ env, eval (.Call (.Attribute o m apos) (e :: es) [] pos) env = (do
      let ov ← eval o env
      standAt apos.atName
      let (f, first) ← holding [ov] (getMethod ov m (pl env))
      callWith pos f first (backTo pos (starEach (e :: es) env)) (backToKw pos (keywordEach [] env))) := by intro _; rfl) :
    WE c (.Call (.Attribute o m apos) (e :: es) [] pos) Γ M Q := .mk fun X S σ H at_ Q' hq => by
  obtain ⟨W, tk, hW⟩ := at_.land
  have eP := at_.is.prog; have ew := at_.is.w; have eK := at_.is.K; have emg := at_.is.mg; have eb := at_.is.base
  have G : FnOk X.prog X.w X.K X.mg X.base (L2.CX X.prog X.w) k f fd ps (liftF c.K pf) := by rw [eP, ew, eK, emg, eb]; exact F.ok
  have hc : Cls X.K C := by rw [eK]; exact F.cl
  have hm : Meth X.K C m f := by rw [eK]; exact F.me
  have hb : Binds X.K fd ps [] := by rw [eK]; exact F.binds
  intro pins s I
  refine PySem.W.methodCall_KW (pl := pl X.env) (thn ((h.run X S σ H at_ (fun x H1 => ∃ a dx fs, x = .ref a ∧ H1 a = some (.ins C dx fs) ∧ fs.lookup m = none ∧ wA X (e :: es) σ H1 fun vs H2 => liftF c.K pf (x :: vs) H2 Q' (fun cls d H' => W cls d σ H')) ?_) pins s I) fun u s1 ⟨x, H1, I1, rx, a, dx, fs, ex, ea, l, q⟩ => ?_) (ht _)
  · rintro v1 H1 d1 M1 c1 s1 r1 ⟨fs, ho, l, q⟩
    obtain ⟨a, dx, vs, e1, h1, rf⟩ := ho.get c1 r1
    refine ⟨a, dx, vs, e1, h1, ?_, ?_⟩
    · rcases rf.look m with ⟨_, l2⟩ | ⟨d', v, l1, l2, r⟩
      · exact l2
      · rw [l] at l1; cases l1
    · refine q.run X S σ H1 (at_.step c1 s1) _ fun vs H2 ds M2 c2 s2 r2 q2 => ?_
      exact q2.lift (at_.step c2 (s1.trans s2)) (.cons (r1.to s2.to) r2) (fun C dd v d σ' H' Γ' M' c3 sl3 st3 => hW C dd v d σ' H' Γ' M' c3 sl3 ((s1.trans s2).trans st3)) fun v H' d M' c3 st3 => hq v H' d M' c3 ((s1.trans s2).trans st3)
  · subst ex
    obtain rfl : u = Value.ref a := rx
    refine getmeth_ok I1 ea hc hm l ?_
    refine PySem.W.callWith_K (first := [.ref a]) (h₀ := X.base) I.ok.mod.kin hm.kp (thn (q pos pins s1 I1) fun us s2 ⟨vs, H2, I2, r, q2⟩ => ⟨I2.kIn, ?_⟩) (he _) (hpl _)
    exact run_fnS (E := L2.WE W) (us := .ref a :: us) (vs := .ref a :: vs) G (at_.is.room.mono hk) hb (passAt tk σ) I2 (.cons rfl r) q2
theorem we_meth0 {pl : Env → Sem Bool} {f : Addr} {fd : FuncData} {ps : List Str} {k : Nat} {pf : PF} (F : MDef c.P c.w c.K c.mg c.base C m f fd ps k pf) (hk : k ≤ c.k)
    (h : WE c o Γ M fun x M1 => ∃ fs, ObjAt M1 x C fs ∧ fs.lookup m = none ∧ Callee c pf Γ [x] M1 Q)
    (ht : ∀ env, eval (.Call (.Attribute o m apos) [] [] pos) env = (do
      let ov ← eval o env
      standAt apos.atName
      let (f, first) ← holding [ov] (getMethod ov m (pl env))
      callWith pos f first (backTo pos (starEach [] env)) (backToKw pos (keywordEach [] env))) := by intro _; rfl) :
    WE c (.Call (.Attribute o m apos) [] [] pos) Γ M Q := .mk fun X S σ H at_ Q' hq => by
  obtain ⟨W, tk, hW⟩ := at_.land
  have eP := at_.is.prog; have ew := at_.is.w; have eK := at_.is.K; have emg := at_.is.mg; have eb := at_.is.base
  have G : FnOk X.prog X.w X.K X.mg X.base (L2.CX X.prog X.w) k f fd ps (liftF c.K pf) := by rw [eP, ew, eK, emg, eb]; exact F.ok
  have hc : Cls X.K C := by rw [eK]; exact F.cl
  have hm : Meth X.K C m f := by rw [eK]; exact F.me
  have hb : Binds X.K fd ps [] := by rw [eK]; exact F.binds
  intro pins s I
  refine PySem.W.methodCall_KW (pl := pl X.env) (thn ((h.run X S σ H at_ (fun x H1 => ∃ a dx fs, x = .ref a ∧ H1 a = some (.ins C dx fs) ∧ fs.lookup m = none ∧ liftF c.K pf [x] H1 Q' (fun cls d H' => W cls d σ H')) ?_) pins s I) fun u s1 ⟨x, H1, I1, rx, a, dx, fs, ex, ea, l, q⟩ => ?_) (ht _)
  · rintro v1 H1 d1 M1 c1 s1 r1 ⟨fs, ho, l, q⟩
    obtain ⟨a, dx, vs, e1, h1, rf⟩ := ho.get c1 r1
    refine ⟨a, dx, vs, e1, h1, ?_, ?_⟩
    · rcases rf.look m with ⟨_, l2⟩ | ⟨d', v, l1, l2, r⟩
      · exact l2
      · rw [l] at l1; cases l1
    · exact q.lift (at_.step c1 s1) (.cons r1 .nil) (fun C dd v d σ' H' Γ' M' c3 sl3 st3 => hW C dd v d σ' H' Γ' M' c3 sl3 (s1.trans st3)) fun v H' d M' c3 st3 => hq v H' d M' c3 (s1.trans st3)
  · subst ex
    obtain rfl : u = Value.ref a := rx
    refine getmeth_ok I1 ea hc hm l ?_
    exact PySem.W.callWith_K0 (first := [.ref a]) I1.kIn hm.kp (run_fnS (E := L2.WE W) (us := [.ref a]) (vs := [.ref a]) G (at_.is.room.mono hk) hb (passAt tk σ) I1 (.cons rfl .nil) q)
/-- n values, then names alone, all parameters given: is puts the keywords' values in the parameters' order -/
structure KwN (K : PySem.W.Frag) (fd : FuncData) (ps ks : List Str) (is : List Nat) (n : Nat) : Prop where
  to : ∀ (s : Shared) (us ws : List Value), K.In s.heap → us.length = n → ws.length = ks.length → BindsTo s fd ⟨us, ks.zip ws⟩ (ps.zip (us ++ pick is ws))
theorem Vals.pick {zs : List V} {ws : List Value} (rz : Vals zs ws) : ∀ is : List Nat, Vals (PL.pick is zs) (PL.pick is ws)
  | [] => .nil
  | i :: is => by
    have ih := Vals.pick rz is
    unfold PL.pick at ih ⊢
    cases e : zs[i]? with
    | none =>
      have e2 := rz.none_of e
      rw [List.filterMap_cons, List.filterMap_cons, e, e2]
      exact ih
    | some v =>
      obtain ⟨u, hu, ru⟩ := rz.get e
      rw [List.filterMap_cons, List.filterMap_cons, e, hu]
      exact .cons ru ih
theorem run_fnK {CX : CXT} {k n : Nat} {f : Addr} {fd : FuncData} {ps ks : List Str} {is : List Nat} {sp : Sp} {E : XK} {pins : List (Addr × Obj)} {σ : L2.St} {H : Hp} {s : Shared} {Q : VK} {us ws : List Value} {vs zs : List V} (F : FnOk X.prog X.w X.K X.mg X.base CX k f fd ps sp) (hr : Room k X.A) (hb : KwN X.K fd ps ks is n) (hx : PassesAt CX X σ E)
    (I : Inv X pins σ H s) (r : Vals vs us) (rz : Vals zs ws) (l1 : vs.length = n) (l2 : zs.length = ks.length) (h : sp (vs ++ pick is zs) H Q E) : wpAny (model X.prog X.w) X.A (call (.ref f) us (ks.zip ws)) (EP X pins σ Q) X.xe s := by
  refine wpAny_call (codeAny_mono (F.run X.A X.stack s H ⟨us, ks.zip ws⟩ (us ++ pick is ws) (vs ++ pick is zs) Q E hr I.env0 (hb.to s us ws I.kIn (by rw [← r.length, l1]) (by rw [← rz.length, l2])) (r.append (Vals.pick rz is)) h) fun r s' hq => ?_)
  cases r with
  | error e => exact hx pins H s e s' I hq
  | ok fl =>
    cases fl with
    | ret u => exact I.after hq
    | next => exact False.elim hq
    | brk => exact False.elim hq
    | cont => exact False.elim hq
theorem kwn_of {K : PySem.W.Frag} {x qual : Str} {st : Stmt} {f : Addr} {fd : FuncData} {ps ks : List Str} {is : List Nat} {n : Nat} (F : Fun K x qual st f fd)
    (h : ∀ (kV doc pm : Value) (an : Option Addr) (cdv ct : Value) (us ws : List Value), us.length = n → ws.length = ks.length → bindArgs (PySem.W.fnOf x qual (defArgs st) (defBody st) (defScope st) .none kV doc pm an cdv ct) ⟨us, ks.zip ws⟩ = pure (ps.zip (us ++ pick is ws))) : KwN K fd ps ks is n := by
  obtain ⟨oc, od, kV, doc, pm, an, cdv, ct, osl, rfl, lk, hcd⟩ := F.ex
  exact ⟨fun s us ws _ h1 hl => .of_eq (h kV doc pm an cdv ct us ws h1 hl)⟩
/-- o.m(k = v, ..) -/
theorem we_methK {pl : Env → Sem Bool} {f : Addr} {fd : FuncData} {ps ks : List Str} {is : List Nat} {k : Nat} {pf : PF} {kws : List Keyword} (F : MDef c.P c.w c.K c.mg c.base C m f fd ps k pf) (B : KwN c.K fd ps ks is 1) (hk : k ≤ c.k)
    (h : WE c o Γ M fun x M1 => ∃ fs, ObjAt M1 x C fs ∧ fs.lookup m = none ∧ WK c kws Γ M1 fun ds M2 => ds.length = ks.length ∧ Callee c pf Γ (x :: pick is ds) M2 Q)
    (hall : ∀ env, (backToKw pos (keywordEach kws env)).all (·.1.isSome) = true := by intro _; rfl) (hks : ∀ env, (backToKw pos (keywordEach kws env)).filterMap (·.1) = ks := by intro _; rfl)
    (hpl : ∀ env, ((backTo pos (starEach [] env)).any (·.1) || (backToKw pos (keywordEach kws env)).any (·.1.isNone)) = false := by intro _; rfl)
    (ht : ∀ env, eval (.Call (.Attribute o m apos) [] kws pos) env = (do
      let ov ← eval o env
      standAt apos.atName
      let (f, first) ← holding [ov] (getMethod ov m (pl env))
      callWith pos f first (backTo pos (starEach [] env)) (backToKw pos (keywordEach kws env))) := by intro _; rfl) :
    WE c (.Call (.Attribute o m apos) [] kws pos) Γ M Q := .mk fun X S σ H at_ Q' hq => by
  obtain ⟨W, tk, hW⟩ := at_.land
  have eP := at_.is.prog; have ew := at_.is.w; have eK := at_.is.K; have emg := at_.is.mg; have eb := at_.is.base
  have G : FnOk X.prog X.w X.K X.mg X.base (L2.CX X.prog X.w) k f fd ps (liftF c.K pf) := by rw [eP, ew, eK, emg, eb]; exact F.ok
  have hc : Cls X.K C := by rw [eK]; exact F.cl
  have hm : Meth X.K C m f := by rw [eK]; exact F.me
  have hb : KwN X.K fd ps ks is 1 := by rw [eK]; exact B
  intro pins s I
  refine PySem.W.methodCall_KW (pl := pl X.env) (thn ((h.run X S σ H at_ (fun x H1 => ∃ a dx fs, x = .ref a ∧ H1 a = some (.ins C dx fs) ∧ fs.lookup m = none ∧ wK X kws σ H1 fun vs H2 => vs.length = ks.length ∧ liftF c.K pf (x :: pick is vs) H2 Q' (fun cls d H' => W cls d σ H')) ?_) pins s I) fun u s1 ⟨x, H1, I1, rx, a, dx, fs, ex, ea, l, q⟩ => ?_) (ht _)
  · rintro v1 H1 d1 M1 c1 s1 r1 ⟨fs, ho, l, q⟩
    obtain ⟨a, dx, vs, e1, h1, rf⟩ := ho.get c1 r1
    refine ⟨a, dx, vs, e1, h1, ?_, ?_⟩
    · rcases rf.look m with ⟨_, l2⟩ | ⟨d', v, l1, l2, r⟩
      · exact l2
      · rw [l] at l1; cases l1
    · refine q.run X S σ H1 (at_.step c1 s1) _ fun vs H2 ds M2 c2 s2 r2 ⟨lq, q2⟩ => ⟨by rw [r2.length, lq], ?_⟩
      exact q2.lift (at_.step c2 (s1.trans s2)) (.cons (r1.to s2.to) (r2.pick is)) (fun C dd v d σ' H' Γ' M' c3 sl3 st3 => hW C dd v d σ' H' Γ' M' c3 sl3 ((s1.trans s2).trans st3)) fun v H' d M' c3 st3 => hq v H' d M' c3 ((s1.trans s2).trans st3)
  · subst ex
    obtain rfl : u = Value.ref a := rx
    refine getmeth_ok I1 ea hc hm l ?_
    refine PySem.W.callWith_KW0 (first := [.ref a]) (h₀ := X.base) I.ok.mod.kin hm.kp (hall _) ?_ (hpl _)
    refine thn (q pos pins s1 I1) fun ws s2 ⟨zs, H2, I2, rz, l2, q2⟩ => ⟨I2.kIn, ?_⟩
    rw [hks]
    exact run_fnK (E := L2.WE W σ) (us := [.ref a]) (vs := [.ref a]) G (at_.is.room.mono hk) hb (passAt tk σ) I2 (.cons rfl .nil) rz rfl l2 q2

/-! ### new instances -/
theorem Core.perm {K : PySem.W.Frag} {M M2 : Cells} (pm : M.Perm M2) (cr : Core K S M H) : Core K S M2 H ∧ Step M M2 H H := by
  have pd : (dom M).Perm (dom M2) := pm.map _
  have st : Step M M2 H H := ⟨fun _ _ _ h => h, fun _ h => h, fun b hb => .inl (pd.mem_iff.mpr hb)⟩
  exact ⟨⟨cr.known, pd.nodup_iff.mp cr.nod, fun a ha => cr.dis a (pd.mem_iff.mpr ha), fun q hq => CellAt.to st.to (fun _ e => e) (cr.cells q (pm.mem_iff.mpr hq))⟩, st⟩
theorem wss_perm {rest : List Stmt} {M2 : Cells} (pm : M.Perm M2) (h : WSs c rest E Γ M2) : WSs c rest E Γ M := .mk fun X S σ H at_ Ds l => by
  obtain ⟨c1, s1⟩ := at_.core.perm pm
  exact h.run X S σ H (at_.step c1 s1) Ds (l.step s1)
/-- an instance that was made is done: data from now on -/
theorem Core.freezeO (cr : Core c.K S M H) {i : Nat} {p : Addr} {fs : List (Str × D)} (h : M[i]? = some (p, .ins C fs)) : Core c.K S (M.eraseIdx i) H ∧ Rep c.K (av S (M.eraseIdx i)) H (.ref p) (.obj C fs) ∧ Step M (M.eraseIdx i) H H := by
  have sub : (M.eraseIdx i).Sublist M := List.eraseIdx_sublist _ _
  have subd : (dom (M.eraseIdx i)).Sublist (dom M) := sub.map _
  have np : p ∉ dom (M.eraseIdx i) := by
    intro z
    obtain ⟨q, hq, e⟩ := List.mem_map.mp z
    obtain ⟨j, hj⟩ := List.getElem?_of_mem hq
    rw [List.getElem?_eraseIdx] at hj
    have e1 : (dom M)[i]? = some p := by unfold dom; rw [List.getElem?_map, h]; rfl
    have nd := cr.nod
    obtain ⟨h1, g1⟩ := List.getElem?_eq_some_iff.mp e1
    have fin : ∀ m, (dom M)[m]? = some p → m = i := fun m hm => by
      obtain ⟨h2, g2⟩ := List.getElem?_eq_some_iff.mp hm
      exact (List.getElem_inj nd).mp (g2.trans g1.symm)
    split at hj
    · have := fin j (by unfold dom; rw [List.getElem?_map, hj]; show some q.1 = some p; rw [e])
      omega
    · have := fin (j + 1) (by unfold dom; rw [List.getElem?_map, hj]; show some q.1 = some p; rw [e])
      omega
  have st : Step M (M.eraseIdx i) H H := ⟨fun _ _ _ h => h, fun _ h => h, fun b hb => .inl (subd.subset hb)⟩
  obtain ⟨o, ho, dx, vs, e, rs⟩ := cr.at_ h
  subst e
  have hp : p ∈ dom M := List.mem_map.mpr ⟨_, List.mem_of_getElem? h, rfl⟩
  refine ⟨⟨cr.known, cr.nod.sublist subd, fun a ha => cr.dis a (subd.subset ha), fun q hq => CellAt.to st.to (fun _ e => e) (cr.cells q (sub.subset hq))⟩, .obj (fun z => ?_) ho (rs.to st.to), st⟩
  rcases z with z | z
  · exact cr.dis p hp z
  · exact np z
theorem wss_freezeO {rest : List Stmt} {j i : Nat} {p : Addr} {fs : List (Str × D)} (hΓ : Γ[j]? = some (some (.ptr p))) (hM : M[i]? = some (p, .ins C fs)) (h : WSs c rest E (Γ.set j (some (.obj C fs))) (M.eraseIdx i)) : WSs c rest E Γ M := .mk fun X S σ H at_ Ds l => by
  obtain ⟨c1, r1, s1⟩ := at_.core.freezeO hM
  obtain ⟨v, hv, r⟩ := at_.slots.at_ j _ hΓ
  cases r
  have sl := (at_.slots.to s1.to).set (i := j) r1
  have e : σ.set j (some (V.ref p)) = σ := by
    obtain ⟨h1, g1⟩ := List.getElem?_eq_some_iff.mp hv
    rw [← g1, List.set_getElem_self]
  rw [e] at sl
  exact h.run X S σ H (at_.slot c1 sl s1) Ds (l.step s1)
/-- what __init__ is given -/
theorem make_core {K : PySem.W.Frag} {q dx : Addr} (cr : Core c.K S M H) (h1 : H q = none) (h2 : H dx = none) (hne : dx ≠ q) :
    Core c.K S (M ++ [(q, .ins C [])]) (upd (upd H dx (.own q)) q (.ins C dx [])) ∧ Step M (M ++ [(q, .ins C [])]) H (upd (upd H dx (.own q)) q (.ins C dx [])) := by
  have c1 := cr.new (p := dx) (o := .own q) h2
  have n1 : upd H dx (.own q) q = none := by rw [upd_ne (fun z => hne z.symm)]; exact h1
  have k := c1.cell (p := q) (o := .ins C dx []) (m := .ins C []) n1 ⟨dx, [], rfl, .nil⟩
  have pm : ((q, MO.ins C []) :: M).Perm (M ++ [(q, .ins C [])]) := (List.perm_append_comm (l₁ := [(q, MO.ins C [])]) (l₂ := M))
  obtain ⟨c2, s2⟩ := k.1.perm pm
  exact ⟨c2, ((Step.same (same_new h2)).trans k.2).trans s2⟩
/-- C(e, ..) -/
theorem we_make {f : Addr} {fd : FuncData} {ps : List Str} {k : Nat} {pf : PF} (F : CDef c.P c.w c.K c.mg c.base x C f fd ps k pf) (hk : k + 1 ≤ c.k) (hg : GlC c.sc x)
    (h : WA c (e :: es) Γ M fun ds M1 => ∀ q, Callee c pf Γ (.ptr q :: ds) (M1 ++ [(q, .ins C [])]) fun d M2 => d = .non ∧ Q (.ptr q) M2)
    (hdb : (x == ("__debug__" : Str)) = false := by decide) (he : ∀ env, starEach (e :: es) env = (false, eval e env) :: starEach es env := by intro _; rfl) (hpl : ∀ env, (backTo pos (starEach es env)).any (·.1) = false := by intro _; rfl) :
    WE c (.Call (.Name x p) (e :: es) [] pos) Γ M Q := .mk fun X S σ H at_ Q' hq => by
  obtain ⟨W, tk, hW⟩ := at_.land
  have eP := at_.is.prog; have ew := at_.is.w; have eK := at_.is.K; have emg := at_.is.mg; have eb := at_.is.base
  have G : FnOk X.prog X.w X.K X.mg X.base (L2.CX X.prog X.w) k f fd ps (liftF c.K pf) := by rw [eP, ew, eK, emg, eb]; exact F.ok
  have hM : Mk X.K C f := by rw [eK]; exact F.mkc
  have hb : Binds X.K fd ps [] := by rw [eK]; exact F.binds
  intro pins s I
  refine wpAny_Call_Name_kw (ld_glob I (at_.is.gl hg) (at_.is.mgN F.mgx) ?_ hdb)
  refine PySem.W.callWith_K (h₀ := X.base) I.ok.mod.kin hM.kp (thn ((h.run X S σ H at_ (fun vs H1 => ∀ q dx, H1 q = none → H1 dx = none → dx ≠ q → liftF c.K pf (.ref q :: vs) (upd (upd H1 dx (.own q)) q (.ins C dx [])) (fun v H2 => v = .non ∧ Q' (.ref q) H2) (fun cls d H' => W cls d σ H')) ?_) pos pins s I) fun us s1 ⟨vs, H1, I1, r, q1⟩ => ⟨I1.kIn, ?_⟩) (he _) (hpl _)
  · intro vs H1 ds M1 c1 s1 r1 q q0 dx n1 n2 ne
    obtain ⟨c2, s2⟩ := make_core (K := c.K) (C := C) c1 n1 n2 ne
    refine (q q0).lift (at_.step c2 (s1.trans s2)) (.cons .ptr (r1.to s2.to)) (fun C dd v d σ' H' Γ' M' c3 sl3 st3 => hW C dd v d σ' H' Γ' M' c3 sl3 ((s1.trans s2).trans st3)) fun v H' d M' c3 st3 r3 ⟨ed, q3⟩ => ?_
    subst ed; cases r3
    exact ⟨rfl, hq _ _ _ _ c3 ((s1.trans s2).trans st3) .ptr q3⟩
  · have hq0 := q1 (s1.heap.objs.size + 1) s1.heap.objs.size (I1.hok.fresh (Nat.le_succ _)) (I1.hok.fresh (Nat.le_refl _)) (Nat.ne_of_lt (Nat.lt_succ_self _))
    have I2 := Inv.made (C := C) I1
    have r2 : Vals (V.ref (s1.heap.objs.size + 1) :: vs) (Value.ref (s1.heap.objs.size + 1) :: us) := .cons rfl r
    have hl : (Value.ref (s1.heap.objs.size + 1) :: us).length = ps.length := by rw [← r2.length]; exact G.len _ _ _ _ hq0
    have b := hb _ (Value.ref (s1.heap.objs.size + 1) :: us) I2.kIn (by rw [List.append_nil]; exact hl)
    rw [List.append_nil] at b
    refine wpAny_call (make_map (f := f) I1.kIn hM.makes hM.init (beq_iff_eq.mp hM.fn) (codeAny_mono (G.run _ X.stack _ _ ⟨Value.ref (s1.heap.objs.size + 1) :: us, []⟩ (Value.ref (s1.heap.objs.size + 1) :: us) _ _ _ ((at_.is.room.mono hk).make C us [])
      (I2.env0.make C us []) b r2 hq0) fun r s' hq' => ?_))
    cases r with
    | error e => exact passAt tk σ pins _ _ e s' I2 hq'
    | ok fl =>
      cases fl with
      | ret u =>
        obtain ⟨v, H', I3, rv, ev, q3⟩ := I2.after hq'
        subst ev
        exact ⟨rv, ⟨V.ref (s1.heap.objs.size + 1), H', I3, rfl, q3⟩⟩
      | next => exact False.elim hq'
      | brk => exact False.elim hq'
      | cont => exact False.elim hq'
/-- C(k = v, ..) -/
theorem we_makeK {f : Addr} {fd : FuncData} {ps ks : List Str} {is : List Nat} {k : Nat} {pf : PF} {kws : List Keyword} (F : CDef c.P c.w c.K c.mg c.base x C f fd ps k pf) (B : KwN c.K fd ps ks is 1) (hk : k + 1 ≤ c.k) (hg : GlC c.sc x)
    (h : WK c kws Γ M fun ds M1 => ds.length = ks.length ∧ ∀ q, Callee c pf Γ (.ptr q :: pick is ds) (M1 ++ [(q, .ins C [])]) fun d M2 => d = .non ∧ Q (.ptr q) M2)
    (hall : ∀ env, (backToKw pos (keywordEach kws env)).all (·.1.isSome) = true := by intro _; rfl) (hks : ∀ env, (backToKw pos (keywordEach kws env)).filterMap (·.1) = ks := by intro _; rfl)
    (hpl : ∀ env, ((backTo pos (starEach [] env)).any (·.1) || (backToKw pos (keywordEach kws env)).any (·.1.isNone)) = false := by intro _; rfl)
    (hdb : (x == ("__debug__" : Str)) = false := by decide) :
    WE c (.Call (.Name x p) [] kws pos) Γ M Q := .mk fun X S σ H at_ Q' hq => by
  obtain ⟨W, tk, hW⟩ := at_.land
  have eP := at_.is.prog; have ew := at_.is.w; have eK := at_.is.K; have emg := at_.is.mg; have eb := at_.is.base
  have G : FnOk X.prog X.w X.K X.mg X.base (L2.CX X.prog X.w) k f fd ps (liftF c.K pf) := by rw [eP, ew, eK, emg, eb]; exact F.ok
  have hM : Mk X.K C f := by rw [eK]; exact F.mkc
  have hb : KwN X.K fd ps ks is 1 := by rw [eK]; exact B
  intro pins s I
  refine wpAny_Call_Name_kw (ld_glob I (at_.is.gl hg) (at_.is.mgN F.mgx) ?_ hdb)
  refine PySem.W.callWith_KW0 (h₀ := X.base) I.ok.mod.kin hM.kp (hall _) ?_ (hpl _)
  refine thn ((h.run X S σ H at_ (fun vs H1 => vs.length = ks.length ∧ ∀ q dx, H1 q = none → H1 dx = none → dx ≠ q → liftF c.K pf (.ref q :: pick is vs) (upd (upd H1 dx (.own q)) q (.ins C dx [])) (fun v H2 => v = .non ∧ Q' (.ref q) H2) (fun cls d H' => W cls d σ H')) ?_) pos pins s I) fun ws s1 ⟨zs, H1, I1, rz, l1, q1⟩ => ⟨I1.kIn, ?_⟩
  · rintro vs H1 ds M1 c1 s1 r1 ⟨lq, q⟩
    refine ⟨by rw [r1.length, lq], fun q0 dx n1 n2 ne => ?_⟩
    obtain ⟨c2, s2⟩ := make_core (K := c.K) (C := C) c1 n1 n2 ne
    refine (q q0).lift (at_.step c2 (s1.trans s2)) (.cons .ptr ((r1.pick is).to s2.to)) (fun C dd v d σ' H' Γ' M' c3 sl3 st3 => hW C dd v d σ' H' Γ' M' c3 sl3 ((s1.trans s2).trans st3)) fun v H' d M' c3 st3 r3 ⟨ed, q3⟩ => ?_
    subst ed; cases r3
    exact ⟨rfl, hq _ _ _ _ c3 ((s1.trans s2).trans st3) .ptr q3⟩
  · rw [hks]
    have hq0 := q1 (s1.heap.objs.size + 1) s1.heap.objs.size (I1.hok.fresh (Nat.le_succ _)) (I1.hok.fresh (Nat.le_refl _)) (Nat.ne_of_lt (Nat.lt_succ_self _))
    have I2 := Inv.made (C := C) I1
    have r2 : Vals (V.ref (s1.heap.objs.size + 1) :: pick is zs) (Value.ref (s1.heap.objs.size + 1) :: pick is ws) := .cons rfl (Vals.pick rz is)
    refine wpAny_call (make_map (f := f) I1.kIn hM.makes hM.init (beq_iff_eq.mp hM.fn) (codeAny_mono (G.run _ X.stack _ _ ⟨[Value.ref (s1.heap.objs.size + 1)], ks.zip ws⟩ ([Value.ref (s1.heap.objs.size + 1)] ++ pick is ws) _ _ _ ((at_.is.room.mono hk).make C [] (ks.zip ws))
      (I2.env0.make C [] (ks.zip ws)) (hb.to _ [Value.ref (s1.heap.objs.size + 1)] ws I2.kIn rfl (by rw [← rz.length, l1])) r2 hq0) fun r s' hq' => ?_))
    cases r with
    | error e => exact passAt tk σ pins _ _ e s' I2 hq'
    | ok fl =>
      cases fl with
      | ret u =>
        obtain ⟨v, H', I3, rv, ev, q3⟩ := I2.after hq'
        subst ev
        exact ⟨rv, ⟨V.ref (s1.heap.objs.size + 1), H', I3, rfl, q3⟩⟩
      | next => exact False.elim hq'
      | brk => exact False.elim hq'
      | cont => exact False.elim hq'
end
end PL
namespace PL
open PySem PySem.Spec PyProof.Rows L2
/-- a module's constant -/
def PGlob (K : PySem.W.Frag) (mg : Str → Option Value) (x : Str) (d : D) : Prop := ∃ u v, mg x = some u ∧ RelV v u ∧ ∀ A H, Rep K A H v d
theorem glob_str {K : PySem.W.Frag} {mg : Str → Option Value} {x s : Str} {t : Tok} (h : mg x = some (.str s t)) : PGlob K mg x (.str s) := ⟨_, .str s, h, ⟨_, rfl⟩, fun _ _ => .str⟩
theorem glob_int {K : PySem.W.Frag} {mg : Str → Option Value} {x : Str} {i : Int} {t : Tok} (h : mg x = some (.int i t)) : PGlob K mg x (.int i) := ⟨_, .int i, h, ⟨_, rfl⟩, fun _ _ => .int⟩
theorem reps_strs {K : PySem.W.Frag} {A : AS} {H : Hp} : ∀ xs : List Str, Reps K A H (xs.map V.str) (xs.map D.str)
  | [] => .nil
  | _ :: xs => .cons .str (reps_strs xs)
theorem glob_strs {K : PySem.W.Frag} {mg : Str → Option Value} {x : Str} {a : Addr} {o : Obj} {its : Array Value} {n : Nat} {xs : List Str} (h : mg x = some (.ref a)) (l : K.lookup a = some o) (hc : o.cls = .type "tuple") (hd : o.data = .seq its n) (hz : its.size ≤ sizeLine) (hv : Vals (xs.map V.str) its.toList) : PGlob K mg x (.tup (xs.map D.str)) :=
  ⟨_, .ref a, h, rfl, fun A H => .tup (.inr ⟨o, its, n, l, hc, hd, hz, hv⟩) (reps_strs xs)⟩
section
variable {c : Ctx} {X : Cx} {S : AS} {Γ Γ' : Gam} {M M' : Cells} {σ σ' : L2.St} {H H' : Hp} {a b e : Expr} {es : List Expr} {pos pos' p apos : Pos} {Q : D → Cells → Prop} {R : Bool → Cells → Prop} {x : Str} {E : PEnds}
theorem we_glob {d : D} (hg : GlC c.sc x) (g : PGlob c.K c.mg x d) (q : Q d M) (hd : (x == ("__debug__" : Str)) = false := by decide) : WE c (.Name x pos) Γ M Q := .mk fun X S σ H at_ Q' hq => by
  obtain ⟨u, v, hm, r, rp⟩ := g
  exact PE.to (pe_glob (at_.is.gl hg) (at_.is.mgN hm) r hd) (hq v H d M at_.core .refl (rp _ _) q)
theorem we_maxM {α : Type} (xs : List α) (f : α → Int) (hg : GlC c.sc "max") (hm : c.mg "max" = none) (h : WE c e Γ M fun d M1 => d = .lst (xs.map fun p => D.int (f p)) ∧ 0 < xs.length ∧ ∀ m, (∃ y ∈ xs, f y = m) → (∀ y, y ∈ xs → f y ≤ m) → Q (.int m) M1)
    (he : ∀ env, starEach [e] env = (false, eval e env) :: starEach [] env := by intro _; rfl) : WE c (.Call (.Name "max" p) [e] [] pos) Γ M Q :=
  we_maxI hg hm (h.imp fun d M1 ⟨e1, hl, q⟩ => ⟨xs.map f, by rw [e1, List.map_map]; exact .self, by rw [List.length_map]; exact hl, fun m h1 h2 => q m (by obtain ⟨y, hy, e⟩ := List.mem_map.mp h1; exact ⟨y, hy, e⟩) fun y hy => h2 _ (List.mem_map.mpr ⟨y, hy, rfl⟩)⟩) he
theorem we_minM {α : Type} (xs : List α) (f : α → Int) (hg : GlC c.sc "min") (hm : c.mg "min" = none) (h : WE c e Γ M fun d M1 => d = .lst (xs.map fun p => D.int (f p)) ∧ 0 < xs.length ∧ ∀ m, (∃ y ∈ xs, f y = m) → (∀ y, y ∈ xs → m ≤ f y) → Q (.int m) M1)
    (he : ∀ env, starEach [e] env = (false, eval e env) :: starEach [] env := by intro _; rfl) : WE c (.Call (.Name "min" p) [e] [] pos) Γ M Q :=
  we_minI hg hm (h.imp fun d M1 ⟨e1, hl, q⟩ => ⟨xs.map f, by rw [e1, List.map_map]; exact .self, by rw [List.length_map]; exact hl, fun m h1 h2 => q m (by obtain ⟨y, hy, e⟩ := List.mem_map.mp h1; exact ⟨y, hy, e⟩) fun y hy => h2 _ (List.mem_map.mpr ⟨y, hy, rfl⟩)⟩) he
/-- the cells in another order -/
theorem we_perm {M' : Cells} (pm : M.Perm M') (h : WE c e Γ M' fun d M2 => ∃ M3, M2.Perm M3 ∧ Q d M3) : WE c e Γ M Q := .mk fun X S σ H at_ Q' hq => by
  obtain ⟨c1, s1⟩ := at_.core.perm pm
  refine h.run X S σ H (at_.step c1 s1) Q' fun v H' d M2 c2 s2 r2 ⟨M3, pm3, q⟩ => ?_
  obtain ⟨c3, s3⟩ := c2.perm pm3
  exact hq v H' d M3 c3 ((s1.trans s2).trans s3) (r2.to s3.to) q
theorem perm_pick {α : Type} {x : α} : ∀ {l : List α} {i : Nat}, l[i]? = some x → l.Perm (l.eraseIdx i ++ [x])
  | [], _, h => by simp at h
  | y :: l, 0, h => by
    have : y = x := by simpa using h
    subst this
    exact (List.perm_append_comm (l₁ := [y]) (l₂ := l))
  | y :: l, i + 1, h => (perm_pick (l := l) (i := i) (by simpa using h)).cons y
theorem at_end {α : Type} {x : α} {l : List α} : (l ++ [x])[l.length]? = some x := by
  rw [List.getElem?_append_right (Nat.le_refl _), Nat.sub_self]
  rfl
/-- cells that nobody needs any more -/
theorem we_dropC (h : WE c e Γ M fun d M2 => ∃ M3, M3.Sublist M2 ∧ Q d M3) : WE c e Γ M Q := .mk fun X S σ H at_ Q' hq =>
  h.run X S σ H at_ Q' fun v H' d M2 c2 s2 r2 ⟨M3, sub, q⟩ => by
    have subd : (dom M3).Sublist (dom M2) := sub.map _
    have st : Step M2 M3 H' H' := ⟨fun _ _ _ h => h, fun _ h => h, fun b hb => .inl (subd.subset hb)⟩
    exact hq v H' d M3 ⟨c2.known, c2.nod.sublist subd, fun a ha => c2.dis a (subd.subset ha), fun q hq => CellAt.to st.to (fun _ e => e) (c2.cells q (sub.subset hq))⟩ (s2.trans st) (r2.to st.to) q
/-- e[:k] of a list -/
theorem we_takeL {k : Int} {n : Nat} {p2 p3 : Pos} (h : WE c a Γ M fun x M1 => ∃ ds, x = .lst ds ∧ 0 ≤ k ∧ Q (.lst (ds.take k.toNat)) M1) : WE c (.Subscript a (.Slice none (some (.Constant (.int k) n p3)) none p2) pos) Γ M Q := .mk fun X S σ H at_ Q' hq =>
  PE.to (pe_slice sl_list wE.pe po_none (po_some pe_int)) (h.run X S σ H at_ _ fun v1 H1 d1 M1 c1 s1 r1 ⟨ds, e1, hk, q⟩ => by
    subst e1
    cases r1 with
    | lst h1 h2 =>
      rw [at_.is.K]
      obtain ⟨m, rfl⟩ : ∃ m : Nat, k = (m : Int) := ⟨k.toNat, by omega⟩
      have e2 : (ds.drop (HT.sIx ds.length 0 none)).take (HT.sIx ds.length ds.length (some (m : Int)) - HT.sIx ds.length 0 none) = ds.take m := by
        rw [HT.sIx_nat, HT.sIx_none, List.drop_zero, Nat.sub_zero]
        by_cases hm : m ≤ ds.length
        · rw [Nat.min_eq_left hm]
        · rw [Nat.min_eq_right (by omega), List.take_of_length_le (Nat.le_refl _), List.take_of_length_le (by omega)]
      refine ⟨m, rfl, _, _, rfl, h1.sq, fun p np => ?_⟩
      have r2 := cutV_D (lo := none) (hi := some (m : Int)) h2
      rw [e2] at r2
      obtain ⟨k1, k2, k3⟩ := fresh_lst (K := c.K) c1 np r2
      exact hq _ _ _ _ k1 (s1.trans k2) k3 q)
/-- an item of a list (a tuple) of data at some place in bounds -/
theorem we_ixA {α : Type} (xs : List α) (f : α → D) (h : WE c a Γ M fun x M1 => WE c b Γ M1 fun y M2 => ∃ (i : Int), (x = .lst (xs.map f) ∨ x = .tup (xs.map f)) ∧ y = .int i ∧ (0 ≤ i ∧ i < xs.length) ∧ ∀ z, z ∈ xs → xs[i.toNat]? = some z → Q (f z) M2) (hs : PlainIx b := by exact fun _ _ => rfl) :
    WE c (.Subscript a b pos) Γ M Q :=
  we_ix (.mk fun X S σ H at_ Q' hq => h.run X S σ H at_ Q' fun v H' d M' c1 s1 r1 q => hq v H' d M' c1 s1 r1 (.mk fun X S σ H at_ Q' hq => q.run X S σ H at_ Q' fun v H' d M' c1 s1 r1 ⟨i, e1, e2, hi, q⟩ => hq v H' d M' c1 s1 r1 (by
    obtain ⟨j, hj, ej, e⟩ := atI_some (xs := xs.map f) (by rw [List.length_map]; exact hi)
    subst ej
    rw [List.length_map] at hj
    refine ⟨xs.map f, j, f xs[j], ?_, e2, by rw [e]; simp, q _ (List.getElem_mem hj) ?_⟩
    · rcases e1 with e1 | e1
      · exact .inr (.inl e1)
      · exact .inl e1
    · rw [Int.toNat_natCast]; exact List.getElem?_eq_getElem hj))) hs
theorem we_ixJ (P : Int → Prop) (h : WE c a Γ M fun x M1 => WE c b Γ M1 fun y M2 => ∃ (ns : List Int) (i : Int), x = .lst (ns.map D.int) ∧ y = .int i ∧ (0 ≤ i ∧ i < ns.length) ∧ (∀ v ∈ ns, P v) ∧ ∀ v, P v → Q (.int v) M2) (hs : PlainIx b := by exact fun _ _ => rfl) :
    WE c (.Subscript a b pos) Γ M Q :=
  we_ix (.mk fun X S σ H at_ Q' hq => h.run X S σ H at_ Q' fun v H' d M' c1 s1 r1 q => hq v H' d M' c1 s1 r1 (.mk fun X S σ H at_ Q' hq => q.run X S σ H at_ Q' fun v H' d M' c1 s1 r1 ⟨ns, i, e1, e2, hi, hP, q⟩ => hq v H' d M' c1 s1 r1 (by
    obtain ⟨j, hj, _, e⟩ := atI_some (xs := ns.map D.int) (by rw [List.length_map]; exact hi)
    refine ⟨ns.map D.int, i, .int ns[j], .inr (.inl e1), e2, by rw [e]; simp, q _ (hP _ (List.getElem_mem _))⟩))) hs
/-- an item of a list of data at some place in bounds, as getD -/
theorem we_ixG {α : Type} (xs : List α) (f : α → D) (z0 : α) (h : WE c a Γ M fun x M1 => WE c b Γ M1 fun y M2 => ∃ (i : Int), x = .lst (xs.map f) ∧ y = .int i ∧ (0 ≤ i ∧ i < xs.length) ∧ Q (f (xs.getD i.toNat z0)) M2) (hs : PlainIx b := by exact fun _ _ => rfl) :
    WE c (.Subscript a b pos) Γ M Q :=
  we_ix (.mk fun X S σ H at_ Q' hq => h.run X S σ H at_ Q' fun v H' d M' c1 s1 r1 q => hq v H' d M' c1 s1 r1 (.mk fun X S σ H at_ Q' hq => q.run X S σ H at_ Q' fun v H' d M' c1 s1 r1 ⟨i, e1, e2, hi, q⟩ => hq v H' d M' c1 s1 r1 (by
    obtain ⟨j, hj, ej, e⟩ := atI_some (xs := xs.map f) (by rw [List.length_map]; exact hi)
    subst ej
    rw [List.length_map] at hj
    refine ⟨xs.map f, j, f xs[j], .inr (.inl e1), e2, by rw [e]; simp, ?_⟩
    rw [Int.toNat_natCast, List.getD_eq_getElem?_getD, List.getElem?_eq_getElem hj] at q
    exact q))) hs
/-- an item of data at some place in bounds -/
theorem we_ixX (h : WE c a Γ M fun x M1 => WE c b Γ M1 fun y M2 => ∃ (xs : List D) (i : Int), (x = .lst xs ∨ x = .tup xs) ∧ y = .int i ∧ (0 ≤ i ∧ i < xs.length) ∧ ∀ z, xs[i.toNat]? = some z → Q z M2) (hs : PlainIx b := by exact fun _ _ => rfl) :
    WE c (.Subscript a b pos) Γ M Q :=
  we_ix (.mk fun X S σ H at_ Q' hq => h.run X S σ H at_ Q' fun v H' d M' c1 s1 r1 q => hq v H' d M' c1 s1 r1 (.mk fun X S σ H at_ Q' hq => q.run X S σ H at_ Q' fun v H' d M' c1 s1 r1 ⟨xs, i, e1, e2, hi, q⟩ => hq v H' d M' c1 s1 r1 (by
    obtain ⟨j, hj, ej, e⟩ := atI_some (xs := xs) hi
    subst ej
    refine ⟨xs, j, xs[j], ?_, e2, e, q _ ?_⟩
    · rcases e1 with e1 | e1
      · exact .inr (.inl e1)
      · exact .inl e1
    · rw [Int.toNat_natCast]; exact List.getElem?_eq_getElem hj))) hs
end
section
variable {c : Ctx} {X : Cx} {S : AS} {Γ Γ' : Gam} {M M' : Cells} {σ σ' : L2.St} {H H' : Hp} {a b e : Expr} {es : List Expr} {pos pos' p apos : Pos} {Q : D → Cells → Prop} {R : Bool → Cells → Prop} {x : Str} {E : PEnds}
theorem wt_in (h : WE c a Γ M fun x M1 => WE c b Γ M1 fun y M2 => ∃ x' ys, View M2 x x' ∧ (View M2 y (.lst ys) ∨ View M2 y (.tup ys)) ∧ x'.okd 60 = true ∧ D.okds 60 ys = true ∧ R (ys.any fun z => z.eqv x') M2)
    (hm : behindInMarks .In b = false := by rfl) : WT c (.Compare a [.In] [b] pos) Γ M R := .mk fun X S σ H at_ Q' hq =>
  PT.to (pt_cmpR (op_inP at_.is.hu) wE.pe wE.pe hm) (two h at_ fun v1 v2 H2 d1 d2 M2 c2 s2 r1 r2 ⟨x', ys, w1, w2, o1, o2, q⟩ => by
    have p1 := D.plain_ok _ _ o1
    have p2 := D.plain_oks _ _ o2
    rw [at_.is.K]
    refine ⟨x'.py, D.pys ys, (w1.rep c2 r1).dp 60 _ o1, ?_, p1.1, p2.1, p1.2, _, rfl, hq _ _ _ c2 s2 ?_⟩
    · rcases w2 with w2 | w2
      · exact .inl ((w2.rep c2 r2).dp 61 (.lst ys) (by simpa [D.okd] using o2))
      · exact .inr ((w2.rep c2 r2).dp 61 (.tup ys) (by simpa [D.okd] using o2))
    · rw [D.pys_map, List.any_map]
      exact q)
theorem wt_nin (h : WE c a Γ M fun x M1 => WE c b Γ M1 fun y M2 => ∃ x' ys, View M2 x x' ∧ (View M2 y (.lst ys) ∨ View M2 y (.tup ys)) ∧ x'.okd 60 = true ∧ D.okds 60 ys = true ∧ R (!ys.any fun z => z.eqv x') M2)
    (hm : behindInMarks .NotIn b = false := by rfl) : WT c (.Compare a [.NotIn] [b] pos) Γ M R := .mk fun X S σ H at_ Q' hq =>
  PT.to (pt_cmpR (op_ninP at_.is.hu) wE.pe wE.pe hm) (two h at_ fun v1 v2 H2 d1 d2 M2 c2 s2 r1 r2 ⟨x', ys, w1, w2, o1, o2, q⟩ => by
    have p1 := D.plain_ok _ _ o1
    have p2 := D.plain_oks _ _ o2
    rw [at_.is.K]
    refine ⟨x'.py, D.pys ys, (w1.rep c2 r1).dp 60 _ o1, ?_, p1.1, p2.1, p1.2, _, rfl, hq _ _ _ c2 s2 ?_⟩
    · rcases w2 with w2 | w2
      · exact .inl ((w2.rep c2 r2).dp 61 (.lst ys) (by simpa [D.okd] using o2))
      · exact .inr ((w2.rep c2 r2).dp 61 (.tup ys) (by simpa [D.okd] using o2))
    · rw [D.pys_map, List.any_map]
      exact q)
end
/-- a comprehension whose items are told by things of a type -/
theorem lcq_B {c : Ctx} {Γ : Gam} {M : Cells} {Q : D → Cells → Prop} {scope : Scope} {tg elt : Expr} {ifs : List Expr} {α β : Type} {xs : List α} {f : α → D} (h : β → D) (Inv : List α → List β → Cells → Prop) {vs0 : List Nat} (hz : xs.length ≤ sizeLine) (h0 : Inv [] [] M)
    (hs : ∀ pre y post bs M2, xs = pre ++ y :: post → bs.length ≤ pre.length → Inv pre bs M2 → Turn1 c scope vs0 tg elt ifs (f y) Γ M2 (fun d M4 => ∃ b, d = h b ∧ Inv (pre ++ [y]) (bs ++ [b]) M4) (fun M4 => Inv (pre ++ [y]) bs M4))
    (hd : ∀ bs M2, bs.length ≤ xs.length → Inv xs bs M2 → Q (.lst (bs.map h)) M2) : LcQ c scope vs0 tg elt ifs Γ xs f (fun pre acc M2 => ∃ bs, acc = bs.map h ∧ Inv pre bs M2) M Q := by
  refine ⟨hz, ⟨[], rfl, h0⟩, ?_, ?_⟩
  · rintro pre y post acc M2 e hl ⟨bs, rfl, hi⟩
    rw [List.length_map] at hl
    obtain ⟨is, us, ht, hv, hw⟩ := hs pre y post bs M2 e hl hi
    refine ⟨is, us, ht, hv, .mk fun X S σ H at_ Q' hq => hw.run X S σ H at_ Q' fun k H' M' c1 s1 b => hq k H' M' c1 s1 ⟨fun hk => .mk fun X S σ H at_ Q' hq => (b.1 hk).run X S σ H at_ Q' fun v H' d M' c1 s1 r1 ⟨b', e1, e2⟩ => hq v H' d M' c1 s1 r1 ⟨bs ++ [b'], by rw [e1, List.map_append]; rfl, e2⟩, fun hk => ⟨bs, rfl, b.2 hk⟩⟩⟩
  · rintro acc M2 hl ⟨bs, rfl, hi⟩
    rw [List.length_map] at hl
    exact hd bs M2 hl hi
theorem br_nkT {k : Bool} {A B : Prop} (h : k = false) (a : A) : Br (!k) A B := by
  subst h
  exact ⟨fun _ => a, fun z => (by cases z)⟩
mutual
/-- plain data, no deeper than n, no list long -/
def D.sm (n : Nat) : D → Bool
  | .non => true
  | .bl _ => true
  | .int _ => true
  | .str _ => true
  | .tup xs => match n with
    | 0 => false
    | n + 1 => decide (xs.length < 1000000) && D.sms n xs
  | .lst xs => match n with
    | 0 => false
    | n + 1 => decide (xs.length < 1000000) && D.sms n xs
  | .ptr _ => false
  | .obj _ _ => false
def D.sms (n : Nat) : List D → Bool
  | [] => true
  | x :: xs => D.sm n x && D.sms n xs
end
theorem sms_get {n : Nat} : ∀ {xs : List D} {i : Nat} {z : D}, D.sms n xs = true → xs[i]? = some z → z.sm n = true
  | [], _, _, _, h => by simp at h
  | x :: xs, i, z, h, e => by
    have h' : x.sm n = true ∧ D.sms n xs = true := by simpa [D.sms] using h
    cases i with
    | zero => cases e; exact h'.1
    | succ i => exact sms_get (i := i) h'.2 e
theorem sms_map {α : Type} {n : Nat} {f : α → D} (h : ∀ x, (f x).sm n = true) : ∀ xs : List α, D.sms n (xs.map f) = true
  | [] => rfl
  | x :: xs => by
    show ((f x).sm n && D.sms n (xs.map f)) = true
    rw [h x, sms_map h xs]
    rfl
theorem sm_map {α : Type} {n : Nat} {f : α → D} {xs : List α} (hl : xs.length < 1000000) (h : ∀ x, (f x).sm n = true) : (D.lst (xs.map f)).sm (n + 1) = true := by
  show (decide ((xs.map f).length < 1000000) && D.sms n (xs.map f)) = true
  rw [sms_map h xs, List.length_map, decide_eq_true hl]
  rfl
end PL
namespace PL
open PySem PySem.Spec PyProof.Rows L2
theorem call_min3 {X : Cx} (hc : X.calm = true) : CallR X (.builtin "min") (fun xs H Q => ∃ i j k, xs = [.int i, .int j, .int k] ∧ Q (.int (if j < i then (if k < j then k else j) else (if k < i then k else i))) H) := by
  intro pins s σ H xs us Q I r h
  obtain ⟨i, j, k, rfl, q⟩ := h
  cases r with
  | cons r1 r =>
    obtain ⟨u, w', rfl, ⟨t', rfl⟩, ⟨t2, rfl⟩⟩ := vals2 r
    obtain ⟨t, rfl⟩ := r1
    refine min_three_ints (I.ok.hd hc) fun h' tk kp => ⟨_, H, I.kept kp, ?_, q⟩
    split <;> split <;> exact ⟨_, rfl⟩
section
variable {c : Ctx} {Γ : Gam} {M : Cells} {a b d : Expr} {pos p : Pos} {Q : D → Cells → Prop}
theorem we_min3 (hg : GlC c.sc "min") (hm : c.mg "min" = none) (h : WE c a Γ M fun x M1 => WE c b Γ M1 fun y M2 => WE c d Γ M2 fun z M3 => ∃ i j k, x = .int i ∧ y = .int j ∧ z = .int k ∧ Q (.int (if j < i then (if k < j then k else j) else (if k < i then k else i))) M3)
    (he : ∀ env, starEach [a, b, d] env = (false, eval a env) :: starEach [b, d] env := by intro _; rfl) (he2 : ∀ env, starEach [b, d] env = (false, eval b env) :: starEach [d] env := by intro _; rfl) (he3 : ∀ env, starEach [d] env = (false, eval d env) :: starEach [] env := by intro _; rfl) : WE c (.Call (.Name "min" p) [a, b, d] [] pos) Γ M Q :=
  we_callB (fun X hc => call_min3 hc) hg hm (by decide +kernel) (wa_cons (.mk fun X S σ H at_ Q' hq => h.run X S σ H at_ Q' fun v H' d M' c1 s1 r1 q0 => hq v H' d M' c1 s1 r1 (wa_cons (.mk fun X S σ H at_ Q' hq => q0.run X S σ H at_ Q' fun v H' d' M' c1 s1 r1 q1 => hq v H' d' M' c1 s1 r1 (wa_cons (.mk fun X S σ H at_ Q' hq => q1.run X S σ H at_ Q' fun v H' d'' M' c1 s1 r1 ⟨i, j, k, e1, e2, e3, q⟩ => hq v H' d'' M' c1 s1 r1 (wa_nil (by
    subst e1 e2 e3
    intro S2 H2 vs c2 r2 Q2 hq2
    cases r2 with
    | cons r r' =>
      cases r' with
      | cons r1 r2 =>
        cases r2 with
        | cons r3 r4 =>
          cases r4; cases r; cases r1; cases r3
          exact ⟨i, j, k, rfl, hq2 _ _ _ _ c2 .refl .int q⟩))) he3)) he2)) he) (he := he) (hpl := fun env => by rw [he2, he3]; rfl)
end
section
variable {c : Ctx} {Γ : Gam} {M : Cells} {elt tg iter : Expr} {ifs : List Expr} {scope : Scope} {pos : Pos} {Q : D → Cells → Prop} {E : PEnds} {α : Type}
/-- [.. for tg in iter ..], the list told only behind the iterable -/
theorem we_lcLx (own : List (Str × Nat)) (hb : blkC c.N c.sc scope own = true) (f : α → D) (h : WE c iter Γ M fun d M1 => ∃ xs : List α, d = .lst (xs.map f) ∧ ∃ Inv : List α → List D → Cells → Prop, LcQ c scope (own.map (·.2)) tg elt ifs Γ xs f Inv M1 Q)
    (hs : ∀ env x, foldedSetIterable iter env x = pure x := by intro _ _; rfl) : WE c (.ListComp elt [⟨tg, iter, ifs, 0⟩] scope pos) Γ M Q := .mk fun X S σ H at_ Q' hq =>
  PE.to (pe_lc at_.is.calm at_.is.nd (pi_list wE.pe) (at_.blkOk hb) (fun s H C cl fp => gB.pg s H C cl fp) (fun s H C cl fp => ttB.pts s H C cl fp) (fun s H C cl fp => tB.pe s H C cl fp) (hs _)) (h.run X S σ H at_ _ fun v1 H1 d1 M1 c1 s1 r1 ⟨xs, e1, iv, q⟩ => by
    subst e1
    cases r1 with
    | lst h1 h2 => exact ⟨_, rfl, ⟨_, by rw [at_.is.K]; exact h1.sq⟩, lcL_core at_.is c1 (at_.slots.to s1.to) h1 h2 q fun v H' d M' c2 s2 r2 q2 => hq v H' d M' c2 (s1.trans s2) r2 q2⟩)
theorem ws_lcLx {i : Nat} {y : Str} {py spos : Pos} (own : List (Str × Nat)) (hb : blkC c.N c.sc scope own = true) (hy : c.N[i]? = some y) (hyl : c.sc.names.lookup y = some .local) (f : α → D) (h : WE c iter Γ M fun d M1 => ∃ xs : List α, d = .lst (xs.map f) ∧ ∃ Inv : List α → List D → Cells → Prop, LcQ c scope (own.map (·.2)) tg elt ifs Γ xs f Inv M1 fun d M2 => E.nx (Γ.set i (some d)) M2)
    (hsw : ∀ env, env.scope = c.sc → swapsWith (.ListComp elt [⟨tg, iter, ifs, 0⟩] scope pos) (some (.Name y py)) spos.line env = pure true := by (rintro ⟨_, _, _, _, _, _, _, _, _⟩ rfl; rfl)) (hs : ∀ env x, foldedSetIterable iter env x = pure x := by intro _ _; rfl) : WS c (.Assign [.Name y py] (.ListComp elt [⟨tg, iter, ifs, 0⟩] scope pos) spos) E Γ M := .mk fun X S σ H at_ Ds l =>
  PS.to (ps_setLc at_.is.calm at_.is.nd (at_.is.nm hy) (by rw [at_.is.sc]; exact hyl) (hsw _ at_.is.sc) (pi_list wE.pe) (at_.blkOk hb) (fun s H C cl fp => gB.pg s H C cl fp) (fun s H C cl fp => ttB.pts s H C cl fp) (fun s H C cl fp => tB.pe s H C cl fp) (hs _)) (h.run X S σ H at_ _ fun v1 H1 d1 M1 c1 s1 r1 ⟨xs, e1, iv, q⟩ => by
    subst e1
    cases r1 with
    | lst h1 h2 => exact ⟨_, rfl, ⟨_, by rw [at_.is.K]; exact h1.sq⟩, lcL_core at_.is c1 (at_.slots.to s1.to) h1 h2 q fun v H' d M' c2 s2 r2 q2 => l.nx _ _ _ _ c2 ((at_.slots.to (s1.trans s2).to).set r2) (s1.trans s2) q2⟩)
end
end PL
namespace PL
open PySem PySem.Spec PyProof.Rows L2
/-! exceptions of own classes, each with an __init__ that keeps what it is given in what -/
/-- what such an __init__ does -/
def spWhat (C : Addr) : Sp := fun vs H Q _ => ∃ (a : Addr) (v : V), vs = [.ref a, v] ∧ H a = some (exo a C none) ∧ ∀ dx, H dx = none → dx ≠ a → Q .non (upd (upd H dx (exd dx [(("what" : Str), v)])) a (exo a C (some dx)))
/-- an error of the class at S is what «except T» names, T's own or a base's -/
theorem exm_sub {K : PySem.W.Frag} {S T : Addr} (h1 : PySem.W.subIn K (.ref T) (.type "BaseException") = some true) (h2 : PySem.W.isClsIn K T = true) (h3 : PySem.W.typeIn K (.ref T) = some (.type "type")) (h4 : PySem.W.subIn K (.ref S) (.ref T) = some true) :
    PySem.W.exmOne K (.ref S) (.ref T) = some true := by
  have e1 : (PySem.W.subIn K (.ref T) (.type "BaseException") == some true) = true := by rw [h1] <;> rfl
  have e2 : ((PySem.W.clsIn K T).isSome && PySem.W.typeIn K (.ref T) == some (.type "type")) = true := by
    have h2' : (PySem.W.clsIn K T).isSome = true := h2
    rw [h2', h3] <;> rfl
  show (if (PySem.W.subIn K (.ref T) (.type "BaseException") == some true) = true then (if ((PySem.W.clsIn K T).isSome && PySem.W.typeIn K (.ref T) == some (.type "type")) = true then PySem.W.subIn K (.ref S) (.ref T) else none) else none) = some true
  rw [if_pos e1, if_pos e2]
  exact h4
/-- such a class that stands -/
structure XDef (P : Program) (w : World) (K : PySem.W.Frag) (mg : Str → Option Value) (base : Heap) (x : Str) (C : Addr) : Prop where
  mgx : mg x = some (.ref C)
  oex : OexC K C
  init : ∃ fI fd, PySem.W.findIn K (.ref C) "__init__" = some (some (.ref fI)) ∧ PySem.W.typeIn K (.ref fI) = some (.type "function") ∧ FnOk P w K mg base (L2.CX P w) 1 fI fd ["self", "what"] (spWhat C) ∧ Binds K fd ["self", "what"] []
section
variable {P : Program} {w : World} {K : PySem.W.Frag} {mg : Str → Option Value} {base : Heap} {C : Addr}
theorem ok_what {x qual : Str} {st : Stmt} {f : Addr} {fd : FuncData} (F : Fun K x qual st f fd) (Sc : FnScope ["self", "what"] ["self", "what"] (defScope st)) {p1 p2 p3 p4 : Pos} (hb : defBody st = [.Assign [.Attribute (.Name "self" p1) "what" p2] (.Name "what" p3) p4])
    (hs : (defScope st).names.lookup ("self" : Str) = some .local) (hw : (defScope st).names.lookup ("what" : Str) = some .local) (T : OexC K C) (nw : PySem.W.findIn K (.ref C) "what" = some none) : FnOk P w K mg base (L2.CX P w) 1 f fd ["self", "what"] (spWhat C) := by
  refine F.okX Sc (fun vs H Q E h => ?_) (fun cdv A outer s H vs Q E hr h => ⟨tSeq (tOst K "what" (tVar 0) (tVar 1)) tNext, ?_, ?_⟩)
  · obtain ⟨a, v, rfl, _⟩ := h
    rfl
  · rw [hb]
    exact pss_cons (ps_ost (pe_var (i := 0) rfl (.inl hs)) (pe_var (i := 1) rfl (.inl hw))) pss_nil
  · obtain ⟨a, v, rfl, ha, q⟩ := h
    exact ⟨v, rfl, .ref a, rfl, a, C, rfl, T, nw, .inl ⟨ha, fun dx hd hn => q dx hd hn⟩⟩
end
section
variable {c : Ctx} {X : Cx} {S : AS} {Γ Γ' : Gam} {M M' : Cells} {σ σ' : L2.St} {H H' : Hp} {a b e tg : Expr} {es tgs : List Expr} {pos pos' : Pos} {Q : D → Cells → Prop} {R : Bool → Cells → Prop} {x : Str} {E : PEnds} {C : Addr}
/-- raise C(e) -/
theorem ws_raise {p : Pos} (F : XDef c.P c.w c.K c.mg c.base x C) (hk : 2 ≤ c.k) (hg : GlC c.sc x) (h : WE c e Γ M fun d M1 => c.Z C d Γ M1)
    (hdb : (x == ("__debug__" : Str)) = false := by decide) (he : ∀ env, starEach [e] env = (false, eval e env) :: starEach [] env := by intro _; rfl) (hpl : ∀ env, (backTo pos (starEach [] env)).any (·.1) = false := by intro _; rfl) :
    WS c (.Raise (some (.Call (.Name x p) [e] [] pos)) none pos') E Γ M := .mk fun X S σ H at_ Ds l => by
  obtain ⟨W, tk, hW⟩ := at_.land
  obtain ⟨fI, fd, h1, h2, h3, h4⟩ := F.init
  have eP := at_.is.prog; have ew := at_.is.w; have eK := at_.is.K; have emg := at_.is.mg; have eb := at_.is.base
  refine PS.to (L2.ps_raise at_.is.calm tk (pmk_oex (C := C) (fI := fI) (k := 1) (fd := fd) (ps := ["self", "what"]) (sp := spWhat C) (ds := []) (dvs := []) (ta := wA X [e]) (CX := L2.CX X.prog X.w) (by rw [eK]; exact F.oex) (by rw [eK]; exact h1) (by rw [eK]; exact h2) (by rw [eP, ew, eK, emg, eb]; exact h3) (at_.is.room.mono hk) (by rw [eK]; exact h4) .nil (fun pins σ H s e s' _ z => by obtain ⟨_, _, _, _, _, _, _, _, _, _, _, _, z⟩ := z; exact z.elim) (at_.is.gl hg) (at_.is.mgN F.mgx) wA.pa hdb (he _) (hpl _))) ?_
  show wA X [e] σ H _
  refine PA.to (pa_cons wE.pe pa_nil (he _)) (h.run X S σ H at_ _ fun v1 H1 d1 M1 c1 s1 r1 q1 => ?_)
  refine ⟨Nat.le_of_ble_eq_true rfl, fun a ha => ⟨a, v1, rfl, upd_same, fun dx hd hne => ⟨rfl, dx, [(("what" : Str), v1)], upd_same, ?_, ?_, ?_⟩⟩⟩
  · rw [upd_ne hne, upd_same]
  · rw [upd_ne hne] at hd; exact hd
  · rw [upd_ne hne] at hd
    have eH : upd (del (upd (upd (upd H1 a (exo a C none)) dx (exd dx [(("what" : Str), v1)])) a (exo a C (some dx))) a) dx (.xd [(("what" : Str), v1)]) = upd H1 dx (.xd [(("what" : Str), v1)]) := by
      funext b
      by_cases h1 : b = dx
      · subst h1; rw [upd_same, upd_same]
      · rw [upd_ne h1, upd_ne h1]
        by_cases h2 : b = a
        · subst h2; rw [del_same, ha]
        · rw [del_ne h2, upd_ne h2, upd_ne h1, upd_ne h2]
    rw [eH]
    have st : Step M1 M1 H1 (upd H1 dx (.xd [(("what" : Str), v1)])) := Step.same (same_new hd)
    exact hW C dx v1 d1 σ _ Γ M1 (c1.new hd) (at_.slots.to (s1.trans st).to) (s1.trans st) upd_same (r1.to st.to) q1
/-- y and z, variables that hold truths -/
theorem we_andV {i j : Nat} {y z : Str} {p q : Pos} {k l : Bool} (hy : c.N[i]? = some y) (vy : VisC c.sc y) (gy : Γ[i]? = some (some (.bl k))) (hz : c.N[j]? = some z) (vz : VisC c.sc z) (gz : Γ[j]? = some (some (.bl l))) (h : Q (.bl (k && l)) M)
    (d1 : (y == ("__debug__" : Str)) = false := by decide) (d2 : (y == ("__classdict__" : Str)) = false := by decide) (d3 : (z == ("__debug__" : Str)) = false := by decide) (d4 : (z == ("__classdict__" : Str)) = false := by decide) : WE c (.BoolOp .And [.Name y p, .Name z q] pos) Γ M Q :=
  we_and (we_var hy vy gy ⟨k, rfl, fun e => by subst e; exact we_one (we_var hz vz gz h d3 d4), fun e => by subst e; exact h⟩ d1 d2)
/-- the context of a try's body: what is caught goes on with Mid -/
def Ctx.tr (c : Ctx) (mt : Addr → Option Bool) (Mid : Addr → D → Gam → Cells → Prop) : Ctx := ⟨c.P, c.w, c.K, c.mg, c.base, c.N, c.sc, c.k, fun C d Γ M => (mt C = some true ∧ Mid C d Γ M) ∨ (mt C = some false ∧ c.Z C d Γ M), c.own, c.top⟩
/-- try: .. except x: y = k -/
theorem ws_tryB {CN : Addr} {i : Nat} {y : Str} {body : List Stmt} {np p1 p2 p3 : Pos} {v : Bool} {j : Nat} (ht : c.top = true) (hgx : GlC c.sc x) (hm : c.mg x = some (.ref CN)) (hy : c.N[i]? = some y) (hl : LocC c y)
    (h : WSs (c.tr (fun C => PySem.W.exmOne c.K (.ref C) (.ref CN)) fun _ _ Γ1 M1 => E.nx (Γ1.set i (some (.bl v))) M1) body E Γ M) (hdb : (x == ("__debug__" : Str)) = false := by decide)
    (hs : ∀ env, swapsWith (.Constant (.bool v) j p2) (some (.Name y p1)) p3.line env = pure false := by intro _; rfl) :
    WS c (.Try body [.ExceptHandler (some (.Name x np)) none [.Assign [.Name y p1] (.Constant (.bool v) j p2) p3] pos'] [] [] pos) E Γ M := .mk fun X S σ H at_ Ds l => by
  obtain ⟨W, tk, hW⟩ := at_.land
  obtain ⟨hst, hfr⟩ := at_.is.stk ht
  refine PS.to (L2.ps_try_only (c := .ref CN) (tb := fun W D σ H => ∀ pn xe, Takes (X.tr pn xe) W → PassesOwn (model X.prog X.w) X.A X.env xe → wSs (X.tr pn xe) body D σ H) (ts := fun _ _ _ => tSeq (tAsg (tC (.bl v)) (gName i)) tNext) (Wout := W) hst hfr ⟨at_.is.gl hgx, hdb, .inl (at_.is.mgN hm)⟩ tk (fun W pn xe t po => ⟨fun pins s σ H D I h => h pn xe t po pins s I⟩) (fun a oe cls d pn hz hf => ?_)) ?_
  · exact pss_cons (L2.ps_set (X := X.suite a ((a, oe) :: pn)) at_.is.nd (at_.is.nm hy) (at_.is.loc hl) pe_bl (hs _) (at_.is.st hl)) pss_nil
  · intro pn xe t po
    refine h.run (X.tr pn xe) S σ H ⟨⟨at_.is.prog, at_.is.w, at_.is.K, at_.is.mg, at_.is.base, at_.is.N, at_.is.sc, at_.is.room, at_.is.calm, at_.is.nd, at_.is.fn, po, at_.is.stk⟩, at_.core, at_.slots, ⟨_, t, fun C dd v0 d σ' H' Γ' M' c1 sl1 st1 hx r1 z => ?_⟩⟩ Ds ⟨l.nx, l.rt, l.bk, l.ct⟩
    rw [at_.is.K]
    rcases z with ⟨z1, z2⟩ | ⟨z1, z2⟩
    · exact ⟨true, z1, fun _ a na => l.nx _ _ _ _ c1 (sl1.set .bl) st1 z2, fun z => (by cases z)⟩
    · exact ⟨false, z1, fun z => (by cases z), fun _ => hW C dd v0 d σ' H' Γ' M' c1 sl1 st1 hx r1 z2⟩
end
end PL
namespace DK
open PySem PL
/-! Looks, Darks: plain laws -/
abbrev Look := Str × Int × Int
def lkD (l : Look) : D := .tup [.str l.1, .int l.2.1, .int l.2.2]
def prD (p : Int × Int) : D := .tup [.int p.1, .int p.2]
def optD : Option Int → D
  | none => .non
  | some m => .int m
theorem beq_dec {α : Type} [BEq α] [LawfulBEq α] [DecidableEq α] (a b : α) : (a == b) = decide (a = b) := by
  rw [Bool.eq_iff_iff]; simp
theorem eqv_str (a b : Str) : D.eqv (.str a) (.str b) = decide (a = b) := by
  simp [D.eqv, D.py, PyData.eqv, beq_dec]
theorem eqv_int (a b : Int) : D.eqv (.int a) (.int b) = decide (a = b) := by
  simp [D.eqv, D.py, PyData.eqv, beq_dec]
theorem eqv_lk (a b : Look) : D.eqv (lkD a) (lkD b) = decide (a = b) := by
  obtain ⟨a1, a2, a3⟩ := a
  obtain ⟨b1, b2, b3⟩ := b
  simp [lkD, D.eqv, D.py, D.pys, PyData.eqv, PyData.eqvAll, beq_dec]
/-- the greatest of ints, if any -/
def IsMax (xs : List Int) : Option Int → Prop
  | none => xs = []
  | some m => m ∈ xs ∧ ∀ y ∈ xs, y ≤ m
def IsMin (xs : List Int) : Option Int → Prop
  | none => xs = []
  | some m => m ∈ xs ∧ ∀ y ∈ xs, m ≤ y
theorem IsMax.uniq {xs ys : List Int} (h : ∀ v, v ∈ xs ↔ v ∈ ys) : ∀ {o o' : Option Int}, IsMax xs o → IsMax ys o' → o = o'
  | none, none, _, _ => rfl
  | none, some m, h1, h2 => by
    have := (h m).mpr h2.1
    rw [h1] at this
    cases this
  | some m, none, h1, h2 => by
    have := (h m).mp h1.1
    rw [h2] at this
    cases this
  | some m, some m', h1, h2 => by
    have a := h2.2 m ((h m).mp h1.1)
    have b := h1.2 m' ((h m').mpr h2.1)
    rw [Int.le_antisymm a b]
theorem IsMin.uniq {xs ys : List Int} (h : ∀ v, v ∈ xs ↔ v ∈ ys) : ∀ {o o' : Option Int}, IsMin xs o → IsMin ys o' → o = o'
  | none, none, _, _ => rfl
  | none, some m, h1, h2 => by
    have := (h m).mpr h2.1
    rw [h1] at this
    cases this
  | some m, none, h1, h2 => by
    have := (h m).mp h1.1
    rw [h2] at this
    cases this
  | some m, some m', h1, h2 => by
    have a := h2.2 m ((h m).mp h1.1)
    have b := h1.2 m' ((h m').mpr h2.1)
    rw [Int.le_antisymm b a]
def lowv (n x : Int) (p : Int × Int) : Int := p.2 + (x - p.1) / n * n
def highv (n x : Int) (p : Int × Int) : Int := p.2 - (p.1 - x) / n * n
def nsP (l : Look) : Bool := !(D.eqv (.str l.1) (.str "upto"))
def nbP (l : Look) : Bool := !(D.eqv (.str l.1) (.str "from"))
def notShort (L : List Look) : List (Int × Int) := (L.filter nsP).map Prod.snd
def notBeyond (L : List Look) : List (Int × Int) := (L.filter nbP).map Prod.snd
def home (n : Int) (l : Look) : Look := (l.1, l.2.1 - l.2.1 / n * n, l.2.2 - l.2.1 / n * n)
/-- one look from below, one from above, that can't both be so -/
def aprt1 (n : Int) (s f : Look) : Bool := nsP s && nbP f && decide (lowv n f.2.1 s.2 > f.2.2)
def apart (n : Int) (a b : Look) : Bool := aprt1 n a b || aprt1 n b a
theorem home_low {n : Int} (hn : 0 < n) (x : Int) (l : Look) : lowv n x (home n l).2 = lowv n x l.2 := by
  show l.2.2 - l.2.1 / n * n + (x - (l.2.1 - l.2.1 / n * n)) / n * n = l.2.2 + (x - l.2.1) / n * n
  have : x - (l.2.1 - l.2.1 / n * n) = (x - l.2.1) + l.2.1 / n * n := by omega
  rw [this, Int.add_mul_ediv_right _ _ (by omega), Int.add_mul]
  omega
theorem home_high {n : Int} (hn : 0 < n) (x : Int) (l : Look) : highv n x (home n l).2 = highv n x l.2 := by
  show l.2.2 - l.2.1 / n * n - (l.2.1 - l.2.1 / n * n - x) / n * n = l.2.2 - (l.2.1 - x) / n * n
  have : l.2.1 - l.2.1 / n * n - x = (l.2.1 - x) + (-(l.2.1 / n)) * n := by rw [Int.neg_mul]; omega
  rw [this, Int.add_mul_ediv_right _ _ (by omega), Int.add_mul, Int.neg_mul]
  omega
/-- a hand: nobody overtakes, all turns alike -/
structure Hand (n : Int) (F : Int → Int) : Prop where
  mono : ∀ x y, x ≤ y → F x ≤ F y
  turn : ∀ x k, F (x + k * n) = F x + k * n
/-- a look that is so of a hand -/
structure Ok (F : Int → Int) (l : Look) : Prop where
  ns : nsP l = true → l.2.2 ≤ F l.2.1
  nb : nbP l = true → F l.2.1 ≤ l.2.2
theorem Ok.home {n : Int} {F : Int → Int} {l : Look} (h : Hand n F) (o : Ok F l) : Ok F (home n l) := by
  have e : F (l.2.1 - l.2.1 / n * n) = F l.2.1 - l.2.1 / n * n := by
    have := h.turn l.2.1 (-(l.2.1 / n))
    rw [Int.neg_mul, ← Int.sub_eq_add_neg, ← Int.sub_eq_add_neg] at this
    exact this
  refine ⟨fun z => ?_, fun z => ?_⟩
  · show l.2.2 - _ ≤ F (l.2.1 - _)
    rw [e]
    have := o.ns z
    omega
  · show F (l.2.1 - _) ≤ l.2.2 - _
    rw [e]
    have := o.nb z
    omega
theorem Ok.aprt1 {n : Int} {F : Int → Int} {a b : Look} (hn : 0 < n) (h : Hand n F) (oa : Ok F a) (ob : Ok F b) : aprt1 n a b = false := by
  unfold DK.aprt1
  cases ha : nsP a with
  | false => rfl
  | true =>
    cases hb : nbP b with
    | false => rfl
    | true =>
      have h1 := oa.ns ha
      have h2 := ob.nb hb
      have h3 := h.turn a.2.1 ((b.2.1 - a.2.1) / n)
      have h4 : (b.2.1 - a.2.1) / n * n ≤ b.2.1 - a.2.1 := Int.ediv_mul_le _ (by omega)
      have h5 := h.mono (a.2.1 + (b.2.1 - a.2.1) / n * n) b.2.1 (by omega)
      have h6 : ¬ (lowv n b.2.1 a.2 > b.2.2) := by
        unfold lowv
        rw [h3] at h5
        omega
      exact decide_eq_false h6
theorem Ok.apart {n : Int} {F : Int → Int} {a b : Look} (hn : 0 < n) (h : Hand n F) (oa : Ok F a) (ob : Ok F b) : apart n a b = false := by
  unfold DK.apart
  rw [Ok.aprt1 hn h oa ob, Ok.aprt1 hn h ob oa]
  rfl
/-- the heard, by one look more -/
def hearL (n : Int) (L : List Look) (l : Look) : List Look := if home n l ∈ L then L else (L ++ [home n l]).mergeSort fun a b => leD (lkD a) (lkD b)
theorem mem_hearL {n : Int} {L : List Look} {l z : Look} : z ∈ hearL n L l ↔ z ∈ L ∨ z = home n l := by
  unfold hearL
  split
  · rename_i h
    refine ⟨.inl, ?_⟩
    rintro (h' | rfl)
    · exact h'
    · exact h
  · rw [(List.mergeSort_perm _ _).mem_iff]
    simp
def hearAll (n : Int) (ks : List Look) : List Look := ks.foldl (hearL n) []
theorem mem_hearAll {n : Int} {ks : List Look} {z : Look} : z ∈ hearAll n ks ↔ ∃ l ∈ ks, z = home n l := by
  have : ∀ (ks L : List Look), z ∈ ks.foldl (hearL n) L ↔ z ∈ L ∨ ∃ l ∈ ks, z = home n l := by
    intro ks
    induction ks with
    | nil => intro L; simp
    | cons k ks ih =>
      intro L
      rw [List.foldl_cons, ih, mem_hearL]
      simp only [List.mem_cons, exists_eq_or_imp]
      rw [or_assoc]
  rw [hearAll, this]
  simp
theorem length_hearL {n : Int} {L : List Look} {l : Look} : (hearL n L l).length ≤ L.length + 1 := by
  unfold hearL
  split
  · omega
  · rw [List.length_mergeSort]; simp
/-- least and greatest, of the heard as of the told -/
theorem least_same {n x : Int} (hn : 0 < n) {L ks : List Look} (h : ∀ z, z ∈ L ↔ ∃ l ∈ ks, z = home n l) (v : Int) : v ∈ (notShort L).map (lowv n x) ↔ v ∈ (notShort ks).map (lowv n x) := by
  simp only [notShort, List.mem_map, List.mem_filter]
  constructor
  · rintro ⟨p, ⟨z, ⟨hz, hs⟩, rfl⟩, rfl⟩
    obtain ⟨l, hl, rfl⟩ := (h z).mp hz
    exact ⟨l.2, ⟨l, ⟨hl, hs⟩, rfl⟩, (home_low hn x l).symm⟩
  · rintro ⟨p, ⟨l, ⟨hl, hs⟩, rfl⟩, rfl⟩
    exact ⟨(home n l).2, ⟨home n l, ⟨(h _).mpr ⟨l, hl, rfl⟩, hs⟩, rfl⟩, home_low hn x l⟩
theorem greatest_same {n x : Int} (hn : 0 < n) {L ks : List Look} (h : ∀ z, z ∈ L ↔ ∃ l ∈ ks, z = home n l) (v : Int) : v ∈ (notBeyond L).map (highv n x) ↔ v ∈ (notBeyond ks).map (highv n x) := by
  simp only [notBeyond, List.mem_map, List.mem_filter]
  constructor
  · rintro ⟨p, ⟨z, ⟨hz, hs⟩, rfl⟩, rfl⟩
    obtain ⟨l, hl, rfl⟩ := (h z).mp hz
    exact ⟨l.2, ⟨l, ⟨hl, hs⟩, rfl⟩, (home_high hn x l).symm⟩
  · rintro ⟨p, ⟨l, ⟨hl, hs⟩, rfl⟩, rfl⟩
    exact ⟨(home n l).2, ⟨home n l, ⟨(h _).mpr ⟨l, hl, rfl⟩, hs⟩, rfl⟩, home_high hn x l⟩
/-- the greatest of steps turned about leads as a hand -/
theorem hand_of {n : Int} (hn : 0 < n) {steps : List (Int × Int)} {F : Int → Int} (h : ∀ x, (∃ p ∈ steps, lowv n x p = F x) ∧ ∀ p ∈ steps, lowv n x p ≤ F x) : Hand n F := by
  refine ⟨fun x y hxy => ?_, fun x k => ?_⟩
  · obtain ⟨p, hp, e⟩ := (h x).1
    have h2 := (h y).2 p hp
    have h3 : (x - p.1) / n ≤ (y - p.1) / n := Int.ediv_le_ediv hn (by omega)
    have h4 : (x - p.1) / n * n ≤ (y - p.1) / n * n := Int.mul_le_mul_of_nonneg_right h3 (by omega)
    unfold lowv at *
    omega
  · have sh : ∀ p : Int × Int, lowv n (x + k * n) p = lowv n x p + k * n := fun p => by
      unfold lowv
      rw [show x + k * n - p.1 = (x - p.1) + k * n by omega, Int.add_mul_ediv_right _ _ (by omega), Int.add_mul]
      omega
    obtain ⟨p, hp, e⟩ := (h x).1
    obtain ⟨p', hp', e'⟩ := (h (x + k * n)).1
    have h2 := (h (x + k * n)).2 p hp
    have h3 := (h x).2 p' hp'
    rw [sh] at h2 e'
    omega
theorem eqv_nil_cons (x : D) (xs : List D) : (D.lst (x :: xs)).eqv (.lst []) = false := by
  simp [D.eqv, D.py, D.pys, PyData.eqv, PyData.eqvAll]
theorem eqv_nil_nil : (D.lst []).eqv (.lst []) = true := by
  simp [D.eqv, D.py, D.pys, PyData.eqv, PyData.eqvAll]
theorem alike_lk (L : List Look) (z : Look) : PySem.W.AllAlike ((L.map lkD ++ [lkD z]).map D.py) := by
  have e : (L.map lkD ++ [lkD z]).map D.py = (L ++ [z]).map fun l => (lkD l).py := by simp
  rw [e]
  exact PySem.W.AllAlike.of fun _ _ => rfl
theorem sortable_lk (L : List Look) (z : Look) : PySem.W.Sortable ((L.map lkD ++ [lkD z]).map D.py) := by
  have e : (L.map lkD ++ [lkD z]).map D.py = (L ++ [z]).map fun l => (lkD l).py := by simp
  rw [e]
  exact PySem.W.Sortable.tuples fun b => ⟨_, _, rfl⟩
theorem sort_lk (L : List Look) (z : Look) : (L.map lkD ++ [lkD z]).mergeSort leD = ((L ++ [z]).mergeSort fun a b => leD (lkD a) (lkD b)).map lkD := by
  rw [List.map_mergeSort (f := lkD) (s := leD) fun _ _ _ _ => rfl]
  simp
theorem any_lk (L : List Look) (z : Look) : ((L.map lkD).any fun y => y.eqv (lkD z)) = decide (z ∈ L) := by
  rw [Bool.eq_iff_iff]
  simp only [List.any_map, List.any_eq_true, Function.comp_apply, eqv_lk, decide_eq_true_eq]
  exact ⟨fun ⟨x, hx, e⟩ => e ▸ hx, fun h => ⟨z, h, rfl⟩⟩
def optL : Option Look → D
  | none => .non
  | some z => lkD z
abbrev dkF (n : Int) (L : List Look) : List (Str × D) := [("turn", .int n), ("heard", .lst (L.map lkD))]
def darkM (p C : Addr) (n : Int) (L : List Look) : Cells := [(p, .ins C (dkF n L))]
/-- where the steps lead -/
def leadF (n : Int) (ps : List (Int × Int)) (x : Int) : Int := ((ps.map (lowv n x)).max?).getD 0
theorem leadF_ok {n : Int} {ps : List (Int × Int)} (hp : ps ≠ []) (x : Int) : (∃ p ∈ ps, lowv n x p = leadF n ps x) ∧ ∀ p ∈ ps, lowv n x p ≤ leadF n ps x := by
  unfold leadF
  cases e : (ps.map (lowv n x)).max? with
  | none =>
    rw [List.max?_eq_none_iff] at e
    exact absurd (List.map_eq_nil_iff.mp e) hp
  | some m =>
    obtain ⟨h1, h2⟩ := List.max?_eq_some_iff.mp e
    refine ⟨List.mem_map.mp h1, fun p hm => h2 _ (List.mem_map.mpr ⟨p, hm, rfl⟩)⟩
theorem leadF_hand {n : Int} (hn : 0 < n) {ps : List (Int × Int)} (hp : ps ≠ []) : Hand n (leadF n ps) := hand_of hn fun x => leadF_ok hp x
theorem leadF_eq {n : Int} {ps : List (Int × Int)} (hp : ps ≠ []) {x m : Int} (h1 : ∃ p ∈ ps, lowv n x p = m) (h2 : ∀ p ∈ ps, lowv n x p ≤ m) : m = leadF n ps x := by
  obtain ⟨⟨p, hp1, e⟩, h3⟩ := leadF_ok hp x (n := n)
  obtain ⟨p', hp', e'⟩ := h1
  have a := h2 p hp1
  have b := h3 p' hp'
  omega
theorem nodup_len : ∀ {xs ys : List Int}, xs.Pairwise (· < ·) → (∀ x ∈ xs, x ∈ ys) → xs.length ≤ ys.length
  | [], _, _, _ => Nat.zero_le _
  | x :: xs, ys, h, hs => by
    obtain ⟨h1, h2⟩ := List.pairwise_cons.mp h
    have hx := hs x List.mem_cons_self
    have := nodup_len (xs := xs) (ys := ys.erase x) h2 fun z hz => by
      have := h1 z hz
      exact (List.mem_erase_of_ne (by omega)).mpr (hs z (List.mem_cons_of_mem _ hz))
    rw [List.length_erase_of_mem hx] at this
    have : 0 < ys.length := List.length_pos_of_mem hx
    simp only [List.length_cons]
    omega
theorem length_hearAll {n : Int} (ks : List Look) : (hearAll n ks).length ≤ ks.length := by
  have : ∀ (ks L : List Look), (ks.foldl (hearL n) L).length ≤ L.length + ks.length := by
    intro ks
    induction ks with
    | nil => intro L; simp
    | cons k ks ih =>
      intro L
      rw [List.foldl_cons]
      have h1 := ih (hearL n L k)
      have h2 := length_hearL (n := n) (L := L) (l := k)
      simp only [List.length_cons]
      omega
  have h := this ks []
  simp only [List.length_nil, Nat.zero_add] at h
  exact h
def lsP (l : Look) : Bool := [D.str "at", D.str "from"].any fun z => z.eqv (.str l.1)
def lgP (l : Look) : Bool := [D.str "at", D.str "upto"].any fun z => z.eqv (.str l.1)
theorem filter_ls {L : List Look} (h : ∀ l ∈ L, l.1 = "at" ∨ l.1 = "from" ∨ l.1 = "upto") : L.filter lsP = L.filter nsP := by
  refine List.filter_congr fun l hl => ?_
  obtain ⟨a, b⟩ := l
  rcases h _ hl with e | e | e <;> (simp only at e; subst e; simp [lsP, nsP, eqv_str]; try decide)
theorem filter_lg {L : List Look} (h : ∀ l ∈ L, l.1 = "at" ∨ l.1 = "from" ∨ l.1 = "upto") : L.filter lgP = L.filter nbP := by
  refine List.filter_congr fun l hl => ?_
  obtain ⟨a, b⟩ := l
  rcases h _ hl with e | e | e <;> (simp only at e; subst e; simp [lgP, nbP, eqv_str]; try decide)
theorem sm_opt (n : Nat) (o : Option Int) : (optD o).sm n = true := by cases o <;> cases n <;> rfl
theorem alike_lks : ∀ L : List Look, PySem.W.alikeAll (D.pys (L.map lkD)) (D.pys (L.map lkD)) = true
  | [] => rfl
  | l :: L => by
    show (PySem.W.alike (lkD l).py (lkD l).py && PySem.W.alikeAll (D.pys (L.map lkD)) (D.pys (L.map lkD))) = true
    rw [alike_lks L]
    rfl
theorem eqv_lks (L : List Look) : (D.lst (L.map lkD)).eqv (.lst (L.map lkD)) = true :=
  PySem.W.eqv_refl_alike (.list (D.pys (L.map lkD))) (alike_lks L)
end DK
namespace DK
open PySem PL
/-! may and sure, by least and greatest -/
def under (o : Option Int) (y : Int) : Bool := match o with
  | none => true
  | some v => decide (v ≤ y)
def above (o : Option Int) (y : Int) : Bool := match o with
  | none => true
  | some v => decide (y ≤ v)
def sUnder (o : Option Int) (y : Int) : Bool := match o with
  | none => false
  | some v => decide (y ≤ v)
def sAbove (o : Option Int) (y : Int) : Bool := match o with
  | none => false
  | some v => decide (v ≤ y)
def dueMay (x : Str) (o1 o2 : Option Int) (y : Int) : Bool := if x = "at" then under o1 y && above o2 y else if x = "from" then above o2 y else under o1 y
def dueSure (x : Str) (o1 o2 : Option Int) (y : Int) : Bool := if x = "at" then sUnder o1 y && sAbove o2 y else if x = "from" then sUnder o1 y else sAbove o2 y
theorem isMax_ex : ∀ xs : List Int, ∃ o, IsMax xs o
  | [] => ⟨none, rfl⟩
  | x :: xs => by
    obtain ⟨o, h⟩ := isMax_ex xs
    cases o with
    | none =>
      have h : xs = [] := h
      subst h
      exact ⟨some x, by simp, by simp⟩
    | some m =>
      by_cases c : m ≤ x
      · refine ⟨some x, by simp, fun y hy => ?_⟩
        rcases List.mem_cons.mp hy with rfl | hy
        · exact Int.le_refl _
        · exact Int.le_trans (h.2 y hy) c
      · refine ⟨some m, List.mem_cons_of_mem _ h.1, fun y hy => ?_⟩
        rcases List.mem_cons.mp hy with rfl | hy
        · omega
        · exact h.2 y hy
theorem isMin_ex : ∀ xs : List Int, ∃ o, IsMin xs o
  | [] => ⟨none, rfl⟩
  | x :: xs => by
    obtain ⟨o, h⟩ := isMin_ex xs
    cases o with
    | none =>
      have h : xs = [] := h
      subst h
      exact ⟨some x, by simp, by simp⟩
    | some m =>
      by_cases c : x ≤ m
      · refine ⟨some x, by simp, fun y hy => ?_⟩
        rcases List.mem_cons.mp hy with rfl | hy
        · exact Int.le_refl _
        · exact Int.le_trans c (h.2 y hy)
      · refine ⟨some m, List.mem_cons_of_mem _ h.1, fun y hy => ?_⟩
        rcases List.mem_cons.mp hy with rfl | hy
        · omega
        · exact h.2 y hy
theorem apart_home {n : Int} (hn : 0 < n) (a b : Look) : apart n (home n a) (home n b) = apart n a b := by
  have one : ∀ a b : Look, aprt1 n (home n a) (home n b) = aprt1 n a b := by
    intro a b
    unfold aprt1
    have e1 : nsP (home n a) = nsP a := rfl
    have e2 : nbP (home n b) = nbP b := rfl
    have e3 : lowv n (home n b).2.1 (home n a).2 = lowv n b.2.1 a.2 - b.2.1 / n * n := by
      rw [home_low hn]
      show a.2.2 + (b.2.1 - b.2.1 / n * n - a.2.1) / n * n = a.2.2 + (b.2.1 - a.2.1) / n * n - b.2.1 / n * n
      rw [show b.2.1 - b.2.1 / n * n - a.2.1 = b.2.1 - a.2.1 + (-(b.2.1 / n)) * n by rw [Int.neg_mul]; omega, Int.add_mul_ediv_right _ _ (by omega), Int.add_mul, Int.neg_mul]
      omega
    have e4 : (home n b).2.2 = b.2.2 - b.2.1 / n * n := rfl
    rw [e1, e2, e3, e4]
    congr 1
    exact decide_eq_decide.mpr (by omega)
  unfold apart
  rw [one, one]
/-- a look goes with the heard just where it clashes with none of the told -/
def mayB (n : Int) (L : List Look) (l : Look) : Bool := (optL (L.find? fun z => apart n (home n l) z)).isNon
theorem mayB_eq {n : Int} (hn : 0 < n) (ks : List Look) (l : Look) : mayB n (hearAll n ks) l = !(ks.any fun z => apart n l z) := by
  unfold mayB
  cases e : (hearAll n ks).find? fun z => apart n (home n l) z with
  | none =>
    have h := List.find?_eq_none.mp e
    have : (ks.any fun z => apart n l z) = false := by
      rw [List.any_eq_false]
      intro z hz
      have := h (home n z) (mem_hearAll.mpr ⟨z, hz, rfl⟩)
      rw [apart_home hn] at this
      exact this
    rw [this]
    rfl
  | some z =>
    have h1 := List.find?_some e
    obtain ⟨k, hk, rfl⟩ := mem_hearAll.mp (List.mem_of_find?_eq_some e)
    rw [apart_home hn] at h1
    have : (ks.any fun z => apart n l z) = true := List.any_eq_true.mpr ⟨k, hk, h1⟩
    rw [this]
    rfl
theorem under_iff {xs : List Int} {o : Option Int} (h : IsMax xs o) (y : Int) : under o y = true ↔ ∀ v ∈ xs, v ≤ y := by
  cases o with
  | none =>
    have h : xs = [] := h
    subst h
    simp [under]
  | some m =>
    simp only [under, decide_eq_true_eq]
    exact ⟨fun a v hv => Int.le_trans (h.2 v hv) a, fun a => a m h.1⟩
theorem above_iff {xs : List Int} {o : Option Int} (h : IsMin xs o) (y : Int) : above o y = true ↔ ∀ v ∈ xs, y ≤ v := by
  cases o with
  | none =>
    have h : xs = [] := h
    subst h
    simp [above]
  | some m =>
    simp only [above, decide_eq_true_eq]
    exact ⟨fun a v hv => Int.le_trans a (h.2 v hv), fun a => a m h.1⟩
theorem may_dues {n : Int} (hn : 0 < n) {ks : List Look} {l : Look} (hw : l.1 = "at" ∨ l.1 = "from" ∨ l.1 = "upto") {o1 o2 : Option Int} (h1 : IsMax ((notShort ks).map (lowv n l.2.1)) o1) (h2 : IsMin ((notBeyond ks).map (highv n l.2.1)) o2) :
    mayB n (hearAll n ks) l = dueMay l.1 o1 o2 l.2.2 := by
  have ns : nsP l = true ∨ nsP l = false := by cases nsP l <;> simp
  have key : mayB n (hearAll n ks) l = ((!nsP l || above o2 l.2.2) && (!nbP l || under o1 l.2.2)) := by
    rw [mayB_eq hn, Bool.eq_iff_iff]
    simp only [Bool.not_eq_true', List.any_eq_false, Bool.and_eq_true, Bool.or_eq_true, above_iff h2, under_iff h1]
    have m1 : ∀ v, v ∈ (notShort ks).map (lowv n l.2.1) ↔ ∃ z ∈ ks, nsP z = true ∧ lowv n l.2.1 z.2 = v := fun v => by
      simp only [notShort, List.mem_map, List.mem_filter]
      constructor
      · rintro ⟨p, ⟨z, ⟨a, b⟩, rfl⟩, rfl⟩
        exact ⟨z, a, b, rfl⟩
      · rintro ⟨z, a, b, rfl⟩
        exact ⟨z.2, ⟨z, ⟨a, b⟩, rfl⟩, rfl⟩
    have m2 : ∀ v, v ∈ (notBeyond ks).map (highv n l.2.1) ↔ ∃ z ∈ ks, nbP z = true ∧ highv n l.2.1 z.2 = v := fun v => by
      simp only [notBeyond, List.mem_map, List.mem_filter]
      constructor
      · rintro ⟨p, ⟨z, ⟨a, b⟩, rfl⟩, rfl⟩
        exact ⟨z, a, b, rfl⟩
      · rintro ⟨z, a, b, rfl⟩
        exact ⟨z.2, ⟨z, ⟨a, b⟩, rfl⟩, rfl⟩
    have hl : ∀ z : Look, lowv n z.2.1 l.2 > z.2.2 ↔ highv n l.2.1 z.2 < l.2.2 := fun z => by
      show l.2.2 + (z.2.1 - l.2.1) / n * n > z.2.2 ↔ z.2.2 - (z.2.1 - l.2.1) / n * n < l.2.2
      omega
    have ap : ∀ z : Look, apart n l z = true ↔ (nsP l = true ∧ nbP z = true ∧ highv n l.2.1 z.2 < l.2.2) ∨ (nbP l = true ∧ nsP z = true ∧ l.2.2 < lowv n l.2.1 z.2) := fun z => by
      unfold apart aprt1
      simp only [Bool.or_eq_true, Bool.and_eq_true, decide_eq_true_eq, hl]
      constructor
      · rintro (⟨⟨a, b⟩, c⟩ | ⟨⟨a, b⟩, c⟩)
        · exact .inl ⟨a, b, c⟩
        · exact .inr ⟨b, a, c⟩
      · rintro (⟨a, b, c⟩ | ⟨a, b, c⟩)
        · exact .inl ⟨⟨a, b⟩, c⟩
        · exact .inr ⟨⟨b, a⟩, c⟩
    simp only [ap, m1, m2]
    constructor
    · intro h
      refine ⟨?_, ?_⟩
      · cases e : nsP l with
        | false => exact .inl rfl
        | true =>
          refine .inr ?_
          rintro v ⟨z, hz, hb, rfl⟩
          have := h z hz
          rcases Int.lt_or_le (highv n l.2.1 z.2) l.2.2 with c | c
          · exact absurd (.inl ⟨e, hb, c⟩) this
          · exact c
      · cases e : nbP l with
        | false => exact .inl rfl
        | true =>
          refine .inr ?_
          rintro v ⟨z, hz, hb, rfl⟩
          have := h z hz
          rcases Int.lt_or_le l.2.2 (lowv n l.2.1 z.2) with c | c
          · exact absurd (.inr ⟨e, hb, c⟩) this
          · exact c
    · rintro ⟨a, b⟩ z hz (⟨e1, e2, e3⟩ | ⟨e1, e2, e3⟩)
      · rcases a with a | a
        · rw [e1] at a; cases a
        · have := a _ ⟨z, hz, e2, rfl⟩
          omega
      · rcases b with b | b
        · rw [e1] at b; cases b
        · have := b _ ⟨z, hz, e2, rfl⟩
          omega
  rw [key]
  obtain ⟨w, x, y⟩ := l
  simp only at hw
  rcases hw with rfl | rfl | rfl
  · have e1 : nsP (("at" : Str), x, y) = true := by simp [nsP, eqv_str]; try decide
    have e2 : nbP (("at" : Str), x, y) = true := by simp [nbP, eqv_str]; try decide
    simp only [e1, e2, dueMay, if_true, Bool.not_true, Bool.false_or]
    exact Bool.and_comm _ _
  · have e1 : nsP (("from" : Str), x, y) = true := by simp [nsP, eqv_str]; try decide
    have e2 : nbP (("from" : Str), x, y) = false := by simp [nbP, eqv_str]; try decide
    have e3 : dueMay "from" o1 o2 y = above o2 y := rfl
    simp only [e1, e2, e3, Bool.not_true, Bool.false_or, Bool.not_false, Bool.true_or, Bool.and_true]
  · have e1 : nsP (("upto" : Str), x, y) = false := by simp [nsP, eqv_str]; try decide
    have e2 : nbP (("upto" : Str), x, y) = true := by simp [nbP, eqv_str]; try decide
    have e3 : dueMay "upto" o1 o2 y = under o1 y := rfl
    simp only [e1, e2, e3, Bool.not_true, Bool.false_or, Bool.not_false, Bool.true_or, Bool.true_and]
/-- the told ones among two -/
def vals (os : List (Option Int)) : List Int := os.filterMap id
theorem vals_D (os : List (Option Int)) : (os.filter fun o => !(optD o).isNon).map optD = (vals os).map D.int := by
  induction os with
  | nil => rfl
  | cons o os ih =>
    cases o with
    | none => exact ih
    | some v =>
      exact congrArg (D.int v :: ·) ih
theorem mem_vals {os : List (Option Int)} {v : Int} : v ∈ vals os ↔ some v ∈ os := by
  simp [vals]
end DK
namespace DK
open PySem PL
/-! looks moved, grown, the other way about -/
def shift (o : Int) (l : Look) : Look := (l.1, l.2.1 + o, l.2.2 + o)
def grow (m : Int) (l : Look) : Look := (l.1, l.2.1 * m, l.2.2 * m)
def otherW (x : Str) : Str := if x = "from" then "upto" else if x = "upto" then "from" else x
def mirr (l : Look) : Look := (otherW l.1, 0 - l.2.1, 0 - l.2.2)
theorem hand_shift {n o : Int} {F : Int → Int} (h : Hand n F) : Hand n fun x => F (x - o) + o := by
  refine ⟨fun x y hxy => ?_, fun x k => ?_⟩
  · have := h.mono (x - o) (y - o) (by omega)
    show F (x - o) + o ≤ F (y - o) + o
    omega
  · have := h.turn (x - o) k
    show F (x + k * n - o) + o = F (x - o) + o + k * n
    rw [show x + k * n - o = x - o + k * n by omega, this]
    omega
theorem ok_shift {o : Int} {F : Int → Int} {l : Look} (h : Ok F l) : Ok (fun x => F (x - o) + o) (shift o l) := by
  refine ⟨fun z => ?_, fun z => ?_⟩
  · have := h.ns z
    show l.2.2 + o ≤ F (l.2.1 + o - o) + o
    rw [Int.add_sub_cancel]
    omega
  · have := h.nb z
    show F (l.2.1 + o - o) + o ≤ l.2.2 + o
    rw [Int.add_sub_cancel]
    omega
theorem hand_grow {n m : Int} {F : Int → Int} (hm : 0 < m) (h : Hand n F) : Hand (n * m) fun x => F (x / m) * m := by
  refine ⟨fun x y hxy => ?_, fun x k => ?_⟩
  · exact Int.mul_le_mul_of_nonneg_right (h.mono _ _ (Int.ediv_le_ediv hm hxy)) (by omega)
  · show F ((x + k * (n * m)) / m) * m = F (x / m) * m + k * (n * m)
    rw [← Int.mul_assoc, Int.add_mul_ediv_right _ _ (by omega), h.turn, Int.add_mul]
theorem ok_grow {m : Int} {F : Int → Int} {l : Look} (hm : 0 < m) (h : Ok F l) : Ok (fun x => F (x / m) * m) (grow m l) := by
  refine ⟨fun z => ?_, fun z => ?_⟩
  · show l.2.2 * m ≤ F (l.2.1 * m / m) * m
    rw [Int.mul_ediv_cancel _ (by omega)]
    exact Int.mul_le_mul_of_nonneg_right (h.ns z) (by omega)
  · show F (l.2.1 * m / m) * m ≤ l.2.2 * m
    rw [Int.mul_ediv_cancel _ (by omega)]
    exact Int.mul_le_mul_of_nonneg_right (h.nb z) (by omega)
theorem hand_mirror {n : Int} {F : Int → Int} (h : Hand n F) : Hand n fun x => 0 - F (0 - x) := by
  refine ⟨fun x y hxy => ?_, fun x k => ?_⟩
  · have := h.mono (0 - y) (0 - x) (by omega)
    show 0 - F (0 - x) ≤ 0 - F (0 - y)
    omega
  · have := h.turn (0 - x) (-k)
    show 0 - F (0 - (x + k * n)) = 0 - F (0 - x) + k * n
    rw [Int.neg_mul] at this
    rw [show 0 - (x + k * n) = 0 - x + -(k * n) by omega, this]
    omega
theorem nsP_other {x : Str} {p q : Int × Int} (hw : x = "at" ∨ x = "from" ∨ x = "upto") : nsP (otherW x, p) = nbP (x, q) := by
  rcases hw with rfl | rfl | rfl <;> (simp [nsP, nbP, eqv_str, otherW]; try decide)
theorem nbP_other {x : Str} {p q : Int × Int} (hw : x = "at" ∨ x = "from" ∨ x = "upto") : nbP (otherW x, p) = nsP (x, q) := by
  rcases hw with rfl | rfl | rfl <;> (simp [nsP, nbP, eqv_str, otherW]; try decide)
theorem ok_mirror {F : Int → Int} {l : Look} (hw : l.1 = "at" ∨ l.1 = "from" ∨ l.1 = "upto") (h : Ok F l) : Ok (fun x => 0 - F (0 - x)) (mirr l) := by
  refine ⟨fun z => ?_, fun z => ?_⟩
  · have := h.nb (by rw [← z]; exact (nsP_other hw).symm)
    show 0 - l.2.2 ≤ 0 - F (0 - (0 - l.2.1))
    rw [show 0 - (0 - l.2.1) = l.2.1 by omega]
    omega
  · have := h.ns (by rw [← z]; exact (nbP_other hw).symm)
    show 0 - F (0 - (0 - l.2.1)) ≤ 0 - l.2.2
    rw [show 0 - (0 - l.2.1) = l.2.1 by omega]
    omega
/-- what they lead to -/
theorem low_shift {n x o : Int} (l : Look) : lowv n (x + o) (shift o l).2 = lowv n x l.2 + o := by
  show l.2.2 + o + (x + o - (l.2.1 + o)) / n * n = l.2.2 + (x - l.2.1) / n * n + o
  rw [show x + o - (l.2.1 + o) = x - l.2.1 by omega]
  omega
theorem high_shift {n x o : Int} (l : Look) : highv n (x + o) (shift o l).2 = highv n x l.2 + o := by
  show l.2.2 + o - (l.2.1 + o - (x + o)) / n * n = l.2.2 - (l.2.1 - x) / n * n + o
  rw [show l.2.1 + o - (x + o) = l.2.1 - x by omega]
  omega
theorem div_grow {a m n r : Int} (hm : 0 < m) (hn : 0 < n) (h : 0 ≤ r ∧ r < m) : (a * m + r) / (n * m) = a / n := by
  rw [Int.mul_comm n m, ← Int.ediv_ediv_of_nonneg (by omega)]
  have : (a * m + r) / m = a := by
    rw [Int.add_comm, Int.add_mul_ediv_right _ _ (by omega), Int.ediv_eq_zero_of_lt h.1 h.2]
    omega
  rw [this]
theorem low_grow {n x m r : Int} (hm : 0 < m) (hn : 0 < n) (h : 0 ≤ r ∧ r < m) (l : Look) : lowv (n * m) (x * m + r) (grow m l).2 = lowv n x l.2 * m := by
  show l.2.2 * m + (x * m + r - l.2.1 * m) / (n * m) * (n * m) = (l.2.2 + (x - l.2.1) / n * n) * m
  rw [show x * m + r - l.2.1 * m = (x - l.2.1) * m + r by rw [Int.sub_mul]; omega, div_grow hm hn h, Int.add_mul, Int.mul_assoc]
theorem high_grow {n x m r : Int} (hm : 0 < m) (hn : 0 < n) (h : 0 ≤ r ∧ r < m) (l : Look) : highv (n * m) (x * m - r) (grow m l).2 = highv n x l.2 * m := by
  show l.2.2 * m - (l.2.1 * m - (x * m - r)) / (n * m) * (n * m) = (l.2.2 - (l.2.1 - x) / n * n) * m
  rw [show l.2.1 * m - (x * m - r) = (l.2.1 - x) * m + r by rw [Int.sub_mul]; omega, div_grow hm hn h, Int.sub_mul, Int.mul_assoc]
theorem high_mirror {n x : Int} (l : Look) : highv n (0 - x) (mirr l).2 = 0 - lowv n x l.2 := by
  show 0 - l.2.2 - (0 - l.2.1 - (0 - x)) / n * n = 0 - (l.2.2 + (x - l.2.1) / n * n)
  rw [show 0 - l.2.1 - (0 - x) = x - l.2.1 by omega]
  omega
theorem low_mirror {n x : Int} (l : Look) : lowv n (0 - x) (mirr l).2 = 0 - highv n x l.2 := by
  show 0 - l.2.2 + (0 - x - (0 - l.2.1)) / n * n = 0 - (l.2.2 - (l.2.1 - x) / n * n)
  rw [show 0 - x - (0 - l.2.1) = l.2.1 - x by omega]
  omega
/-- a greatest, each turned alike -/
theorem IsMax.map {xs : List Int} {f : Int → Int} (hf : ∀ a b, a ≤ b → f a ≤ f b) : ∀ {o : Option Int}, IsMax xs o → IsMax (xs.map f) (o.map f)
  | none, h => by
    have h : xs = [] := h
    subst h
    rfl
  | some m, h => ⟨List.mem_map.mpr ⟨m, h.1, rfl⟩, fun y hy => by
      obtain ⟨z, hz, rfl⟩ := List.mem_map.mp hy
      exact hf _ _ (h.2 z hz)⟩
theorem IsMin.map {xs : List Int} {f : Int → Int} (hf : ∀ a b, a ≤ b → f a ≤ f b) : ∀ {o : Option Int}, IsMin xs o → IsMin (xs.map f) (o.map f)
  | none, h => by
    have h : xs = [] := h
    subst h
    rfl
  | some m, h => ⟨List.mem_map.mpr ⟨m, h.1, rfl⟩, fun y hy => by
      obtain ⟨z, hz, rfl⟩ := List.mem_map.mp hy
      exact hf _ _ (h.2 z hz)⟩
theorem IsMax.flip {xs : List Int} {f : Int → Int} (hf : ∀ a b, a ≤ b → f b ≤ f a) : ∀ {o : Option Int}, IsMax xs o → IsMin (xs.map f) (o.map f)
  | none, h => by
    have h : xs = [] := h
    subst h
    rfl
  | some m, h => ⟨List.mem_map.mpr ⟨m, h.1, rfl⟩, fun y hy => by
      obtain ⟨z, hz, rfl⟩ := List.mem_map.mp hy
      exact hf _ _ (h.2 z hz)⟩
theorem IsMin.flip {xs : List Int} {f : Int → Int} (hf : ∀ a b, a ≤ b → f b ≤ f a) : ∀ {o : Option Int}, IsMin xs o → IsMax (xs.map f) (o.map f)
  | none, h => by
    have h : xs = [] := h
    subst h
    rfl
  | some m, h => ⟨List.mem_map.mpr ⟨m, h.1, rfl⟩, fun y hy => by
      obtain ⟨z, hz, rfl⟩ := List.mem_map.mp hy
      exact hf _ _ (h.2 z hz)⟩
/-! may, of looks moved and the other way about -/
theorem home_shift_low {n x o : Int} (hn : 0 < n) (l : Look) : lowv n (x + o) (home n (shift o l)).2 = lowv n x l.2 + o := by
  rw [home_low hn, low_shift]
theorem aprt1_shift {n o : Int} (a b : Look) : aprt1 n (shift o a) (shift o b) = aprt1 n a b := by
  unfold aprt1
  have e1 : nsP (shift o a) = nsP a := rfl
  have e2 : nbP (shift o b) = nbP b := rfl
  have e3 : lowv n (shift o b).2.1 (shift o a).2 = lowv n b.2.1 a.2 + o := low_shift a
  have e4 : (shift o b).2.2 = b.2.2 + o := rfl
  rw [e1, e2, e3, e4]
  congr 1
  exact decide_eq_decide.mpr (by omega)
theorem apart_shift {n o : Int} (a b : Look) : apart n (shift o a) (shift o b) = apart n a b := by
  unfold apart
  rw [aprt1_shift, aprt1_shift]
theorem aprt1_mirr {n : Int} {a b : Look} (ha : a.1 = "at" ∨ a.1 = "from" ∨ a.1 = "upto") (hb : b.1 = "at" ∨ b.1 = "from" ∨ b.1 = "upto") : aprt1 n (mirr a) (mirr b) = aprt1 n b a := by
  unfold aprt1
  have e1 : nsP (mirr a) = nbP a := nsP_other ha
  have e2 : nbP (mirr b) = nsP b := nbP_other hb
  have e3 : lowv n (mirr b).2.1 (mirr a).2 = 0 - highv n b.2.1 a.2 := low_mirror a
  have e4 : (mirr b).2.2 = 0 - b.2.2 := rfl
  have e5 : highv n b.2.1 a.2 = a.2.2 - (a.2.1 - b.2.1) / n * n := rfl
  have e6 : lowv n a.2.1 b.2 = b.2.2 + (a.2.1 - b.2.1) / n * n := rfl
  rw [e1, e2, e3, e4, e5, e6, Bool.and_comm (nbP a) (nsP b)]
  congr 1
  exact decide_eq_decide.mpr (by omega)
theorem apart_mirr {n : Int} {a b : Look} (ha : a.1 = "at" ∨ a.1 = "from" ∨ a.1 = "upto") (hb : b.1 = "at" ∨ b.1 = "from" ∨ b.1 = "upto") : apart n (mirr a) (mirr b) = apart n a b := by
  unfold apart
  rw [aprt1_mirr ha hb, aprt1_mirr hb ha, Bool.or_comm]
theorem may_shift {n o : Int} (hn : 0 < n) (ks : List Look) (l : Look) : mayB n (hearAll n (ks.map (shift o))) (shift o l) = mayB n (hearAll n ks) l := by
  rw [mayB_eq hn, mayB_eq hn, List.any_map]
  congr 2
  funext z
  exact apart_shift l z
theorem may_mirr {n : Int} (hn : 0 < n) (ks : List Look) (l : Look) (hk : ∀ z ∈ ks, z.1 = "at" ∨ z.1 = "from" ∨ z.1 = "upto") (hl : l.1 = "at" ∨ l.1 = "from" ∨ l.1 = "upto") : mayB n (hearAll n (ks.map mirr)) (mirr l) = mayB n (hearAll n ks) l := by
  rw [mayB_eq hn, mayB_eq hn, List.any_map]
  congr 1
  rw [Bool.eq_iff_iff, List.any_eq_true, List.any_eq_true]
  constructor
  · rintro ⟨z, hz, e⟩
    exact ⟨z, hz, by rw [← apart_mirr hl (hk z hz)]; exact e⟩
  · rintro ⟨z, hz, e⟩
    exact ⟨z, hz, by show apart n (mirr l) (mirr z) = true; rw [apart_mirr hl (hk z hz)]; exact e⟩
/-! least and greatest of looks turned about -/
theorem mem_low {n x v : Int} (hn : 0 < n) {ks : List Look} : v ∈ (notShort (hearAll n ks)).map (lowv n x) ↔ ∃ l ∈ ks, nsP l = true ∧ lowv n x l.2 = v := by
  rw [least_same hn (fun z => mem_hearAll) v]
  simp only [notShort, List.mem_map, List.mem_filter]
  constructor
  · rintro ⟨p, ⟨l, ⟨h1, h2⟩, rfl⟩, rfl⟩
    exact ⟨l, h1, h2, rfl⟩
  · rintro ⟨l, h1, h2, rfl⟩
    exact ⟨l.2, ⟨l, ⟨h1, h2⟩, rfl⟩, rfl⟩
theorem mem_high {n x v : Int} (hn : 0 < n) {ks : List Look} : v ∈ (notBeyond (hearAll n ks)).map (highv n x) ↔ ∃ l ∈ ks, nbP l = true ∧ highv n x l.2 = v := by
  rw [greatest_same hn (fun z => mem_hearAll) v]
  simp only [notBeyond, List.mem_map, List.mem_filter]
  constructor
  · rintro ⟨p, ⟨l, ⟨h1, h2⟩, rfl⟩, rfl⟩
    exact ⟨l, h1, h2, rfl⟩
  · rintro ⟨l, h1, h2, rfl⟩
    exact ⟨l.2, ⟨l, ⟨h1, h2⟩, rfl⟩, rfl⟩
section
variable {n n' x x' : Int} {ks : List Look} {t : Look → Look} {f : Int → Int} {o o' : Option Int}
theorem least_turn (hn : 0 < n) (hn' : 0 < n') (hf : ∀ a b, a ≤ b → f a ≤ f b) (h1 : ∀ l ∈ ks, nsP (t l) = nsP l) (h2 : ∀ l ∈ ks, lowv n' x' (t l).2 = f (lowv n x l.2))
    (a : IsMax ((notShort (hearAll n' (ks.map t))).map (lowv n' x')) o') (b : IsMax ((notShort (hearAll n ks)).map (lowv n x)) o) : o' = o.map f := by
  refine IsMax.uniq (fun v => ?_) a (b.map hf)
  rw [mem_low hn', List.mem_map]
  constructor
  · rintro ⟨z, hz, hs, rfl⟩
    obtain ⟨l, hl, rfl⟩ := List.mem_map.mp hz
    exact ⟨lowv n x l.2, (mem_low hn).mpr ⟨l, hl, by rw [← h1 l hl]; exact hs, rfl⟩, (h2 l hl).symm⟩
  · rintro ⟨u, hu, rfl⟩
    obtain ⟨l, hl, hs, rfl⟩ := (mem_low hn).mp hu
    exact ⟨t l, List.mem_map.mpr ⟨l, hl, rfl⟩, by rw [h1 l hl]; exact hs, h2 l hl⟩
theorem greatest_turn (hn : 0 < n) (hn' : 0 < n') (hf : ∀ a b, a ≤ b → f a ≤ f b) (h1 : ∀ l ∈ ks, nbP (t l) = nbP l) (h2 : ∀ l ∈ ks, highv n' x' (t l).2 = f (highv n x l.2))
    (a : IsMin ((notBeyond (hearAll n' (ks.map t))).map (highv n' x')) o') (b : IsMin ((notBeyond (hearAll n ks)).map (highv n x)) o) : o' = o.map f := by
  refine IsMin.uniq (fun v => ?_) a (b.map hf)
  rw [mem_high hn', List.mem_map]
  constructor
  · rintro ⟨z, hz, hs, rfl⟩
    obtain ⟨l, hl, rfl⟩ := List.mem_map.mp hz
    exact ⟨highv n x l.2, (mem_high hn).mpr ⟨l, hl, by rw [← h1 l hl]; exact hs, rfl⟩, (h2 l hl).symm⟩
  · rintro ⟨u, hu, rfl⟩
    obtain ⟨l, hl, hs, rfl⟩ := (mem_high hn).mp hu
    exact ⟨t l, List.mem_map.mpr ⟨l, hl, rfl⟩, by rw [h1 l hl]; exact hs, h2 l hl⟩
theorem least_flip (hn : 0 < n) (hn' : 0 < n') (hf : ∀ a b, a ≤ b → f b ≤ f a) (h1 : ∀ l ∈ ks, nsP (t l) = nbP l) (h2 : ∀ l ∈ ks, lowv n' x' (t l).2 = f (highv n x l.2))
    (a : IsMax ((notShort (hearAll n' (ks.map t))).map (lowv n' x')) o') (b : IsMin ((notBeyond (hearAll n ks)).map (highv n x)) o) : o' = o.map f := by
  refine IsMax.uniq (fun v => ?_) a (b.flip hf)
  rw [mem_low hn', List.mem_map]
  constructor
  · rintro ⟨z, hz, hs, rfl⟩
    obtain ⟨l, hl, rfl⟩ := List.mem_map.mp hz
    exact ⟨highv n x l.2, (mem_high hn).mpr ⟨l, hl, by rw [← h1 l hl]; exact hs, rfl⟩, (h2 l hl).symm⟩
  · rintro ⟨u, hu, rfl⟩
    obtain ⟨l, hl, hs, rfl⟩ := (mem_high hn).mp hu
    exact ⟨t l, List.mem_map.mpr ⟨l, hl, rfl⟩, by rw [h1 l hl]; exact hs, h2 l hl⟩
theorem greatest_flip (hn : 0 < n) (hn' : 0 < n') (hf : ∀ a b, a ≤ b → f b ≤ f a) (h1 : ∀ l ∈ ks, nbP (t l) = nsP l) (h2 : ∀ l ∈ ks, highv n' x' (t l).2 = f (lowv n x l.2))
    (a : IsMin ((notBeyond (hearAll n' (ks.map t))).map (highv n' x')) o') (b : IsMax ((notShort (hearAll n ks)).map (lowv n x)) o) : o' = o.map f := by
  refine IsMin.uniq (fun v => ?_) a (b.flip hf)
  rw [mem_high hn', List.mem_map]
  constructor
  · rintro ⟨z, hz, hs, rfl⟩
    obtain ⟨l, hl, rfl⟩ := List.mem_map.mp hz
    exact ⟨lowv n x l.2, (mem_low hn).mpr ⟨l, hl, by rw [← h1 l hl]; exact hs, rfl⟩, (h2 l hl).symm⟩
  · rintro ⟨u, hu, rfl⟩
    obtain ⟨l, hl, hs, rfl⟩ := (mem_low hn).mp hu
    exact ⟨t l, List.mem_map.mpr ⟨l, hl, rfl⟩, by rw [h1 l hl]; exact hs, h2 l hl⟩
end
end DK
namespace PL
open PySem PySem.Spec PyProof.Rows L2
theorem MDef.imp {P : Program} {w : World} {K : PySem.W.Frag} {mg : Str → Option Value} {base : Heap} {C : Addr} {m : Str} {f : Addr} {fd : FuncData} {ps : List Str} {k : Nat} {pf pf' : PF} (F : MDef P w K mg base C m f fd ps k pf) (h : ∀ ds M R Z, pf' ds M R Z → pf ds M R Z) : MDef P w K mg base C m f fd ps k pf' :=
  ⟨F.cl, F.me, F.binds, F.ok.imp fun vs H Q E ⟨S, M, ds, c, r, q⟩ => ⟨S, M, ds, c, r, h _ _ _ _ q⟩⟩
theorem Def.imp {P : Program} {w : World} {K : PySem.W.Frag} {mg : Str → Option Value} {base : Heap} {x : Str} {f : Addr} {fd : FuncData} {ps : List Str} {k : Nat} {pf pf' : PF} (F : Def P w K mg base x f fd ps k pf) (h : ∀ ds M R Z, pf' ds M R Z → pf ds M R Z) : Def P w K mg base x f fd ps k pf' :=
  ⟨F.mgx, F.kp, F.binds, F.ok.imp fun vs H Q E ⟨S, M, ds, c, r, q⟩ => ⟨S, M, ds, c, r, h _ _ _ _ q⟩⟩
/-- x = [..], x a cell -/
theorem ws_asgS {c : Ctx} {Γ : Gam} {M : Cells} {e : Expr} {x : Str} {pos pos' : Pos} {E : PEnds} {i : Nat} (hN : c.N[i]? = some x) (hl : LocC c x) (h : WE c e Γ M fun d M1 => E.nx (Γ.set i (some d)) M1) (hs : ∀ env, env.scope = c.sc → swapsWith e (some (.Name x pos')) pos.line env = pure false := by (rintro ⟨_, _, _, _, _, _, _, _, _⟩ rfl; rfl)) :
    WS c (.Assign [.Name x pos'] e pos) E Γ M := .mk fun X S σ H at_ Ds l =>
  PS.to (ps_set at_.is.nd (at_.is.nm hN) (at_.is.loc hl) wE.pe (hs _ at_.is.sc) (at_.is.st hl)) (h.run X S σ H at_ _ fun v H1 d M1 c1 s1 r1 q => l.nx _ _ _ _ c1 ((at_.slots.to s1.to).set r1) s1 q)
/-- e[1:] of a list -/
theorem we_tailL {c : Ctx} {Γ : Gam} {M : Cells} {a : Expr} {pos : Pos} {Q : D → Cells → Prop} {k : Int} {n : Nat} {p2 p3 : Pos} (h : WE c a Γ M fun x M1 => ∃ ds, x = .lst ds ∧ k = 1 ∧ 1 ≤ ds.length ∧ Q (.lst (ds.drop 1)) M1) : WE c (.Subscript a (.Slice (some (.Constant (.int k) n p3)) none none p2) pos) Γ M Q := .mk fun X S σ H at_ Q' hq =>
  PE.to (pe_slice sl_list wE.pe (po_some pe_int) po_none) (h.run X S σ H at_ _ fun v1 H1 d1 M1 c1 s1 r1 ⟨ds, e1, ek, hl, q⟩ => by
    subst e1 ek
    cases r1 with
    | lst h1 h2 =>
      rw [at_.is.K]
      have e3 : HT.sIx ds.length 0 (some (1 : Int)) = 1 := (HT.sIx_nat ds.length 0 1).trans (Nat.min_eq_left hl)
      have e2 : (ds.drop (HT.sIx ds.length 0 (some (1 : Int)))).take (HT.sIx ds.length ds.length none - HT.sIx ds.length 0 (some (1 : Int))) = ds.drop 1 := by
        rw [e3]
        show (ds.drop 1).take (ds.length - 1) = ds.drop 1
        rw [List.take_of_length_le (by simp)]
      refine ⟨1, rfl, _, _, rfl, h1.sq, fun p np => ?_⟩
      have r2 := cutV_D (lo := some 1) (hi := none) h2
      rw [e2] at r2
      obtain ⟨k1, k2, k3⟩ := fresh_lst (K := c.K) c1 np r2
      exact hq _ _ _ _ k1 (s1.trans k2) k3 q)
/-! zip of two lists -/
section
variable {c : Ctx} {X : Cx} {S : AS} {Γ Γ' : Gam} {M M' : Cells} {σ σ' : L2.St} {H H' : Hp} {a b e elt tg iter : Expr} {es ifs : List Expr} {pos pos' : Pos} {Q : D → Cells → Prop} {R : Bool → Cells → Prop} {x : Str} {E : PEnds} {scope : Scope} {own : List (Str × Nat)} {α β : Type} {xs : List α} {ys : List β} {f : α → D} {g : β → D}
theorem getV_map {K : PySem.W.Frag} {A : AS} {H : Hp} {us : List V} {i : Nat} {v : V} (h : Reps K A H us (xs.map f)) (hv : us[i]? = some v) : ∃ p, xs[i]? = some p ∧ Rep K A H v (f p) := by
  obtain ⟨d, hd, rd⟩ := h.getV hv
  rw [List.getElem?_map] at hd
  cases ex : xs[i]? with
  | none => rw [ex] at hd; cases hd
  | some z =>
    rw [ex] at hd
    have ed : f z = d := Option.some.inj hd
    subst ed
    exact ⟨z, rfl, rd⟩
theorem lcZ_core {Inv : List (α × β) → List D → Cells → Prop} (is_ : c.Is X) {M1 : Cells} {H1 : Hp} {a b : Addr} {us ws : List V} (cr : Core c.K S M1 H1) (sl : Slots c.K (av S M1) H1 Γ σ) (h1 : RdL c.K (av S M1) H1 a us) (h2 : Reps c.K (av S M1) H1 us (xs.map f))
    (h3 : RdL c.K (av S M1) H1 b ws) (h4 : Reps c.K (av S M1) H1 ws (ys.map g))
    (h : LcQ c scope (own.map (·.2)) tg elt ifs Γ (xs.zip ys) (fun z => .tup [f z.1, g z.2]) Inv M1 Q) {Q' : VK} (hq : ∀ v H' d M', Core c.K S M' H' → Step M1 M' H1 H' → Rep c.K (av S M') H' v d → Q d M' → Q' v H') :
    ∀ D, H1 D = none → ∃ W : Nat → Nat → Hp → Prop, (∃ m, W 0 m (upd H1 D (.lst []))) ∧ ∀ i m H, W i m H →
      ((Itz X.K a b).stop i H ∧ Q' (.ref D) H) ∨ ((Itz X.K a b).go i H ∧ ∃ Nx : Hp → Prop, (∀ H', Nx H' → ∃ m', m' < m ∧ W (i + 1) m' H') ∧ ∀ x H', (Itz X.K a b).yld i H x H' → gB X scope tg x (wipe σ (own.map (·.2))) H' fun σ2 H2 => wipe σ2 (own.map (·.2)) = wipe σ (own.map (·.2)) ∧ ttB X scope ifs σ2 H2 fun b H3 =>
        if b = true then tB X scope elt σ2 H3 fun y H4 => ∃ acc, H4 D = some (.lst acc) ∧ acc.length < sizeLine ∧ Nx (upd H4 D (.lst (acc ++ [y]))) else Nx H3) := by
  intro D0 hn
  obtain ⟨hz, h0, hs, hd⟩ := h
  have hl1 : us.length = xs.length := by rw [h2.length, List.length_map]
  have hl2 : ws.length = ys.length := by rw [h4.length, List.length_map]
  refine lc_it (walk_zip (K := X.K) (a := a) (b := b) (xs := us) (ys := ws) (n := (xs.zip ys).length) (by rw [List.length_zip, hl1, hl2]))
    (fun i H2 => ∃ acc M2, Core c.K S ((D0, .lst acc) :: M2) H2 ∧ Step M1 ((D0, .lst acc) :: M2) H1 H2 ∧ acc.length ≤ i ∧ Inv ((xs.zip ys).take i) acc M2) ?_ ?_ ?_ ?_
  · have k := cr.cell (o := .lst []) (m := .lst []) hn ⟨[], rfl, .nil⟩
    exact ⟨[], M1, k.1, k.2, Nat.le_refl _, h0⟩
  · rintro i H2 _ ⟨acc, M2, c2, s2, _, _⟩
    rw [is_.K]
    exact ⟨(s2.to.rdl h1).sq, (s2.to.rdl h3).sq⟩
  · rintro i v H2 H3 hlt ⟨acc, M2, c2, s2, hl, inv⟩ ⟨T, x', y', rfl, hT, rfl, hx, hy⟩
    obtain ⟨p, ep, rp⟩ := getV_map h2 hx
    obtain ⟨q, eq, rq⟩ := getV_map h4 hy
    have ez : (xs.zip ys)[i]? = some (p, q) := by rw [List.getElem?_zip_eq_some]; exact ⟨ep, eq⟩
    obtain ⟨sp, tk⟩ := split_at ez
    have st3 : Step ((D0, MO.lst acc) :: M2) ((D0, MO.lst acc) :: M2) H2 (upd H2 T (.tup [x', y'])) := Step.same (same_new hT)
    have s3 := s2.trans st3
    refine lc_turn is_ sl (c2.new hT) s3 (.tup (.inl ⟨c2.free hT, .inl upd_same⟩) (.cons (rp.to s3.to) (.cons (rq.to s3.to) .nil))) (by omega) (hs _ (p, q) _ acc M2 sp (by rw [List.length_take]; omega) inv) ?_ ?_
    · intro d M4 H' c4 s4 q
      exact ⟨_, M4, c4, s4, by simp; omega, by rw [tk]; exact q⟩
    · intro M4 H' c4 s4 q
      exact ⟨_, M4, c4, s4, by omega, by rw [tk]; exact q⟩
  · rintro H2 ⟨acc, M2, c2, s2, hl, inv⟩
    rw [List.take_length] at inv
    obtain ⟨c3, r3, s3⟩ := c2.freeze (i := 0) (p := D0) (ds := acc) rfl
    exact hq _ _ _ _ c3 (s2.trans s3) r3 (hd acc M2 hl inv)
/-- [.. for u, v in zip(a, b) ..] -/
theorem we_lcZ {p zpos tpos : Pos} {elts : List Expr} {kk : Nat} (own : List (Str × Nat)) (hb : blkC c.N c.sc scope own = true) (hg : GlC c.sc "zip") (hm : c.mg "zip" = none) (f : α → D) (g : β → D)
    (h : WE c a Γ M fun d1 M1 => WE c b Γ M1 fun d2 M2 => ∃ (xs : List α) (ys : List β), d1 = .lst (xs.map f) ∧ d2 = .lst (ys.map g) ∧ ∃ Inv, LcQ c scope (own.map (·.2)) (.Tuple elts kk tpos) elt ifs Γ (xs.zip ys) (fun z => .tup [f z.1, g z.2]) Inv M2 Q)
    (hst : ∀ env, starEach [a, b] env = (false, eval a env) :: starEach [b] env := by intro _; rfl) (hst2 : ∀ env, starEach [b] env = (false, eval b env) :: starEach [] env := by intro _; rfl)
    (hs : ∀ env x, foldedSetIterable (.Call (.Name "zip" p) [a, b] [] zpos) env x = pure x := by intro _ _; rfl) : WE c (.ListComp elt [⟨.Tuple elts kk tpos, .Call (.Name "zip" p) [a, b] [] zpos, ifs, 0⟩] scope pos) Γ M Q := .mk fun X S σ H at_ Q' hq =>
  PE.to (pe_lc at_.is.calm at_.is.nd (pi_zip (at_.is.gl hg) (at_.is.mgN hm) (pa_cons wE.pe (pa_cons wE.pe pa_nil (hst2 _)) (hst _)) (hst _) (by rw [hst2]; rfl)) (at_.blkOk hb) (fun s H C cl fp => gB.pg s H C cl fp) (fun s H C cl fp => ttB.pts s H C cl fp) (fun s H C cl fp => tB.pe s H C cl fp) (hs _)) (two h at_ fun v1 v2 H2 d1 d2 M2 c2 s2 r1 r2 ⟨xs, ys, e1, e2, iv, q⟩ => by
    subst e1 e2
    cases r1 with
    | lst h1 h2 =>
      cases r2 with
      | lst h3 h4 => exact ⟨_, _, _, _, rfl, by rw [at_.is.K]; exact h1.sq, by rw [at_.is.K]; exact h3.sq, lcZ_core at_.is c2 (at_.slots.to s2.to) h1 h2 h3 h4 q fun v H' d M' c3 s3 r3 q3 => hq v H' d M' c3 (s2.trans s3) r3 q3⟩)
theorem ws_lcZ {i : Nat} {y : Str} {py spos p zpos tpos : Pos} {elts : List Expr} {kk : Nat} (own : List (Str × Nat)) (hb : blkC c.N c.sc scope own = true) (hy : c.N[i]? = some y) (hyl : c.sc.names.lookup y = some .local) (hg : GlC c.sc "zip") (hm : c.mg "zip" = none) (f : α → D) (g : β → D)
    (h : WE c a Γ M fun d1 M1 => WE c b Γ M1 fun d2 M2 => ∃ (xs : List α) (ys : List β), d1 = .lst (xs.map f) ∧ d2 = .lst (ys.map g) ∧ ∃ Inv, LcQ c scope (own.map (·.2)) (.Tuple elts kk tpos) elt ifs Γ (xs.zip ys) (fun z => .tup [f z.1, g z.2]) Inv M2 fun d M3 => E.nx (Γ.set i (some d)) M3)
    (hsw : ∀ env, env.scope = c.sc → swapsWith (.ListComp elt [⟨.Tuple elts kk tpos, .Call (.Name "zip" p) [a, b] [] zpos, ifs, 0⟩] scope pos) (some (.Name y py)) spos.line env = pure true := by (rintro ⟨_, _, _, _, _, _, _, _, _⟩ rfl; rfl))
    (hst : ∀ env, starEach [a, b] env = (false, eval a env) :: starEach [b] env := by intro _; rfl) (hst2 : ∀ env, starEach [b] env = (false, eval b env) :: starEach [] env := by intro _; rfl)
    (hs : ∀ env x, foldedSetIterable (.Call (.Name "zip" p) [a, b] [] zpos) env x = pure x := by intro _ _; rfl) : WS c (.Assign [.Name y py] (.ListComp elt [⟨.Tuple elts kk tpos, .Call (.Name "zip" p) [a, b] [] zpos, ifs, 0⟩] scope pos) spos) E Γ M := .mk fun X S σ H at_ Ds l =>
  PS.to (ps_setLc at_.is.calm at_.is.nd (at_.is.nm hy) (by rw [at_.is.sc]; exact hyl) (hsw _ at_.is.sc) (pi_zip (at_.is.gl hg) (at_.is.mgN hm) (pa_cons wE.pe (pa_cons wE.pe pa_nil (hst2 _)) (hst _)) (hst _) (by rw [hst2]; rfl)) (at_.blkOk hb) (fun s H C cl fp => gB.pg s H C cl fp) (fun s H C cl fp => ttB.pts s H C cl fp) (fun s H C cl fp => tB.pe s H C cl fp) (hs _)) (two h at_ fun v1 v2 H2 d1 d2 M2 c2 s2 r1 r2 ⟨xs, ys, e1, e2, iv, q⟩ => by
    subst e1 e2
    cases r1 with
    | lst h1 h2 =>
      cases r2 with
      | lst h3 h4 => exact ⟨_, _, _, _, rfl, by rw [at_.is.K]; exact h1.sq, by rw [at_.is.K]; exact h3.sq, lcZ_core at_.is c2 (at_.slots.to s2.to) h1 h2 h3 h4 q fun v H' d M' c3 s3 r3 q3 => l.nx _ _ _ _ c3 ((at_.slots.to (s2.trans s3).to).set r3) (s2.trans s3) q3⟩)
/-- for u, v in zip(a, b) -/
theorem ws_forZ {p zpos tpos : Pos} {elts : List Expr} {kk : Nat} {body : List Stmt} (hg : GlC c.sc "zip") (hm : c.mg "zip" = none) (f : α → D) (g : β → D)
    (h : WE c a Γ M fun d1 M1 => WE c b Γ M1 fun d2 M2 => ∃ (xs : List α) (ys : List β), d1 = .lst (xs.map f) ∧ d2 = .lst (ys.map g) ∧ ∃ Inv : List (α × β) → Gam → Cells → Prop, Inv [] Γ M2 ∧
      (∀ pre y post Γ2 M2, xs.zip ys = pre ++ y :: post → Inv pre Γ2 M2 → WG c (.Tuple elts kk tpos) (.tup [f y.1, g y.2]) Γ2 M2 fun Γ3 M3 => WSs c body { nx := Inv (pre ++ [y]), ct := Inv (pre ++ [y]), bk := E.nx, rt := E.rt } Γ3 M3) ∧ ∀ Γ2 M2, Inv (xs.zip ys) Γ2 M2 → E.nx Γ2 M2)
    (hst : ∀ env, starEach [a, b] env = (false, eval a env) :: starEach [b] env := by intro _; rfl) (hst2 : ∀ env, starEach [b] env = (false, eval b env) :: starEach [] env := by intro _; rfl)
    (hs : ∀ env x, foldedSetIterable (.Call (.Name "zip" p) [a, b] [] zpos) env x = pure x := by intro _ _; rfl) : WS c (.For (.Tuple elts kk tpos) (.Call (.Name "zip" p) [a, b] [] zpos) body [] pos) E Γ M := .mk fun X S σ H at_ Ds l => by
  refine PS.to (ps_for at_.is.po at_.is.calm (pi_zip (at_.is.gl hg) (at_.is.mgN hm) (pa_cons wE.pe (pa_cons wE.pe pa_nil (hst2 _)) (hst _)) (hst _) (by rw [hst2]; rfl)) wG.pg wSs.pss (hs _)) (two h at_ fun v1 v2 H1 d1 d2 M1 c1 s1 r1 r2 ⟨xs, ys, e1, e2, Iv, inv0, step, fin⟩ => ?_)
  subst e1 e2
  cases r1 with
  | lst h1 h2 =>
    cases r2 with
    | lst h3 h4 =>
      rename_i u1 vs u2 ws
      have hl1 : vs.length = xs.length := by rw [h2.length, List.length_map]
      have hl2 : ws.length = ys.length := by rw [h4.length, List.length_map]
      refine ⟨_, _, _, _, rfl, by rw [at_.is.K]; exact h1.sq, by rw [at_.is.K]; exact h3.sq, for_it (walk_zip (K := X.K) (xs := vs) (ys := ws) (n := (xs.zip ys).length) (by rw [List.length_zip, hl1, hl2])) (fun i σ2 H2 => ∃ Γ2 M2, Core c.K S M2 H2 ∧ Slots c.K (av S M2) H2 Γ2 σ2 ∧ Step M1 M2 H1 H2 ∧ Iv ((xs.zip ys).take i) Γ2 M2)
        ⟨Γ, M1, c1, at_.slots.to s1.to, .refl, inv0⟩ (fun i σ2 H2 _ ⟨Γ2, M2, c2, sl2, st2, _⟩ => by rw [at_.is.K]; exact ⟨(st2.to.rdl h1).sq, (st2.to.rdl h3).sq⟩) ?_ ?_⟩
      · rintro i v σ2 H2 H3 hlt ⟨Γ2, M2, c2, sl2, st2, inv⟩ ⟨T, x', y', rfl, hT, rfl, hx, hy⟩
        obtain ⟨p, ep, rp⟩ := getV_map h2 hx
        obtain ⟨q, eq, rq⟩ := getV_map h4 hy
        have ez : (xs.zip ys)[i]? = some (p, q) := by rw [List.getElem?_zip_eq_some]; exact ⟨ep, eq⟩
        obtain ⟨sp, tk⟩ := split_at ez
        have stT : Step M2 M2 H2 (upd H2 T (.tup [x', y'])) := Step.same (same_new hT)
        have s3 := st2.trans stT
        refine (step _ (p, q) _ Γ2 M2 sp inv).run X S σ2 _ (at_.slot (c2.new hT) (sl2.to stT.to) (s1.trans s3)) _ (.tup (.inl ⟨c2.free hT, .inl upd_same⟩) (.cons (rp.to s3.to) (.cons (rq.to s3.to) .nil))) _ fun σ3 H3 Γ3 M3 c3 sl3 st3 q => q.run X S σ3 H3 (at_.slot c3 sl3 ((s1.trans s3).trans st3)) _ ⟨?_, ?_, ?_, ?_⟩
        · intro σ4 H4 Γ4 M4 c4 sl4 st4 q4
          exact ⟨Γ4, M4, c4, sl4, (s3.trans st3).trans st4, by rw [tk]; exact q4⟩
        · intro v4 H4 d4 M4 c4 st4 r4 q4
          exact l.rt v4 H4 d4 M4 c4 (((s1.trans s3).trans st3).trans st4) r4 q4
        · intro σ4 H4 Γ4 M4 c4 sl4 st4 q4
          exact l.nx σ4 H4 Γ4 M4 c4 sl4 (((s1.trans s3).trans st3).trans st4) q4
        · intro σ4 H4 Γ4 M4 c4 sl4 st4 q4
          exact ⟨Γ4, M4, c4, sl4, (s3.trans st3).trans st4, by rw [tk]; exact q4⟩
      · rintro σ2 H2 ⟨Γ2, M2, c2, sl2, st2, inv⟩
        rw [List.take_length] at inv
        exact l.nx σ2 H2 Γ2 M2 c2 sl2 (s1.trans st2) (fin Γ2 M2 inv)
end
end PL
namespace DK
open PySem PL
/-! looks from both sides: where all hands lead between least and greatest -/
def neg2 (p : Int × Int) : Int × Int := (0 - p.1, 0 - p.2)
def lowF (n : Int) (ks : List Look) (x : Int) : Int := leadF n (notShort ks) x
def upF (n : Int) (ks : List Look) (x : Int) : Int := 0 - leadF n ((notBeyond ks).map neg2) (0 - x)
theorem low_neg {n x : Int} (p : Int × Int) : lowv n (0 - x) (neg2 p) = 0 - highv n x p := by
  show 0 - p.2 + (0 - x - (0 - p.1)) / n * n = 0 - (p.2 - (p.1 - x) / n * n)
  rw [show 0 - x - (0 - p.1) = p.1 - x by omega]
  omega
theorem lowF_max {n x : Int} {ks : List Look} (h : notShort ks ≠ []) : IsMax ((notShort ks).map (lowv n x)) (some (lowF n ks x)) := by
  obtain ⟨⟨p, hp, e⟩, h2⟩ := leadF_ok h x (n := n)
  refine ⟨List.mem_map.mpr ⟨p, hp, e⟩, fun y hy => ?_⟩
  obtain ⟨p, hp, rfl⟩ := List.mem_map.mp hy
  exact h2 p hp
theorem upF_min {n x : Int} {ks : List Look} (h : notBeyond ks ≠ []) : IsMin ((notBeyond ks).map (highv n x)) (some (upF n ks x)) := by
  obtain ⟨⟨p, hp, e⟩, h2⟩ := leadF_ok (n := n) (ps := (notBeyond ks).map neg2) (by simpa using h) (0 - x)
  obtain ⟨q, hq, rfl⟩ := List.mem_map.mp hp
  rw [low_neg] at e
  refine ⟨List.mem_map.mpr ⟨q, hq, ?_⟩, fun y hy => ?_⟩
  · unfold upF; omega
  · obtain ⟨z, hz, rfl⟩ := List.mem_map.mp hy
    have := h2 (neg2 z) (List.mem_map.mpr ⟨z, hz, rfl⟩)
    rw [low_neg] at this
    unfold upF
    omega
theorem lowF_hand {n : Int} (hn : 0 < n) {ks : List Look} (h : notShort ks ≠ []) : Hand n (lowF n ks) := leadF_hand hn h
theorem upF_hand {n : Int} (hn : 0 < n) {ks : List Look} (h : notBeyond ks ≠ []) : Hand n (upF n ks) := hand_mirror (leadF_hand hn (by simpa using h))
theorem low_le {n x : Int} (hn : 0 < n) {F : Int → Int} (hF : Hand n F) {l : Look} (ho : Ok F l) (hs : nsP l = true) : lowv n x l.2 ≤ F x := by
  have h1 := ho.ns hs
  have h3 := hF.turn l.2.1 ((x - l.2.1) / n)
  have h4 : (x - l.2.1) / n * n ≤ x - l.2.1 := Int.ediv_mul_le _ (by omega)
  have h5 := hF.mono (l.2.1 + (x - l.2.1) / n * n) x (by omega)
  show l.2.2 + (x - l.2.1) / n * n ≤ F x
  omega
theorem le_high {n x : Int} (hn : 0 < n) {F : Int → Int} (hF : Hand n F) {l : Look} (ho : Ok F l) (hs : nbP l = true) : F x ≤ highv n x l.2 := by
  have h1 := ho.nb hs
  have h3 := hF.turn l.2.1 (-((l.2.1 - x) / n))
  have h4 : (l.2.1 - x) / n * n ≤ l.2.1 - x := Int.ediv_mul_le _ (by omega)
  have h5 := hF.mono x (l.2.1 + -((l.2.1 - x) / n) * n) (by rw [Int.neg_mul]; omega)
  rw [Int.neg_mul] at h3 h5
  show F x ≤ l.2.2 - (l.2.1 - x) / n * n
  omega
/-- looks that some hand is as, of both sides -/
structure Both (n : Int) (ks : List Look) : Prop where
  hand : ∃ F, Hand n F ∧ ∀ l ∈ ks, Ok F l
  low : notShort ks ≠ []
  up : notBeyond ks ≠ []
theorem Both.le {n x : Int} (hn : 0 < n) {ks : List Look} (h : Both n ks) : lowF n ks x ≤ upF n ks x := by
  obtain ⟨F, hF, hT⟩ := h.hand
  have a : lowF n ks x ≤ F x := by
    obtain ⟨p, hp, e⟩ := List.mem_map.mp (lowF_max (n := n) (x := x) h.low).1
    obtain ⟨l, hl, rfl⟩ := List.mem_map.mp hp
    obtain ⟨h1, h2⟩ := List.mem_filter.mp hl
    rw [← e]
    exact low_le hn hF (hT l h1) h2
  have b : F x ≤ upF n ks x := by
    obtain ⟨p, hp, e⟩ := List.mem_map.mp (upF_min (n := n) (x := x) h.up).1
    obtain ⟨l, hl, rfl⟩ := List.mem_map.mp hp
    obtain ⟨h1, h2⟩ := List.mem_filter.mp hl
    rw [← e]
    exact le_high hn hF (hT l h1) h2
  omega
/-- places between, never falling -/
structure Row (ps : List (Int × Int)) (rs : List Int) : Prop where
  len : rs.length = ps.length
  in_ : ∀ (i : Nat) (p : Int × Int) (r : Int), ps[i]? = some p → rs[i]? = some r → p.1 ≤ r ∧ r ≤ p.2
  up : rs.Pairwise (· ≤ ·)
theorem Row.nil : Row [] [] := ⟨rfl, fun i p r h => by simp at h, .nil⟩
theorem Row.more {ps : List (Int × Int)} {rs : List Int} (h : Row ps rs) {p : Int × Int} {r : Int} (h1 : p.1 ≤ r ∧ r ≤ p.2) (h2 : ∀ z ∈ rs, z ≤ r) : Row (ps ++ [p]) (rs ++ [r]) := by
  refine ⟨by simp [h.len], fun i q z hq hz => ?_, ?_⟩
  · by_cases c : i < ps.length
    · rw [List.getElem?_append_left c] at hq
      rw [List.getElem?_append_left (by rw [h.len]; exact c)] at hz
      exact h.in_ i q z hq hz
    · rw [List.getElem?_append_right (by omega)] at hq
      rw [List.getElem?_append_right (by rw [h.len]; omega), h.len] at hz
      have e : i - ps.length = 0 := by
        have := (List.getElem?_eq_some_iff.mp hq).1
        simp at this
        omega
      rw [e] at hq hz
      cases hq; cases hz
      exact h1
  · rw [List.pairwise_append]
    exact ⟨h.up, List.pairwise_singleton _ _, fun a ha b hb => by rw [List.mem_singleton.mp hb]; exact h2 a ha⟩
/-- the last of a row is the greatest -/
theorem Row.last {ps : List (Int × Int)} {rs : List Int} (h : Row ps rs) {z : Int} (hz : rs.getLast? = some z) : ∀ r ∈ rs, r ≤ z := by
  obtain ⟨ys, rfl⟩ := List.getLast?_eq_some_iff.mp hz
  intro r hr
  have := (List.pairwise_append.mp h.up).2.2
  rcases List.mem_append.mp hr with hr | hr
  · exact this r hr z (by simp)
  · rw [List.mem_singleton.mp hr]; exact Int.le_refl _
def atL (z : Int × Int) : Look := ("at", z.1, z.2)
theorem ns_at (z : Int × Int) : nsP (atL z) = true := by simp [nsP, atL, eqv_str]; try decide
theorem nb_at (z : Int × Int) : nbP (atL z) = true := by simp [nbP, atL, eqv_str]; try decide
/-- a row of places that some hand leads to at once -/
structure Fit (n : Int) (ks : List Look) (zs : List (Int × Int)) : Prop where
  at_ : ∀ z ∈ zs, 0 ≤ z.1 ∧ z.1 < n
  in_ : ∀ z ∈ zs, lowF n ks z.1 ≤ z.2 ∧ z.2 ≤ upF n ks z.1
  up : zs.Pairwise fun a b => a.1 < b.1 ∧ a.2 ≤ b.2
  turn : ∀ a ∈ zs, ∀ b ∈ zs, a.2 ≤ b.2 + n
theorem pair_cases {α : Type} {R : α → α → Prop} : ∀ {l : List α}, l.Pairwise R → ∀ a ∈ l, ∀ b ∈ l, a = b ∨ R a b ∨ R b a
  | [], _, a, ha, _, _ => by cases ha
  | x :: l, h, a, ha, b, hb => by
    obtain ⟨h1, h2⟩ := List.pairwise_cons.mp h
    rcases List.mem_cons.mp ha with ea | ha2
    · rcases List.mem_cons.mp hb with eb | hb2
      · exact .inl (ea.trans eb.symm)
      · exact .inr (.inl (by rw [ea]; exact h1 b hb2))
    · rcases List.mem_cons.mp hb with eb | hb2
      · exact .inr (.inr (by rw [eb]; exact h1 a ha2))
      · exact pair_cases h2 a ha2 b hb2
theorem Fit.hand {n : Int} (hn : 0 < n) {ks : List Look} (hb : Both n ks) {zs : List (Int × Int)} (h : Fit n ks zs) :
    ∃ F, Hand n F ∧ (∀ l ∈ ks, Ok F l) ∧ (∀ z ∈ zs, F z.1 = z.2) := by
  have hne : notShort ks ++ zs ≠ [] := fun e => hb.low (List.append_eq_nil_iff.mp e).1
  have hF := leadF_hand hn hne
  have hU := upF_hand hn hb.up
  have hL := lowF_hand hn hb.low
  have le_up : ∀ x, leadF n (notShort ks ++ zs) x ≤ upF n ks x := fun x => by
    obtain ⟨p, hp, e⟩ := (leadF_ok hne x (n := n)).1
    rw [← e]
    rcases List.mem_append.mp hp with hp | hp
    · exact Int.le_trans ((leadF_ok hb.low x (n := n)).2 p hp) (hb.le hn)
    · have h1 := (h.in_ p hp).2
      have h3 := hU.turn p.1 ((x - p.1) / n)
      have h4 : (x - p.1) / n * n ≤ x - p.1 := Int.ediv_mul_le _ (by omega)
      have h5 := hU.mono (p.1 + (x - p.1) / n * n) x (by omega)
      show p.2 + (x - p.1) / n * n ≤ _
      omega
  have at_z : ∀ z ∈ zs, leadF n (notShort ks ++ zs) z.1 = z.2 := fun z hz => by
    have ge : z.2 ≤ leadF n (notShort ks ++ zs) z.1 := by
      have := (leadF_ok hne z.1 (n := n)).2 z (List.mem_append_right _ hz)
      unfold lowv at this
      rw [Int.sub_self, Int.zero_ediv, Int.zero_mul, Int.add_zero] at this
      exact this
    have le : leadF n (notShort ks ++ zs) z.1 ≤ z.2 := by
      obtain ⟨p, hp, e⟩ := (leadF_ok hne z.1 (n := n)).1
      rw [← e]
      rcases List.mem_append.mp hp with hp | hp
      · exact Int.le_trans ((leadF_ok hb.low z.1 (n := n)).2 p hp) (h.in_ z hz).1
      · have b1 := h.at_ p hp
        have b2 := h.at_ z hz
        rcases pair_cases h.up p hp z hz with rfl | ⟨q1, q2⟩ | ⟨q1, q2⟩
        · unfold lowv
          rw [Int.sub_self, Int.zero_ediv, Int.zero_mul, Int.add_zero]
          exact Int.le_refl _
        · have : (z.1 - p.1) / n = 0 := Int.ediv_eq_zero_of_lt (by omega) (by omega)
          unfold lowv
          rw [this, Int.zero_mul, Int.add_zero]
          exact q2
        · have : (z.1 - p.1) / n = -1 := by
            have h1 : (z.1 - p.1 + n) / n = 0 := Int.ediv_eq_zero_of_lt (by omega) (by omega)
            have h2 : (z.1 - p.1 + n) = (z.1 - p.1) + 1 * n := by omega
            rw [h2, Int.add_mul_ediv_right _ _ (by omega)] at h1
            omega
          have := h.turn p hp z hz
          unfold lowv
          rw [‹(z.1 - p.1) / n = -1›]
          omega
    omega
  refine ⟨_, hF, fun l hl => ⟨fun hs => ?_, fun hs => ?_⟩, at_z⟩
  · have := (leadF_ok hne l.2.1 (n := n)).2 l.2 (List.mem_append_left _ (List.mem_map.mpr ⟨l, List.mem_filter.mpr ⟨hl, hs⟩, rfl⟩))
    unfold lowv at this
    rw [Int.sub_self, Int.zero_ediv, Int.zero_mul, Int.add_zero] at this
    exact this
  · have a := le_up l.2.1
    have b := (upF_min (n := n) (x := l.2.1) hb.up).2 (highv n l.2.1 l.2) (List.mem_map.mpr ⟨l.2, List.mem_map.mpr ⟨l, List.mem_filter.mpr ⟨hl, hs⟩, rfl⟩, rfl⟩)
    have c : highv n l.2.1 l.2 = l.2.2 := by
      unfold highv
      rw [Int.sub_self, Int.zero_ediv, Int.zero_mul, Int.sub_zero]
    omega
/-- what the looks at such a row tell at its places -/
theorem Fit.told {n : Int} (hn : 0 < n) {ks : List Look} (hb : Both n ks) {zs : List (Int × Int)} (h : Fit n ks zs) : Both n (ks ++ zs.map atL) ∧ ∀ z ∈ zs, lowF n (ks ++ zs.map atL) z.1 = z.2 ∧ upF n (ks ++ zs.map atL) z.1 = z.2 := by
  obtain ⟨F, hF, hk, hz⟩ := h.hand hn hb
  have hok : ∀ l ∈ ks ++ zs.map atL, Ok F l := fun l hl => by
    rcases List.mem_append.mp hl with hl | hl
    · exact hk l hl
    · obtain ⟨z, hz', rfl⟩ := List.mem_map.mp hl
      have e : F (atL z).2.1 = (atL z).2.2 := hz z hz'
      exact ⟨fun _ => by rw [e]; exact Int.le_refl _, fun _ => by rw [e]; exact Int.le_refl _⟩
  have n1 : notShort (ks ++ zs.map atL) ≠ [] := fun e => by
    unfold notShort at e
    rw [List.filter_append, List.map_append] at e
    exact hb.low (List.append_eq_nil_iff.mp e).1
  have n2 : notBeyond (ks ++ zs.map atL) ≠ [] := fun e => by
    unfold notBeyond at e
    rw [List.filter_append, List.map_append] at e
    exact hb.up (List.append_eq_nil_iff.mp e).1
  refine ⟨⟨⟨F, hF, hok⟩, n1, n2⟩, fun z hz' => ?_⟩
  have mz : atL z ∈ ks ++ zs.map atL := List.mem_append_right _ (List.mem_map.mpr ⟨z, hz', rfl⟩)
  constructor
  · obtain ⟨m1, m2⟩ := lowF_max (n := n) (x := z.1) n1
    obtain ⟨p, hp, e⟩ := List.mem_map.mp m1
    obtain ⟨l, hl, rfl⟩ := List.mem_map.mp hp
    obtain ⟨h1, h2⟩ := List.mem_filter.mp hl
    have a := low_le hn hF (hok l h1) h2 (x := z.1)
    rw [e, hz z hz'] at a
    have b := m2 (lowv n z.1 (atL z).2) (List.mem_map.mpr ⟨_, List.mem_map.mpr ⟨_, List.mem_filter.mpr ⟨mz, ns_at z⟩, rfl⟩, rfl⟩)
    have c : lowv n z.1 (atL z).2 = z.2 := by
      show z.2 + (z.1 - z.1) / n * n = z.2
      rw [Int.sub_self, Int.zero_ediv, Int.zero_mul, Int.add_zero]
    omega
  · obtain ⟨m1, m2⟩ := upF_min (n := n) (x := z.1) n2
    obtain ⟨p, hp, e⟩ := List.mem_map.mp m1
    obtain ⟨l, hl, rfl⟩ := List.mem_map.mp hp
    obtain ⟨h1, h2⟩ := List.mem_filter.mp hl
    have a := le_high hn hF (hok l h1) h2 (x := z.1)
    rw [e, hz z hz'] at a
    have b := m2 (highv n z.1 (atL z).2) (List.mem_map.mpr ⟨_, List.mem_map.mpr ⟨_, List.mem_filter.mpr ⟨mz, nb_at z⟩, rfl⟩, rfl⟩)
    have c : highv n z.1 (atL z).2 = z.2 := by
      show z.2 - (z.1 - z.1) / n * n = z.2
      rw [Int.sub_self, Int.zero_ediv, Int.zero_mul, Int.sub_zero]
    omega
theorem zip_fs {α β : Type} : ∀ zs : List (α × β), (zs.map (·.1)).zip (zs.map (·.2)) = zs
  | [] => rfl
  | z :: zs => by
    show (z.1, z.2) :: ((zs.map (·.1)).zip (zs.map (·.2))) = z :: zs
    rw [zip_fs zs]
theorem zip_next {t : Int} : ∀ (xs : List Int) (x : Int), (x :: xs).Pairwise (· < ·) → (∀ y ∈ x :: xs, y ≤ t) → ∀ z ∈ (x :: xs).zip (xs ++ [t]), z.1 ≤ z.2 ∧ z.1 ∈ x :: xs ∧ (z.2 ∈ x :: xs ∨ z.2 = t)
  | [], x, _, ht, z, hz => by
    have e : z = (x, t) := by simpa using hz
    subst e
    exact ⟨ht x (by simp), by simp, .inr rfl⟩
  | y :: xs, x, h, ht, z, hz => by
    obtain ⟨h1, h2⟩ := List.pairwise_cons.mp h
    have hz : z = (x, y) ∨ z ∈ (y :: xs).zip (xs ++ [t]) := by simpa using hz
    rcases hz with rfl | hz
    · exact ⟨Int.le_of_lt (h1 y (by simp)), by simp, .inl (by simp)⟩
    · obtain ⟨a, b, c⟩ := zip_next xs y h2 (fun w hw => ht w (List.mem_cons_of_mem _ hw)) z hz
      exact ⟨a, List.mem_cons_of_mem _ b, c.imp (List.mem_cons_of_mem _) id⟩
theorem at_last {ys : List Int} {z : Int} : L2.atI ((ys ++ [z]).map D.int) (-1) = some (D.int z) := by
  have e : L2.ixN ((ys ++ [z]).map D.int).length (-1) = some ys.length := by
    unfold L2.ixN
    rw [List.length_map, List.length_append]
    simp only [List.length_cons, List.length_nil]
    rw [if_neg (by omega), if_pos (by omega)]
    congr 1
    omega
  unfold L2.atI
  rw [e]
  simp
theorem at_first {α : Type} {x : α} {xs : List α} : L2.atI (x :: xs) 0 = some x := by
  have e : L2.ixN (x :: xs).length 0 = some 0 := by
    unfold L2.ixN
    rw [if_pos (by omega), if_pos (by simp only [List.length_cons]; omega)]
    rfl
  unfold L2.atI
  rw [e]
  rfl
theorem eqv_concat (ys : List Int) (z : Int) : (D.lst ((ys ++ [z]).map D.int)).eqv (.lst []) = false := by
  cases ys with
  | nil => exact eqv_nil_cons _ _
  | cons y ys => exact eqv_nil_cons _ _
theorem alike_prs : ∀ ps : List (Int × Int), PySem.W.alikeAll (D.pys (ps.map prD)) (D.pys (ps.map prD)) = true
  | [] => rfl
  | p :: ps => by
    show (PySem.W.alike (prD p).py (prD p).py && PySem.W.alikeAll (D.pys (ps.map prD)) (D.pys (ps.map prD))) = true
    rw [alike_prs ps]
    rfl
theorem eqv_prs (ps : List (Int × Int)) : (D.lst (ps.map prD)).eqv (.lst (ps.map prD)) = true :=
  PySem.W.eqv_refl_alike (.list (D.pys (ps.map prD))) (alike_prs ps)
theorem eqv_prs2 {ss : List Int} {f g : Int → Int × Int} (h : ∀ s ∈ ss, f s = g s) : (D.lst (ss.map fun s => prD (f s))).eqv (.lst (ss.map fun s => prD (g s))) = true := by
  have e : ss.map (fun s => prD (f s)) = (ss.map f).map prD := by rw [List.map_map]; rfl
  have e2 : ss.map (fun s => prD (g s)) = (ss.map f).map prD := by
    rw [List.map_map]
    exact List.map_congr_left fun s hs => by rw [← h s hs]; rfl
  rw [e, e2]
  exact eqv_prs _
theorem eqv_two {a b t : Int} (h1 : a = t) (h2 : b = t) : (D.lst [.int a, .int b]).eqv (.lst [.int t, .int t]) = true := by
  subst h1 h2
  exact PySem.W.eqv_refl_alike _ rfl
theorem sure_at {xs ys : List Int} {o1 o2 : Option Int} {y : Int} (h1 : IsMax xs o1) (h2 : IsMin ys o2) (k1 : IsMax xs (some y)) (k2 : IsMin ys (some y)) : dueSure "at" o1 o2 y = true := by
  have e1 := IsMax.uniq (fun _ => Iff.rfl) h1 k1
  have e2 := IsMin.uniq (fun _ => Iff.rfl) h2 k2
  subst e1 e2
  show (decide (y ≤ y) && decide (y ≤ y)) = true
  simp
theorem heard_low {n x v : Int} (hn : 0 < n) {ks : List Look} (h : IsMax ((notShort ks).map (lowv n x)) (some v)) : IsMax ((notShort (hearAll n ks)).map (lowv n x)) (some v) :=
  ⟨(least_same hn (fun z => mem_hearAll) v).mpr h.1, fun y hy => h.2 y ((least_same hn (fun z => mem_hearAll) y).mp hy)⟩
theorem heard_up {n x v : Int} (hn : 0 < n) {ks : List Look} (h : IsMin ((notBeyond ks).map (highv n x)) (some v)) : IsMin ((notBeyond (hearAll n ks)).map (highv n x)) (some v) :=
  ⟨(greatest_same hn (fun z => mem_hearAll) v).mpr h.1, fun y hy => h.2 y ((greatest_same hn (fun z => mem_hearAll) y).mp hy)⟩
theorem fit_of {n : Int} (hn : 0 < n) {ks : List Look} (hb : Both n ks) {ss : List Int} (hss : ∀ s ∈ ss, 0 ≤ s ∧ s < n) (hup : ss.Pairwise (· < ·)) {q0 : Int} {qs : List Int} (hR : Row (ss.map fun s => (lowF n ks s, upF n ks s)) (q0 :: qs)) :
    Fit n ks (ss.zip ((q0 :: qs).map fun r => if q0 + n < r then q0 + n else r)) := by
  have hL := lowF_hand hn hb.low
  have hlen : (q0 :: qs).length = ss.length := by rw [hR.len, List.length_map]
  have q0_le : ∀ r ∈ q0 :: qs, q0 ≤ r := fun r hr => by
    rcases List.mem_cons.mp hr with rfl | hr
    · exact Int.le_refl _
    · exact (List.pairwise_cons.mp hR.up).1 r hr
  have idx : ∀ z ∈ ss.zip ((q0 :: qs).map fun r => if q0 + n < r then q0 + n else r), ∃ (i : Nat) (r : Int), ss[i]? = some z.1 ∧ (q0 :: qs)[i]? = some r ∧ z.2 = if q0 + n < r then q0 + n else r := fun z hz => by
    obtain ⟨i, hi⟩ := List.getElem?_of_mem hz
    rw [List.getElem?_zip_eq_some, List.getElem?_map] at hi
    cases e : (q0 :: qs)[i]? with
    | none => rw [e] at hi; cases hi.2
    | some r => rw [e] at hi; exact ⟨i, r, hi.1, e, (Option.some.inj hi.2).symm⟩
  have inn : ∀ (i : Nat) (s r : Int), ss[i]? = some s → (q0 :: qs)[i]? = some r → lowF n ks s ≤ r ∧ r ≤ upF n ks s := fun i s r h1 h2 => by
    have := hR.in_ i (lowF n ks s, upF n ks s) r (by rw [List.getElem?_map, h1]; rfl) h2
    exact this
  have h0 : ∃ s0, ss[0]? = some s0 := by
    have : 0 < ss.length := by rw [← hlen]; simp
    exact ⟨ss[0], List.getElem?_eq_getElem this⟩
  obtain ⟨s0, h0⟩ := h0
  have l0 := (inn 0 s0 q0 h0 rfl).1
  have b0 := hss s0 (List.mem_of_getElem? h0)
  have t0 := hL.turn s0 1
  rw [Int.one_mul] at t0
  refine ⟨fun z hz => ?_, fun z hz => ?_, ?_, fun a ha b hb' => ?_⟩
  · obtain ⟨i, r, h1, _, _⟩ := idx z hz
    exact hss _ (List.mem_of_getElem? h1)
  · obtain ⟨i, r, h1, h2, e⟩ := idx z hz
    obtain ⟨k1, k2⟩ := inn i z.1 r h1 h2
    have b1 := hss _ (List.mem_of_getElem? h1)
    have m := hL.mono z.1 (s0 + n) (by omega)
    rw [e]
    split <;> omega
  · rw [List.pairwise_iff_getElem]
    intro i j hi hj hij
    obtain ⟨i1, i2⟩ := List.getElem?_zip_eq_some.mp (List.getElem?_eq_getElem hi)
    obtain ⟨j1, j2⟩ := List.getElem?_zip_eq_some.mp (List.getElem?_eq_getElem hj)
    obtain ⟨a1, a2⟩ := List.getElem?_eq_some_iff.mp i1
    obtain ⟨c1, c2⟩ := List.getElem?_eq_some_iff.mp j1
    have p1 := List.pairwise_iff_getElem.mp hup i j a1 c1 hij
    rw [a2, c2] at p1
    refine ⟨p1, ?_⟩
    rw [List.getElem?_map] at i2 j2
    cases e1 : (q0 :: qs)[i]? with
    | none => rw [e1] at i2; cases i2
    | some r1 =>
      cases e2 : (q0 :: qs)[j]? with
      | none => rw [e2] at j2; cases j2
      | some r2 =>
        rw [e1] at i2
        rw [e2] at j2
        have f1 : (if q0 + n < r1 then q0 + n else r1) = _ := Option.some.inj i2
        have f2 : (if q0 + n < r2 then q0 + n else r2) = _ := Option.some.inj j2
        obtain ⟨d1, d2⟩ := List.getElem?_eq_some_iff.mp e1
        obtain ⟨g1, g2⟩ := List.getElem?_eq_some_iff.mp e2
        have p2 := List.pairwise_iff_getElem.mp hR.up i j d1 g1 hij
        rw [d2, g2] at p2
        rw [← f1, ← f2]
        (repeat' split) <;> omega
  · obtain ⟨i, r, h1, h2, e⟩ := idx a ha
    obtain ⟨j, r', k1, k2, e'⟩ := idx b hb'
    have m := q0_le r' (List.mem_of_getElem? k2)
    rw [e, e']
    (repeat' split) <;> omega
theorem zip_lists {ss rs : List Int} (h : rs.length = ss.length) : (ss.zip rs).map (·.1) = ss ∧ (ss.zip rs).map (·.2) = rs ∧ (ss.zip rs).length = ss.length := by
  refine ⟨List.map_fst_zip (by omega), List.map_snd_zip (by omega), by rw [List.length_zip]; omega⟩
end DK
namespace PL
open PySem PySem.Spec PyProof.Rows L2
section
variable {c : Ctx} {X : Cx} {S : AS} {Γ Γ' : Gam} {M M' : Cells} {σ σ' : L2.St} {H H' : Hp} {a b e elt tg iter : Expr} {es ifs : List Expr} {pos pos' : Pos} {Q : D → Cells → Prop} {R : Bool → Cells → Prop} {x : Str} {E : PEnds} {scope : Scope} {own : List (Str × Nat)}
/-- a.extend(e), e a list that is a cell -/
theorem we_extend {apos : Pos} (h : WE c a Γ M fun x M1 => ∃ (p : Addr) (i : Nat) (ds : List D), x = .ptr p ∧ M1[i]? = some (p, .lst ds) ∧ WE c e Γ M1 fun y M2 => ∃ (q : Addr) (j j2 : Nat) (ds2 zs : List D), y = .ptr q ∧ M2[j]? = some (p, .lst ds2) ∧ M2[j2]? = some (q, .lst zs) ∧ ds2.length + zs.length ≤ sizeLine ∧ Q .non (M2.set j (p, .lst (ds2 ++ zs))))
    (hbase : ∀ env, attributeBase a "extend" env (eval a env) = eval a env := by intro _; rfl)
    (hfew : ∀ env, ((backTo pos (starEach [e] env)).all (fun x => !x.1) && (backToKw pos (keywordEach [] env)).all (fun x => x.1.isSome)
      && decide ([e].length + ([] : List Keyword).length + (if ([] : List Keyword).isEmpty then 0 else 1) < 30)) = true := by intro _; rfl)
    (hline : (apos.endLine == pos.line) = true := by rfl) (hst : ∀ env, starEach [e] env = (false, eval e env) :: starEach [] env := by intro _; rfl) (hplain : ∀ env, (backTo pos (starEach [] env)).any (·.1) = false := by intro _; rfl) :
    WE c (.Call (.Attribute a "extend" apos) [e] [] pos) Γ M Q := .mk fun X S σ H at_ Q' hq =>
  PE.to (pe_bm PySem.F.plainAttrs_list PySem.F.slot_list_extend PySem.F.type_list_extend mt_extend wE.pe wA.pa (hbase _) (hfew _) hline (hst _) (hplain _)) (h.run X S σ H at_ _ fun v1 H1 d1 M1 c1 s1 r1 ⟨p, i, ds, e1, hi, q1⟩ => by
    subst e1; cases r1
    obtain ⟨o, ho, vs, e, rs⟩ := c1.at_ hi
    subst e
    refine ⟨tyV_list ho, PA.to (pa_cons wE.pe pa_nil (hst _)) (q1.run X S σ H1 (at_.step c1 s1) _ fun v2 H2 y M2 c2 s2 r2 ⟨q, j, j2, ds2, zs, e2, hj, hj2, hl, q2⟩ => ?_)⟩
    subst e2; cases r2
    obtain ⟨o1, ho1, vs1, e1, rs1⟩ := c2.at_ hj
    obtain ⟨o2, ho2, vs2, e2, rs2⟩ := c2.at_ hj2
    subst e1 e2
    have kp := c2.put (m' := .lst (ds2 ++ zs)) (o := .lst (vs1 ++ vs2)) hj ⟨_, rfl, rs1.append rs2⟩
    exact ⟨p, q, vs1, vs2, rfl, rfl, ho1, ho2, by rw [rs1.length, rs2.length]; exact hl, hq _ _ _ _ kp.1 ((s1.trans s2).trans kp.2) .non q2⟩)
/-- a comprehension's list, left as a cell -/
def LcC (c : Ctx) (scope : Scope) (vs0 : List Nat) (tg elt : Expr) (ifs : List Expr) (Γ : Gam) {α : Type} (xs : List α) (f : α → D) (Inv : List α → List D → Cells → Prop) (M1 : Cells) (Q : D → Cells → Prop) : Prop :=
  xs.length ≤ sizeLine ∧ Inv [] [] M1 ∧ (∀ pre y post acc M2, xs = pre ++ y :: post → acc.length ≤ pre.length → Inv pre acc M2 → Turn1 c scope vs0 tg elt ifs (f y) Γ M2 (fun d M4 => Inv (pre ++ [y]) (acc ++ [d]) M4) (fun M4 => Inv (pre ++ [y]) acc M4)) ∧
  ∀ acc M2 p, acc.length ≤ xs.length → Inv xs acc M2 → Q (.ptr p) ((p, .lst acc) :: M2)
theorem lcc_map {α : Type} {xs : List α} {f : α → D} (g : α → D) {vs0 : List Nat} (hz : xs.length ≤ sizeLine) (hs : ∀ y ∈ xs, Turn1 c scope vs0 tg elt ifs (f y) Γ M (fun d M4 => d = g y ∧ M4 = M) (fun _ => False)) (q : ∀ p, Q (.ptr p) ((p, .lst (xs.map g)) :: M)) :
    LcC c scope vs0 tg elt ifs Γ xs f (fun pre acc M2 => acc = pre.map g ∧ M2 = M) M Q := by
  obtain ⟨h1, h2, h3, _⟩ := lcq_map (Q := fun _ _ => True) g hz hs trivial
  refine ⟨h1, h2, h3, ?_⟩
  rintro acc M2 p _ ⟨rfl, rfl⟩
  exact q p
theorem lcR_coreC (is_ : c.Is X) {M1 : Cells} {H1 : Hp} {lo : Int} {n : Nat} (cr : Core c.K S M1 H1) (sl : Slots c.K (av S M1) H1 Γ σ)
    {Inv : List Nat → List D → Cells → Prop} (h : LcC c scope (own.map (·.2)) tg elt ifs Γ (List.range n) (fun k => .int (lo + (k : Int))) Inv M1 Q) {Q' : VK} (hq : ∀ v H' d M', Core c.K S M' H' → Step M1 M' H1 H' → Rep c.K (av S M') H' v d → Q d M' → Q' v H') :
    ∀ D, H1 D = none → ∃ W : Nat → Nat → Hp → Prop, (∃ m, W 0 m (upd H1 D (.lst []))) ∧ ∀ i m H, W i m H →
      ((Itr lo n).stop i H ∧ Q' (.ref D) H) ∨ ((Itr lo n).go i H ∧ ∃ Nx : Hp → Prop, (∀ H', Nx H' → ∃ m', m' < m ∧ W (i + 1) m' H') ∧ ∀ x H', (Itr lo n).yld i H x H' → gB X scope tg x (wipe σ (own.map (·.2))) H' fun σ2 H2 => wipe σ2 (own.map (·.2)) = wipe σ (own.map (·.2)) ∧ ttB X scope ifs σ2 H2 fun b H3 =>
        if b = true then tB X scope elt σ2 H3 fun y H4 => ∃ acc, H4 D = some (.lst acc) ∧ acc.length < sizeLine ∧ Nx (upd H4 D (.lst (acc ++ [y]))) else Nx H3) := by
  intro D0 hn
  obtain ⟨hz, h0, hs, hd⟩ := h
  refine lc_range (Qd := Q' (.ref D0)) (fun i H2 => ∃ acc M2, Core c.K S ((D0, .lst acc) :: M2) H2 ∧ Step M1 ((D0, .lst acc) :: M2) H1 H2 ∧ acc.length ≤ i ∧ Inv ((List.range n).take i) acc M2) ?_ ?_ ?_
  · have k := cr.cell (o := .lst []) (m := .lst []) hn ⟨[], rfl, .nil⟩
    exact ⟨[], M1, k.1, k.2, Nat.le_refl _, h0⟩
  · rintro i H2 hi ⟨acc, M2, c2, s2, hl, inv⟩
    have hx : (List.range n)[i]? = some i := List.getElem?_range hi
    obtain ⟨sp, tk⟩ := split_at hx
    have hin : i ≤ n := Nat.le_of_lt hi
    refine lc_turn is_ sl c2 s2 .int (by rw [List.length_range] at hz; omega) (hs _ i _ acc M2 sp (by rw [List.length_take, List.length_range]; omega) inv) ?_ ?_
    · intro d M4 H' c4 s4 q
      exact ⟨_, M4, c4, s4, by simp; omega, by rw [tk]; exact q⟩
    · intro M4 H' c4 s4 q
      exact ⟨_, M4, c4, s4, by omega, by rw [tk]; exact q⟩
  · rintro H2 ⟨acc, M2, c2, s2, hl, inv⟩
    have e : (List.range n).take n = List.range n := List.take_of_length_le (by rw [List.length_range]; exact Nat.le_refl _)
    rw [e] at inv
    exact hq _ _ _ _ c2 s2 .ptr (hd acc M2 D0 (by rw [List.length_range]; exact hl) inv)
/-- [.. for tg in range(a, b) ..] -/
theorem we_lcR2 {p p' : Pos} (own : List (Str × Nat)) (hb : blkC c.N c.sc scope own = true) (hg : GlC c.sc "range") (hm : c.mg "range" = none)
    (h : WE c a Γ M fun d1 M1 => WE c b Γ M1 fun d2 M2 => ∃ lo n : Int, d1 = .int lo ∧ d2 = .int n ∧ (-(2 ^ 62) ≤ lo ∧ lo < 2 ^ 62 ∧ -(2 ^ 62) ≤ n ∧ n < 2 ^ 62) ∧ ∃ Inv : List Nat → List D → Cells → Prop, LcQ c scope (own.map (·.2)) tg elt ifs Γ (List.range (n - lo).toNat) (fun k => .int (lo + (k : Int))) Inv M2 Q)
    (hst : ∀ env, starEach [a, b] env = (false, eval a env) :: starEach [b] env := by intro _; rfl) (hst2 : ∀ env, starEach [b] env = (false, eval b env) :: starEach [] env := by intro _; rfl)
    (hs : ∀ env x, foldedSetIterable (.Call (.Name "range" p) [a, b] [] p') env x = pure x := by intro _ _; rfl) : WE c (.ListComp elt [⟨tg, .Call (.Name "range" p) [a, b] [] p', ifs, 0⟩] scope pos) Γ M Q := .mk fun X S σ H at_ Q' hq =>
  PE.to (pe_lc at_.is.calm at_.is.nd (pi_range2 (at_.is.gl hg) (at_.is.mgN hm) (pa_cons wE.pe (pa_cons wE.pe pa_nil (hst2 _)) (hst _)) (by rw [hst, hst2]; rfl) (by rw [hst2]; rfl)) (at_.blkOk hb) (fun s H C cl fp => gB.pg s H C cl fp) (fun s H C cl fp => ttB.pts s H C cl fp) (fun s H C cl fp => tB.pe s H C cl fp) (hs _)) (two h at_ fun v1 v2 H2 d1 d2 M2 c2 s2 r1 r2 ⟨lo, n, e1, e2, b1, iv, q⟩ => by
    subst e1 e2
    cases r1; cases r2
    exact ⟨lo, n, rfl, b1, lcR_core at_.is c2 (at_.slots.to s2.to) q fun v H' d M' c3 s3 r3 q3 => hq v H' d M' c3 (s2.trans s3) r3 q3⟩)
theorem we_lcR2C {p p' : Pos} (own : List (Str × Nat)) (hb : blkC c.N c.sc scope own = true) (hg : GlC c.sc "range") (hm : c.mg "range" = none)
    (h : WE c a Γ M fun d1 M1 => WE c b Γ M1 fun d2 M2 => ∃ lo n : Int, d1 = .int lo ∧ d2 = .int n ∧ (-(2 ^ 62) ≤ lo ∧ lo < 2 ^ 62 ∧ -(2 ^ 62) ≤ n ∧ n < 2 ^ 62) ∧ ∃ Inv : List Nat → List D → Cells → Prop, LcC c scope (own.map (·.2)) tg elt ifs Γ (List.range (n - lo).toNat) (fun k => .int (lo + (k : Int))) Inv M2 Q)
    (hst : ∀ env, starEach [a, b] env = (false, eval a env) :: starEach [b] env := by intro _; rfl) (hst2 : ∀ env, starEach [b] env = (false, eval b env) :: starEach [] env := by intro _; rfl)
    (hs : ∀ env x, foldedSetIterable (.Call (.Name "range" p) [a, b] [] p') env x = pure x := by intro _ _; rfl) : WE c (.ListComp elt [⟨tg, .Call (.Name "range" p) [a, b] [] p', ifs, 0⟩] scope pos) Γ M Q := .mk fun X S σ H at_ Q' hq =>
  PE.to (pe_lc at_.is.calm at_.is.nd (pi_range2 (at_.is.gl hg) (at_.is.mgN hm) (pa_cons wE.pe (pa_cons wE.pe pa_nil (hst2 _)) (hst _)) (by rw [hst, hst2]; rfl) (by rw [hst2]; rfl)) (at_.blkOk hb) (fun s H C cl fp => gB.pg s H C cl fp) (fun s H C cl fp => ttB.pts s H C cl fp) (fun s H C cl fp => tB.pe s H C cl fp) (hs _)) (two h at_ fun v1 v2 H2 d1 d2 M2 c2 s2 r1 r2 ⟨lo, n, e1, e2, b1, iv, q⟩ => by
    subst e1 e2
    cases r1; cases r2
    exact ⟨lo, n, rfl, b1, lcR_coreC at_.is c2 (at_.slots.to s2.to) q fun v H' d M' c3 s3 r3 q3 => hq v H' d M' c3 (s2.trans s3) r3 q3⟩)
theorem ws_lcR2 {i : Nat} {y : Str} {py spos p p' : Pos} (own : List (Str × Nat)) (hb : blkC c.N c.sc scope own = true) (hy : c.N[i]? = some y) (hyl : c.sc.names.lookup y = some .local) (hg : GlC c.sc "range") (hm : c.mg "range" = none)
    (h : WE c a Γ M fun d1 M1 => WE c b Γ M1 fun d2 M2 => ∃ lo n : Int, d1 = .int lo ∧ d2 = .int n ∧ (-(2 ^ 62) ≤ lo ∧ lo < 2 ^ 62 ∧ -(2 ^ 62) ≤ n ∧ n < 2 ^ 62) ∧ ∃ Inv : List Nat → List D → Cells → Prop, LcQ c scope (own.map (·.2)) tg elt ifs Γ (List.range (n - lo).toNat) (fun k => .int (lo + (k : Int))) Inv M2 fun d M3 => E.nx (Γ.set i (some d)) M3)
    (hsw : ∀ env, env.scope = c.sc → swapsWith (.ListComp elt [⟨tg, .Call (.Name "range" p) [a, b] [] p', ifs, 0⟩] scope pos) (some (.Name y py)) spos.line env = pure true := by (rintro ⟨_, _, _, _, _, _, _, _, _⟩ rfl; rfl))
    (hst : ∀ env, starEach [a, b] env = (false, eval a env) :: starEach [b] env := by intro _; rfl) (hst2 : ∀ env, starEach [b] env = (false, eval b env) :: starEach [] env := by intro _; rfl)
    (hs : ∀ env x, foldedSetIterable (.Call (.Name "range" p) [a, b] [] p') env x = pure x := by intro _ _; rfl) : WS c (.Assign [.Name y py] (.ListComp elt [⟨tg, .Call (.Name "range" p) [a, b] [] p', ifs, 0⟩] scope pos) spos) E Γ M := .mk fun X S σ H at_ Ds l =>
  PS.to (ps_setLc at_.is.calm at_.is.nd (at_.is.nm hy) (by rw [at_.is.sc]; exact hyl) (hsw _ at_.is.sc) (pi_range2 (at_.is.gl hg) (at_.is.mgN hm) (pa_cons wE.pe (pa_cons wE.pe pa_nil (hst2 _)) (hst _)) (by rw [hst, hst2]; rfl) (by rw [hst2]; rfl)) (at_.blkOk hb) (fun s H C cl fp => gB.pg s H C cl fp) (fun s H C cl fp => ttB.pts s H C cl fp) (fun s H C cl fp => tB.pe s H C cl fp) (hs _)) (two h at_ fun v1 v2 H2 d1 d2 M2 c2 s2 r1 r2 ⟨lo, n, e1, e2, b1, iv, q⟩ => by
    subst e1 e2
    cases r1; cases r2
    exact ⟨lo, n, rfl, b1, lcR_core at_.is c2 (at_.slots.to s2.to) q fun v H' d M' c3 s3 r3 q3 => l.nx _ _ _ _ c3 ((at_.slots.to (s2.trans s3).to).set r3) (s2.trans s3) q3⟩)
/-- [.. for tg in xs ..], xs a cell that nobody touches meanwhile -/
theorem we_lcC {α : Type} (own : List (Str × Nat)) (hb : blkC c.N c.sc scope own = true) (f : α → D)
    (h : WE c iter Γ M fun d M1 => ∃ (p : Addr) (xs : List α) (M2 : Cells), d = .ptr p ∧ M1 = (p, .lst (xs.map f)) :: M2 ∧ ∃ Inv : List α → List D → Cells → Prop, LcQ c scope (own.map (·.2)) tg elt ifs Γ xs f Inv M2 fun d M3 => Q d ((p, .lst (xs.map f)) :: M3))
    (hs : ∀ env x, foldedSetIterable iter env x = pure x := by intro _ _; rfl) : WE c (.ListComp elt [⟨tg, iter, ifs, 0⟩] scope pos) Γ M Q := .mk fun X S σ H at_ Q' hq =>
  PE.to (pe_lc at_.is.calm at_.is.nd (pi_list wE.pe) (at_.blkOk hb) (fun s H C cl fp => gB.pg s H C cl fp) (fun s H C cl fp => ttB.pts s H C cl fp) (fun s H C cl fp => tB.pe s H C cl fp) (hs _)) (h.run X S σ H at_ _ fun v1 H1 d1 M1 c1 s1 r1 ⟨p, xs, M2, e1, e2, iv, q⟩ => by
    subst e1 e2
    cases r1
    obtain ⟨o, ho, us, eo, rs⟩ := c1.at_ (i := 0) rfl
    subst eo
    refine ⟨p, rfl, ⟨us, .inl (.inl ho)⟩, ?_⟩
    intro D0 hn
    obtain ⟨hz, h0, hs, hd⟩ := q
    have cl : Core c.K (av S [(p, .lst (xs.map f))]) M2 H1 := Core.lend (kept := [(p, MO.lst (xs.map f))]) c1
    have hp : p ∉ dom M2 := fun z => (List.nodup_cons.mp c1.nod).1 z
    have toL : To (av S ((p, .lst (xs.map f)) :: M2)) (av (av S [(p, .lst (xs.map f))]) M2) H1 H1 := To.of_iff fun b z => av_app.mp z
    have sl := (at_.slots.to s1.to).to toL
    have rs2 := rs.to toL
    have hl : us.length = xs.length := by rw [rs2.length, List.length_map]
    obtain ⟨Pv, p0, pst, pt, pd⟩ := lc_whole (Qd := Q') (D0 := D0) hn at_.is sl cl hz h0 hs fun acc M3 H3 l i c3 s3 r3 => by
      obtain ⟨b3, bs3⟩ := Core.back (kept := [(p, MO.lst (xs.map f))]) c1 c3 s3
      exact hq _ _ _ _ b3 (s1.trans bs3) (r3.to (To.of_iff fun b z => av_app.mpr z)) (hd acc M3 l i)
    refine lc_list (xs := us) (Qd := Q' (.ref D0)) Pv p0 (fun i H _ pv => ?_) (fun i v H hv pv => ?_) (fun H pv => pd H (by rw [← hl]; exact pv))
    · obtain ⟨M3, s3⟩ := pst i H pv
      exact .inl (.inl (s3.keep p _ hp ho))
    · obtain ⟨z, ex, rd⟩ := getV_map rs2 hv
      exact pt i z H v ex pv fun M3 _ s3 => rd.to s3.to)
end
end PL
namespace DK
open PySem PL
/-! all hands of a small dial, gone through as rows -/
def rowD (row : List Int) : D := .lst (row.map D.int)
/-- the first m places of a row -/
structure Part (n : Int) (m : Nat) (row : List Int) : Prop where
  len : row.length = m
  head : ∃ r0, row.head? = some r0 ∧ (-(4 * n) ≤ r0 ∧ r0 ≤ 4 * n) ∧ ∀ r ∈ row, r ≤ r0 + n
  up : row.Pairwise (· ≤ ·)
theorem part_one {n : Int} (hn : 0 < n) {row : List Int} : Part n 1 row ↔ ∃ r, row = [r] ∧ -(4 * n) ≤ r ∧ r ≤ 4 * n := by
  constructor
  · rintro ⟨h1, ⟨r0, h2, h3, _⟩, _⟩
    match row, h1 with
    | [r], _ =>
      have e : r = r0 := by simpa using h2
      subst e
      exact ⟨r, rfl, h3⟩
  · rintro ⟨r, rfl, h⟩
    exact ⟨rfl, ⟨r, rfl, h, fun z hz => by rw [List.mem_singleton.mp hz]; omega⟩, List.pairwise_singleton _ _⟩
theorem part_more {n : Int} {m : Nat} (hm : 0 < m) {row : List Int} : Part n (m + 1) row ↔ ∃ pre r0 z t, row = pre ++ [t] ∧ Part n m pre ∧ pre.head? = some r0 ∧ pre.getLast? = some z ∧ z ≤ t ∧ t ≤ r0 + n := by
  constructor
  · rintro ⟨h1, ⟨r0, h2, h3, h4⟩, h5⟩
    obtain ⟨pre, t, rfl⟩ : ∃ pre t, row = pre ++ [t] := by
      rcases List.eq_nil_or_concat row with e | ⟨pre, t, e⟩
      · rw [e] at h1; simp at h1
      · exact ⟨pre, t, by rw [e, List.concat_eq_append]⟩
    have hl : pre.length = m := by simpa using h1
    have hne : pre ≠ [] := fun e => by rw [e] at hl; simp at hl; omega
    obtain ⟨p, ps, rfl⟩ : ∃ p ps, pre = p :: ps := by
      cases pre with
      | nil => exact absurd rfl hne
      | cons p ps => exact ⟨p, ps, rfl⟩
    have e0 : p = r0 := by simpa using h2
    subst e0
    obtain ⟨z, hz⟩ : ∃ z, (p :: ps).getLast? = some z := ⟨_, List.getLast?_eq_some_getLast (by simp)⟩
    have hzm := List.mem_of_getLast? hz
    obtain ⟨q1, _, q2⟩ := List.pairwise_append.mp h5
    exact ⟨p :: ps, p, z, t, rfl, ⟨hl, ⟨p, rfl, h3, fun r hr => h4 r (List.mem_append_left _ hr)⟩, q1⟩, rfl, hz, q2 z hzm t (by simp), h4 t (by simp)⟩
  · rintro ⟨pre, r0, z, t, rfl, ⟨h1, ⟨r0', h2, h3, h4⟩, h5⟩, e0, hz, k1, k2⟩
    have e : r0' = r0 := Option.some.inj (h2.symm.trans e0)
    subst e
    refine ⟨by simp [h1], ⟨r0', ?_, h3, fun r hr => ?_⟩, ?_⟩
    · cases pre with
      | nil => cases h2
      | cons p ps => exact h2
    · rcases List.mem_append.mp hr with hr | hr
      · exact h4 r hr
      · rw [List.mem_singleton.mp hr]; exact k2
    · rw [List.pairwise_append]
      refine ⟨h5, List.pairwise_singleton _ _, fun a ha b hb => ?_⟩
      rw [List.mem_singleton.mp hb]
      obtain ⟨ys, rfl⟩ := List.getLast?_eq_some_iff.mp hz
      have := (List.pairwise_append.mp h5).2.2
      rcases List.mem_append.mp ha with ha | ha
      · exact Int.le_trans (this a ha z (by simp)) k1
      · rw [List.mem_singleton.mp ha]; exact k1
theorem floor_in' {x n : Int} (hn : 0 < n) : x - n < x / n * n ∧ x / n * n ≤ x := by
  have h1 := Int.emod_add_mul_ediv x n
  have h2 := Int.emod_nonneg x (b := n) (by omega)
  have h3 := Int.emod_lt_of_pos x hn
  rw [Int.mul_comm] at h1
  omega
/-- where a row leads -/
def rowF (n : Int) (row : List Int) (x : Int) : Int := row.getD (x % n).toNat 0 + (x - x % n)
theorem getD_at {row : List Int} {i : Nat} (h : i < row.length) : row.getD i 0 = row[i] := by
  rw [List.getD_eq_getElem?_getD, List.getElem?_eq_getElem h]; rfl
theorem row_hand {n : Int} (hn : 0 < n) {row : List Int} (h : Part n n.toNat row) : Hand n (rowF n row) := by
  obtain ⟨h1, ⟨r0, h2, h3, h4⟩, h5⟩ := h
  have hr : ∀ x : Int, (x % n).toNat < row.length := fun x => by
    have := Int.emod_nonneg x (b := n) (by omega)
    have := Int.emod_lt_of_pos x hn
    omega
  have h0 : 0 < row.length := by omega
  have e0 : row[0] = r0 := by
    rw [List.head?_eq_getElem?, List.getElem?_eq_getElem h0] at h2
    exact Option.some.inj h2
  have inc : ∀ i j (hi : i < row.length) (hj : j < row.length), i ≤ j → row[i] ≤ row[j] := fun i j hi hj hij => by
    rcases Nat.lt_or_ge i j with c | c
    · exact List.pairwise_iff_getElem.mp h5 i j hi hj c
    · have : i = j := by omega
      subst this
      exact Int.le_refl _
  refine ⟨fun x y hxy => ?_, fun x k => ?_⟩
  · unfold rowF
    rw [getD_at (hr x), getD_at (hr y)]
    have dx := Int.emod_add_mul_ediv x n
    have dy := Int.emod_add_mul_ediv y n
    have nx := Int.emod_nonneg x (b := n) (by omega)
    have ny := Int.emod_nonneg y (b := n) (by omega)
    have lx := Int.emod_lt_of_pos x hn
    have ly := Int.emod_lt_of_pos y hn
    have q : x / n ≤ y / n := Int.ediv_le_ediv hn hxy
    rcases Int.lt_or_eq_of_le q with c | c
    · have b1 := h4 row[(x % n).toNat] (List.getElem_mem (hr x))
      have b2 := inc 0 (y % n).toNat h0 (hr y) (Nat.zero_le _)
      rw [e0] at b2
      have c2 : (x / n + 1) * n ≤ y / n * n := Int.mul_le_mul_of_nonneg_right (by omega) (by omega)
      rw [Int.add_mul, Int.one_mul] at c2
      rw [Int.mul_comm] at dx dy
      omega
    · rw [← c] at dy
      have b := inc (x % n).toNat (y % n).toNat (hr x) (hr y) (by omega)
      omega
  · unfold rowF
    have e : (x + k * n) % n = x % n := by rw [Int.add_mul_emod_self_right]
    rw [e]
    omega
/-- a hand that leads 0 to no more than four turns on or back is a row -/
theorem hand_row {n : Int} (hn : 0 < n) {F : Int → Int} (hF : Hand n F) (h0 : -(4 * n) ≤ F 0 ∧ F 0 ≤ 4 * n) :
    Part n n.toNat ((List.range n.toNat).map fun (k : Nat) => F (k : Int)) ∧ ∀ x, rowF n ((List.range n.toNat).map fun (k : Nat) => F (k : Int)) x = F x := by
  have hnn : 0 < n.toNat := by omega
  constructor
  · refine ⟨by rw [List.length_map, List.length_range], ⟨F 0, ?_, h0, fun r hr => ?_⟩, ?_⟩
    · obtain ⟨m, em⟩ : ∃ m, n.toNat = m + 1 := ⟨n.toNat - 1, by omega⟩
      rw [em, List.range_succ_eq_map]
      rfl
    · obtain ⟨k, hk, rfl⟩ := List.mem_map.mp hr
      have hk := List.mem_range.mp hk
      have t := hF.turn 0 1
      rw [Int.one_mul, Int.zero_add] at t
      have := hF.mono (k : Int) n (by omega)
      omega
    · rw [List.pairwise_map]
      exact List.Pairwise.imp (R := fun (a b : Nat) => a < b) (fun {a b} (hab : a < b) => hF.mono (a : Int) (b : Int) (by omega)) List.pairwise_lt_range
  · intro x
    have nx := Int.emod_nonneg x (b := n) (by omega)
    have lx := Int.emod_lt_of_pos x hn
    unfold rowF
    rw [getD_at (by rw [List.length_map, List.length_range]; omega), List.getElem_map, List.getElem_range]
    have e : ((x % n).toNat : Int) = x % n := by omega
    rw [e]
    have t := hF.turn (x % n) (x / n)
    have dx := Int.emod_add_mul_ediv x n
    rw [Int.mul_comm] at dx
    rw [dx] at t
    omega
def isB (n : Int) (row : List Int) (l : Look) : Bool := if l.1 = "at" then decide (rowF n row l.2.1 = l.2.2) else if l.1 = "from" then decide (l.2.2 ≤ rowF n row l.2.1) else decide (rowF n row l.2.1 ≤ l.2.2)
def word3 (x : Str) : Prop := x = "at" ∨ x = "from" ∨ x = "upto"
theorem isB_ok {n : Int} {row : List Int} {l : Look} (hw : word3 l.1) : isB n row l = true ↔ Ok (rowF n row) l := by
  obtain ⟨w, x, y⟩ := l
  simp only at hw
  rcases hw with rfl | rfl | rfl
  · have e1 : nsP (("at" : Str), x, y) = true := by simp [nsP, eqv_str]; try decide
    have e2 : nbP (("at" : Str), x, y) = true := by simp [nbP, eqv_str]; try decide
    have e : isB n row ("at", x, y) = decide (rowF n row x = y) := rfl
    rw [e, decide_eq_true_eq]
    refine ⟨fun h => ⟨fun _ => ?_, fun _ => ?_⟩, fun h => ?_⟩
    · show y ≤ rowF n row x; omega
    · show rowF n row x ≤ y; omega
    · have a : y ≤ rowF n row x := h.ns e1
      have b : rowF n row x ≤ y := h.nb e2
      omega
  · have e1 : nsP (("from" : Str), x, y) = true := by simp [nsP, eqv_str]; try decide
    have e2 : nbP (("from" : Str), x, y) = false := by simp [nbP, eqv_str]; try decide
    have e : isB n row ("from", x, y) = decide (y ≤ rowF n row x) := rfl
    rw [e, decide_eq_true_eq]
    exact ⟨fun h => ⟨fun _ => h, fun z => (by rw [e2] at z; cases z)⟩, fun h => h.ns e1⟩
  · have e1 : nsP (("upto" : Str), x, y) = false := by simp [nsP, eqv_str]; try decide
    have e2 : nbP (("upto" : Str), x, y) = true := by simp [nbP, eqv_str]; try decide
    have e : isB n row ("upto", x, y) = decide (rowF n row x ≤ y) := rfl
    rw [e, decide_eq_true_eq]
    exact ⟨fun h => ⟨fun z => (by rw [e1] at z; cases z), fun _ => h⟩, fun h => h.nb e2⟩
/-- a drawn look of a small dial -/
structure AnyL (n : Int) (l : Look) : Prop where
  word : word3 l.1
  x : -n ≤ l.2.1 ∧ l.2.1 < 2 * n
  y : l.2.1 - 2 * n ≤ l.2.2 ∧ l.2.2 ≤ l.2.1 + 2 * n
/-- looks that go together -/
structure Tog (n : Int) (ks : List Look) : Prop where
  any : ∀ l ∈ ks, AnyL n l
  apart : ∀ a ∈ ks, ∀ b ∈ ks, aprt1 n a b = false
theorem aprt1_self {n : Int} (a : Look) : aprt1 n a a = false := by
  unfold aprt1
  have : ¬ (lowv n a.2.1 a.2 > a.2.2) := by
    unfold lowv
    rw [Int.sub_self, Int.zero_ediv, Int.zero_mul]
    omega
  rw [decide_eq_false this, Bool.and_false]
theorem Tog.nil {n : Int} : Tog n [] := ⟨fun l h => (by cases h), fun a h => (by cases h)⟩
theorem Tog.more {n : Int} {ks : List Look} (h : Tog n ks) {l : Look} (hl : AnyL n l) (ha : ∀ z ∈ ks, DK.apart n l z = false) : Tog n (ks ++ [l]) := by
  have sp : ∀ z ∈ ks, aprt1 n l z = false ∧ aprt1 n z l = false := fun z hz => by
    have := ha z hz
    unfold DK.apart at this
    exact Bool.or_eq_false_iff.mp this
  refine ⟨fun z hz => ?_, fun a ha' b hb => ?_⟩
  · rcases List.mem_append.mp hz with hz | hz
    · exact h.any z hz
    · rw [List.mem_singleton.mp hz]; exact hl
  · rcases List.mem_append.mp ha' with h1 | h1 <;> rcases List.mem_append.mp hb with h2 | h2
    · exact h.apart a h1 b h2
    · rw [List.mem_singleton.mp h2]; exact (sp a h1).2
    · rw [List.mem_singleton.mp h1]; exact (sp b h2).1
    · rw [List.mem_singleton.mp h1, List.mem_singleton.mp h2]; exact aprt1_self l
theorem mem_ns {ks : List Look} {l : Look} (h : l ∈ ks) (hs : nsP l = true) : l.2 ∈ notShort ks := List.mem_map.mpr ⟨l, List.mem_filter.mpr ⟨h, hs⟩, rfl⟩
theorem mem_nb {ks : List Look} {l : Look} (h : l ∈ ks) (hs : nbP l = true) : l.2 ∈ notBeyond ks := List.mem_map.mpr ⟨l, List.mem_filter.mpr ⟨h, hs⟩, rfl⟩
theorem of_ns {ks : List Look} {p : Int × Int} (h : p ∈ notShort ks) : ∃ l ∈ ks, nsP l = true ∧ l.2 = p := by
  obtain ⟨l, hl, rfl⟩ := List.mem_map.mp h
  exact ⟨l, (List.mem_filter.mp hl).1, (List.mem_filter.mp hl).2, rfl⟩
theorem of_nb {ks : List Look} {p : Int × Int} (h : p ∈ notBeyond ks) : ∃ l ∈ ks, nbP l = true ∧ l.2 = p := by
  obtain ⟨l, hl, rfl⟩ := List.mem_map.mp h
  exact ⟨l, (List.mem_filter.mp hl).1, (List.mem_filter.mp hl).2, rfl⟩
/-- a hand within the rows that is as all looks -/
structure FitH (n : Int) (ks : List Look) (F : Int → Int) : Prop where
  hand : Hand n F
  ok : ∀ l ∈ ks, Ok F l
  zero : -(4 * n) ≤ F 0 ∧ F 0 ≤ 4 * n
theorem Tog.low {n : Int} (hn : 0 < n) {ks : List Look} (h : Tog n ks) (hs : notShort ks ≠ []) : FitH n ks (lowF n ks) := by
  refine ⟨lowF_hand hn hs, fun l hl => ⟨fun e => ?_, fun e => ?_⟩, ?_⟩
  · have := (leadF_ok hs l.2.1 (n := n)).2 l.2 (mem_ns hl e)
    unfold lowv at this
    rw [Int.sub_self, Int.zero_ediv, Int.zero_mul, Int.add_zero] at this
    exact this
  · obtain ⟨p, hp, e2⟩ := (leadF_ok hs l.2.1 (n := n)).1
    obtain ⟨z, hz, hzs, rfl⟩ := of_ns hp
    have := h.apart z hz l hl
    unfold aprt1 at this
    rw [hzs, e] at this
    have := of_decide_eq_false (by simpa using this : decide (lowv n l.2.1 z.2 > l.2.2) = false)
    show leadF n (notShort ks) l.2.1 ≤ l.2.2
    omega
  · obtain ⟨p, hp, e2⟩ := (leadF_ok hs 0 (n := n)).1
    obtain ⟨z, hz, hzs, rfl⟩ := of_ns hp
    have := (h.any z hz).y
    have b := floor_in' (x := 0 - z.2.1) hn
    have e3 : lowF n ks 0 = z.2.2 + (0 - z.2.1) / n * n := e2.symm
    omega
theorem Tog.up {n : Int} (hn : 0 < n) {ks : List Look} (h : Tog n ks) (hs : notBeyond ks ≠ []) : FitH n ks (upF n ks) := by
  refine ⟨upF_hand hn hs, fun l hl => ⟨fun e => ?_, fun e => ?_⟩, ?_⟩
  · obtain ⟨p, hp, e2⟩ := List.mem_map.mp (upF_min (n := n) (x := l.2.1) hs).1
    obtain ⟨z, hz, hzs, rfl⟩ := of_nb hp
    have := h.apart l hl z hz
    unfold aprt1 at this
    rw [hzs, e] at this
    have := of_decide_eq_false (by simpa using this : decide (lowv n z.2.1 l.2 > z.2.2) = false)
    have e3 : lowv n z.2.1 l.2 = l.2.2 + (z.2.1 - l.2.1) / n * n := rfl
    have e4 : highv n l.2.1 z.2 = z.2.2 - (z.2.1 - l.2.1) / n * n := rfl
    omega
  · have := (upF_min (n := n) (x := l.2.1) hs).2 (highv n l.2.1 l.2) (List.mem_map.mpr ⟨l.2, mem_nb hl e, rfl⟩)
    have e4 : highv n l.2.1 l.2 = l.2.2 := by
      unfold highv
      rw [Int.sub_self, Int.zero_ediv, Int.zero_mul, Int.sub_zero]
    omega
  · obtain ⟨p, hp, e2⟩ := List.mem_map.mp (upF_min (n := n) (x := 0) hs).1
    obtain ⟨z, hz, hzs, rfl⟩ := of_nb hp
    have := (h.any z hz).y
    have b := floor_in' (x := z.2.1 - 0) hn
    have e3 : highv n 0 z.2 = z.2.2 - (z.2.1 - 0) / n * n := rfl
    omega
/-- all places to one turn's beginning, v turns off -/
def flat (n v x : Int) : Int := v + (x - x % n)
theorem flat_hand {n v : Int} (hn : 0 < n) : Hand n (flat n v) := by
  refine ⟨fun x y hxy => ?_, fun x k => ?_⟩
  · have dx := Int.emod_add_mul_ediv x n
    have dy := Int.emod_add_mul_ediv y n
    have q : x / n ≤ y / n := Int.ediv_le_ediv hn hxy
    have q2 : n * (x / n) ≤ n * (y / n) := Int.mul_le_mul_of_nonneg_left q (by omega)
    unfold flat
    omega
  · unfold flat
    rw [Int.add_mul_emod_self_right]
    omega
theorem Tog.flatLow {n : Int} (hn : 0 < n) {ks : List Look} (h : Tog n ks) (hs : notShort ks = []) : FitH n ks (flat n (-(4 * n))) := by
  refine ⟨flat_hand hn, fun l hl => ⟨fun e => ?_, fun _ => ?_⟩, ?_⟩
  · have := mem_ns hl e
    rw [hs] at this
    cases this
  · have a := (h.any l hl).y
    have nx := Int.emod_nonneg l.2.1 (b := n) (by omega)
    show -(4 * n) + (l.2.1 - l.2.1 % n) ≤ l.2.2
    omega
  · unfold flat
    rw [Int.zero_emod]
    omega
theorem Tog.flatUp {n : Int} (hn : 0 < n) {ks : List Look} (h : Tog n ks) (hs : notBeyond ks = []) : FitH n ks (flat n (4 * n)) := by
  refine ⟨flat_hand hn, fun l hl => ⟨fun _ => ?_, fun e => ?_⟩, ?_⟩
  · have a := (h.any l hl).y
    have lx := Int.emod_lt_of_pos l.2.1 hn
    show l.2.2 ≤ 4 * n + (l.2.1 - l.2.1 % n)
    omega
  · have := mem_nb hl e
    rw [hs] at this
    cases this
  · unfold flat
    rw [Int.zero_emod]
    omega
theorem Tog.some_hand {n : Int} (hn : 0 < n) {ks : List Look} (h : Tog n ks) : ∃ F, FitH n ks F := by
  by_cases c : notShort ks = []
  · exact ⟨_, h.flatLow hn c⟩
  · exact ⟨_, h.low hn c⟩
theorem at_of_last {r : List Int} {z : Int} (h : r.getLast? = some z) : L2.atI (r.map D.int) (-1) = some (D.int z) := by
  obtain ⟨ys, rfl⟩ := List.getLast?_eq_some_iff.mp h
  exact at_last
theorem at_of_head {r : List Int} {z : Int} (h : r.head? = some z) : L2.atI (r.map D.int) 0 = some (D.int z) := by
  cases r with
  | nil => cases h
  | cons x r => cases h; exact at_first
/-! the rows that fit -/
def fitB (n : Int) (ks : List Look) (row : List Int) : Bool := (D.lst ((ks.filter fun l => !isB n row l).map lkD)).eqv (.lst [])
theorem eqv_nil_map (xs : List Look) : (D.lst (xs.map lkD)).eqv (.lst []) = true ↔ xs = [] := by
  cases xs with
  | nil => exact ⟨fun _ => rfl, fun _ => eqv_nil_nil⟩
  | cons x xs =>
    have e : (D.lst ((x :: xs).map lkD)).eqv (.lst []) = false := eqv_nil_cons _ _
    rw [e]
    exact ⟨fun z => (by cases z), fun z => (by cases z)⟩
theorem fitB_iff {n : Int} {ks : List Look} {row : List Int} (hk : ∀ l ∈ ks, word3 l.1) : fitB n ks row = true ↔ ∀ l ∈ ks, Ok (rowF n row) l := by
  unfold fitB
  rw [eqv_nil_map, List.filter_eq_nil_iff]
  constructor
  · intro h l hl
    have := h l hl
    exact (isB_ok (hk l hl)).mp (by simpa using this)
  · intro h l hl
    have := (isB_ok (hk l hl)).mpr (h l hl)
    simp [this]
section
variable {n : Int} {ks : List Look} {rows : List (List Int)}
theorem fit_row (hn : 0 < n) (hr : ∀ row, row ∈ rows ↔ Part n n.toNat row) (ht : Tog n ks) {row : List Int} (h : row ∈ rows.filter (fitB n ks)) : Hand n (rowF n row) ∧ (∀ l ∈ ks, Ok (rowF n row) l) ∧ row.length = n.toNat := by
  obtain ⟨h1, h2⟩ := List.mem_filter.mp h
  have p := (hr row).mp h1
  exact ⟨row_hand hn p, (fitB_iff fun l hl => (ht.any l hl).word).mp h2, p.len⟩
theorem fit_mk (hn : 0 < n) (hr : ∀ row, row ∈ rows ↔ Part n n.toNat row) (ht : Tog n ks) {F : Int → Int} (h : FitH n ks F) : ∃ row ∈ rows.filter (fitB n ks), rowF n row = F := by
  obtain ⟨p, e⟩ := hand_row hn h.hand h.zero
  have e := funext e
  refine ⟨_, List.mem_filter.mpr ⟨(hr _).mpr p, ?_⟩, e⟩
  rw [fitB_iff fun l hl => (ht.any l hl).word, e]
  exact h.ok
theorem fits_ne (hn : 0 < n) (hr : ∀ row, row ∈ rows ↔ Part n n.toNat row) (ht : Tog n ks) : rows.filter (fitB n ks) ≠ [] := by
  obtain ⟨F, hF⟩ := ht.some_hand hn
  obtain ⟨row, hm, _⟩ := fit_mk hn hr ht hF
  exact List.ne_nil_of_mem hm
theorem rowF_at (hn : 0 < n) {row : List Int} {x : Int} (hx : 0 ≤ x ∧ x < n) : rowF n row x = row.getD x.toNat 0 := by
  unfold rowF
  rw [Int.emod_eq_of_lt hx.1 hx.2]
  omega
theorem fits_min (hn : 0 < n) (hr : ∀ row, row ∈ rows ↔ Part n n.toNat row) (ht : Tog n ks) (hs : notShort ks ≠ []) {x : Int} (hx : 0 ≤ x ∧ x < n) :
    IsMin ((rows.filter (fitB n ks)).map fun row => row.getD x.toNat 0) (some (lowF n ks x)) := by
  obtain ⟨row, hm, e⟩ := fit_mk hn hr ht (ht.low hn hs)
  refine ⟨List.mem_map.mpr ⟨row, hm, by rw [← rowF_at hn hx, e]⟩, fun y hy => ?_⟩
  obtain ⟨r, hr', rfl⟩ := List.mem_map.mp hy
  obtain ⟨h1, h2, _⟩ := fit_row hn hr ht hr'
  rw [← rowF_at hn hx]
  obtain ⟨p, hp, e2⟩ := (leadF_ok hs x (n := n)).1
  obtain ⟨z, hz, hzs, rfl⟩ := of_ns hp
  have := low_le hn h1 (h2 z hz) hzs (x := x)
  have e3 : lowF n ks x = lowv n x z.2 := e2.symm
  omega
theorem fits_max (hn : 0 < n) (hr : ∀ row, row ∈ rows ↔ Part n n.toNat row) (ht : Tog n ks) (hs : notBeyond ks ≠ []) {x : Int} (hx : 0 ≤ x ∧ x < n) :
    IsMax ((rows.filter (fitB n ks)).map fun row => row.getD x.toNat 0) (some (upF n ks x)) := by
  obtain ⟨row, hm, e⟩ := fit_mk hn hr ht (ht.up hn hs)
  refine ⟨List.mem_map.mpr ⟨row, hm, by rw [← rowF_at hn hx, e]⟩, fun y hy => ?_⟩
  obtain ⟨r, hr', rfl⟩ := List.mem_map.mp hy
  obtain ⟨h1, h2, _⟩ := fit_row hn hr ht hr'
  rw [← rowF_at hn hx]
  obtain ⟨p, hp, e2⟩ := List.mem_map.mp (upF_min (n := n) (x := x) hs).1
  obtain ⟨z, hz, hzs, rfl⟩ := of_nb hp
  have := le_high hn h1 (h2 z hz) hzs (x := x)
  omega
theorem fits_may (hn : 0 < n) (hr : ∀ row, row ∈ rows ↔ Part n n.toNat row) (ht : Tog n ks) {l : Look} (hl : AnyL n l) :
    ((rows.filter (fitB n ks)).any fun row => isB n row l) = mayB n (hearAll n ks) l := by
  rw [Bool.eq_iff_iff, List.any_eq_true, mayB_eq hn]
  simp only [Bool.not_eq_true', List.any_eq_false]
  constructor
  · rintro ⟨row, hm, hb⟩ z hz
    obtain ⟨h1, h2, _⟩ := fit_row hn hr ht hm
    rw [Ok.apart hn h1 ((isB_ok hl.word).mp hb) (h2 z hz)]
    exact Bool.false_ne_true
  · intro h
    have ht2 := ht.more hl fun z hz => by simpa using h z hz
    obtain ⟨F, hF⟩ := ht2.some_hand hn
    obtain ⟨row, hm, e⟩ := fit_mk hn hr ht (F := F) ⟨hF.hand, fun z hz => hF.ok z (List.mem_append_left _ hz), hF.zero⟩
    refine ⟨row, hm, (isB_ok hl.word).mpr ?_⟩
    rw [e]
    exact hF.ok l (List.mem_append_right _ (by simp))
theorem fits_sure (hn : 0 < n) (hr : ∀ row, row ∈ rows ↔ Part n n.toNat row) (ht : Tog n ks) {l : Look} (hl : AnyL n l) {o1 o2 : Option Int}
    (h1 : IsMax ((notShort ks).map (lowv n l.2.1)) o1) (h2 : IsMin ((notBeyond ks).map (highv n l.2.1)) o2) :
    ((rows.filter (fitB n ks)).all fun row => isB n row l) = dueSure l.1 o1 o2 l.2.2 := by
  -- from below, from above
  have lo : (∀ row ∈ rows.filter (fitB n ks), l.2.2 ≤ rowF n row l.2.1) ↔ sUnder o1 l.2.2 = true := by
    by_cases c : notShort ks = []
    · have e : o1 = none := by
        cases o1 with
        | none => rfl
        | some v => have := h1.1; rw [c] at this; cases this
      subst e
      constructor
      · intro h
        obtain ⟨row, hm, e⟩ := fit_mk hn hr ht (ht.flatLow hn c)
        have := h row hm
        rw [e] at this
        have nx := Int.emod_nonneg l.2.1 (b := n) (by omega)
        have a := hl.y
        unfold flat at this
        omega
      · intro h; cases h
    · have e : o1 = some (lowF n ks l.2.1) := IsMax.uniq (fun _ => Iff.rfl) h1 (lowF_max c)
      subst e
      show _ ↔ decide (l.2.2 ≤ lowF n ks l.2.1) = true
      rw [decide_eq_true_eq]
      constructor
      · intro h
        obtain ⟨row, hm, e⟩ := fit_mk hn hr ht (ht.low hn c)
        have := h row hm
        rw [e] at this
        exact this
      · intro h row hm
        obtain ⟨k1, k2, _⟩ := fit_row hn hr ht hm
        obtain ⟨p, hp, e2⟩ := (leadF_ok c l.2.1 (n := n)).1
        obtain ⟨z, hz, hzs, rfl⟩ := of_ns hp
        have := low_le hn k1 (k2 z hz) hzs (x := l.2.1)
        have e3 : lowF n ks l.2.1 = lowv n l.2.1 z.2 := e2.symm
        omega
  have hi : (∀ row ∈ rows.filter (fitB n ks), rowF n row l.2.1 ≤ l.2.2) ↔ sAbove o2 l.2.2 = true := by
    by_cases c : notBeyond ks = []
    · have e : o2 = none := by
        cases o2 with
        | none => rfl
        | some v => have := h2.1; rw [c] at this; cases this
      subst e
      constructor
      · intro h
        obtain ⟨row, hm, e⟩ := fit_mk hn hr ht (ht.flatUp hn c)
        have := h row hm
        rw [e] at this
        have lx := Int.emod_lt_of_pos l.2.1 hn
        have a := hl.y
        unfold flat at this
        omega
      · intro h; cases h
    · have e : o2 = some (upF n ks l.2.1) := IsMin.uniq (fun _ => Iff.rfl) h2 (upF_min c)
      subst e
      show _ ↔ decide (upF n ks l.2.1 ≤ l.2.2) = true
      rw [decide_eq_true_eq]
      constructor
      · intro h
        obtain ⟨row, hm, e⟩ := fit_mk hn hr ht (ht.up hn c)
        have := h row hm
        rw [e] at this
        exact this
      · intro h row hm
        obtain ⟨k1, k2, _⟩ := fit_row hn hr ht hm
        obtain ⟨p, hp, e2⟩ := List.mem_map.mp (upF_min (n := n) (x := l.2.1) c).1
        obtain ⟨z, hz, hzs, rfl⟩ := of_nb hp
        have := le_high hn k1 (k2 z hz) hzs (x := l.2.1)
        omega
  rw [Bool.eq_iff_iff, List.all_eq_true]
  obtain ⟨w, x, y⟩ := l
  have hw := hl.word
  simp only at hw lo hi ⊢
  rcases hw with rfl | rfl | rfl
  · have e : ∀ row, isB n row ("at", x, y) = decide (rowF n row x = y) := fun row => rfl
    have e2 : dueSure "at" o1 o2 y = (sUnder o1 y && sAbove o2 y) := rfl
    rw [e2, Bool.and_eq_true, ← lo, ← hi]
    simp only [e, decide_eq_true_eq]
    exact ⟨fun h => ⟨fun row hm => by rw [h row hm]; exact Int.le_refl _, fun row hm => by rw [h row hm]; exact Int.le_refl _⟩, fun h row hm => by have := h.1 row hm; have := h.2 row hm; omega⟩
  · have e : ∀ row, isB n row ("from", x, y) = decide (y ≤ rowF n row x) := fun row => rfl
    have e2 : dueSure "from" o1 o2 y = sUnder o1 y := rfl
    rw [e2, ← lo]
    simp only [e, decide_eq_true_eq]
  · have e : ∀ row, isB n row ("upto", x, y) = decide (rowF n row x ≤ y) := fun row => rfl
    have e2 : dueSure "upto" o1 o2 y = sAbove o2 y := rfl
    rw [e2, ← hi]
    simp only [e, decide_eq_true_eq]
end
theorem eqv_blT (a : Bool) : (D.bl a).eqv (.bl true) = a := by cases a <;> rfl
theorem eqv_blF (a : Bool) : (D.bl a).eqv (.bl false) = !a := by cases a <;> rfl
theorem any_T {α : Type} (xs : List α) (p : α → Bool) : ((xs.map fun x => D.bl (p x)).any fun z => z.eqv (.bl true)) = xs.any p := by
  rw [List.any_map]
  congr 1
  funext x
  exact eqv_blT _
theorem nany_F {α : Type} (xs : List α) (p : α → Bool) : (!(xs.map fun x => D.bl (p x)).any fun z => z.eqv (.bl false)) = xs.all p := by
  rw [List.any_map, List.not_any_eq_all_not]
  congr 1
  funext x
  show (!(D.bl (p x)).eqv (.bl false)) = p x
  rw [eqv_blF, Bool.not_not]
end DK
namespace PL
open PySem PySem.Spec PyProof.Rows L2
section
variable {c : Ctx} {X : Cx} {S : AS} {Γ Γ' : Gam} {M M' : Cells} {σ σ' : L2.St} {H H' : Hp} {a b e tg : Expr} {es : List Expr} {pos pos' : Pos} {Q : D → Cells → Prop} {R : Bool → Cells → Prop} {x : Str} {E : PEnds} {body : List Stmt}
theorem Reps.flat {K : PySem.W.Frag} {A : AS} {H : Hp} {vs : List V} {ds : List D} (r : Reps K A H vs ds) : ∀ k : Nat, Reps K A H (List.replicate k vs).flatten (List.replicate k ds).flatten
  | 0 => .nil
  | k + 1 => by
    rw [List.replicate_succ, List.replicate_succ, List.flatten_cons, List.flatten_cons]
    exact r.append (r.flat k)
/-- [..] * k, the list a cell that nobody else has -/
theorem we_rep (h : WE c a Γ M fun x M1 => ∃ p, x = .ptr p ∧ WE c b Γ M1 fun y M2 => ∃ (k : Int) (i : Nat) (ds : List D), y = .int k ∧ M2[i]? = some (p, .lst ds) ∧ (-(2 ^ 63) ≤ k ∧ k < 2 ^ 63) ∧ ds.length * k.toNat ≤ sizeLine ∧ Q (.lst (List.replicate k.toNat ds).flatten) (M2.eraseIdx i)) : WE c (.BinOp a .Mult b pos) Γ M Q := .mk fun X S σ H at_ Q' hq =>
  PE.to (pe_op op_rep wE.pe wE.pe) (h.run X S σ H at_ _ fun v1 H1 d1 M1 c1 s1 r1 ⟨p, e1, q1⟩ => by
    subst e1; cases r1
    refine q1.run X S σ H1 (at_.step c1 s1) _ fun v2 H2 d2 M2 c2 s2 r2 ⟨k, i, ds, e2, hi, hk, hz, q⟩ => ?_
    subst e2; cases r2
    obtain ⟨o, ho, vs, eo, rs⟩ := c2.at_ hi
    subst eo
    refine ⟨p, k, vs, rfl, rfl, ho, hk.1, hk.2, by rw [rs.length]; exact hz, fun q' np => ?_⟩
    obtain ⟨c3, r3, s3⟩ := c2.freeze hi
    have rf : Reps c.K (av S (M2.eraseIdx i)) H2 vs ds := rs.to s3.to
    obtain ⟨k1, k2, k3⟩ := fresh_lst (K := c.K) c3 np (rf.flat k.toNat)
    exact hq _ _ _ _ k1 (((s1.trans s2).trans s3).trans k2) k3 q)
/-- for over a list of data that is told only behind the iterable -/
theorem ws_forLx {α : Type} (f : α → D)
    (h : WE c e Γ M fun d M1 => ∃ xs : List α, d = .lst (xs.map f) ∧ ∃ Inv : List α → Gam → Cells → Prop, Inv [] Γ M1 ∧
      (∀ pre y post Γ2 M2, xs = pre ++ y :: post → Inv pre Γ2 M2 → WG c tg (f y) Γ2 M2 fun Γ3 M3 => WSs c body { nx := Inv (pre ++ [y]), ct := Inv (pre ++ [y]), bk := E.nx, rt := E.rt } Γ3 M3) ∧ ∀ Γ2 M2, Inv xs Γ2 M2 → E.nx Γ2 M2)
    (hs : ∀ env x, foldedSetIterable e env x = pure x := by intro _ _; rfl) : WS c (.For tg e body [] pos) E Γ M := .mk fun X S σ H at_ Ds l => by
  refine PS.to (ps_for at_.is.po at_.is.calm (pi_list wE.pe) wG.pg wSs.pss (hs _)) (h.run X S σ H at_ _ fun v1 H1 d1 M1 c1 s1 r1 ⟨xs, e1, Iv, inv0, step, fin⟩ => ?_)
  subst e1
  cases r1 with
  | lst h1 h2 =>
    rename_i a vs
    have hl : vs.length = xs.length := by rw [h2.length, List.length_map]
    refine ⟨_, rfl, ⟨_, by rw [at_.is.K]; exact h1.sq⟩, for_list (xs := vs) (fun i σ2 H2 => ∃ Γ2 M2, Core c.K S M2 H2 ∧ Slots c.K (av S M2) H2 Γ2 σ2 ∧ Step M1 M2 H1 H2 ∧ Iv (xs.take i) Γ2 M2)
      ⟨Γ, M1, c1, at_.slots.to s1.to, .refl, inv0⟩ (fun i σ2 H2 _ ⟨Γ2, M2, c2, sl2, st2, _⟩ => by rw [at_.is.K]; exact (st2.to.rdl h1).sq) ?_ ?_⟩
    · rintro i y σ2 H2 hi ⟨Γ2, M2, c2, sl2, st2, inv⟩
      obtain ⟨z, ex, rd⟩ := getV_map h2 hi
      obtain ⟨sp, tk⟩ := split_at ex
      refine (step _ z _ Γ2 M2 sp inv).run X S σ2 H2 (at_.slot c2 sl2 (s1.trans st2)) _ (rd.to st2.to) _ fun σ3 H3 Γ3 M3 c3 sl3 st3 q => q.run X S σ3 H3 (at_.slot c3 sl3 ((s1.trans st2).trans st3)) _ ⟨?_, ?_, ?_, ?_⟩
      · intro σ4 H4 Γ4 M4 c4 sl4 st4 q4
        exact ⟨Γ4, M4, c4, sl4, (st2.trans st3).trans st4, by rw [tk]; exact q4⟩
      · intro v4 H4 d4 M4 c4 st4 r4 q4
        exact l.rt v4 H4 d4 M4 c4 (((s1.trans st2).trans st3).trans st4) r4 q4
      · intro σ4 H4 Γ4 M4 c4 sl4 st4 q4
        exact l.nx σ4 H4 Γ4 M4 c4 sl4 (((s1.trans st2).trans st3).trans st4) q4
      · intro σ4 H4 Γ4 M4 c4 sl4 st4 q4
        exact ⟨Γ4, M4, c4, sl4, (st2.trans st3).trans st4, by rw [tk]; exact q4⟩
    · rintro σ2 H2 ⟨Γ2, M2, c2, sl2, st2, inv⟩
      rw [hl, List.take_length] at inv
      exact l.nx σ2 H2 Γ2 M2 c2 sl2 (s1.trans st2) (fin Γ2 M2 inv)
end
end PL
namespace DK
open PySem PL
/-! hands led back -/
theorem least_ex {n : Int} (hn : 0 < n) {F : Int → Int} (hF : Hand n F) (y : Int) : ∃ x, y ≤ F x ∧ ∀ z, y ≤ F z → x ≤ z := by
  have go : ∀ (d : Nat) (a : Int), F a < y → y ≤ F (a + d) → ∃ x, y ≤ F x ∧ ∀ z, y ≤ F z → x ≤ z := by
    intro d
    induction d with
    | zero =>
      intro a h1 h2
      rw [show a + ((0 : Nat) : Int) = a by omega] at h2
      omega
    | succ d ih =>
      intro a h1 h2
      by_cases c : y ≤ F (a + d)
      · exact ih a h1 c
      · refine ⟨a + ((d + 1 : Nat) : Int), h2, fun z hz => ?_⟩
        rcases Int.lt_or_le z (a + ((d + 1 : Nat) : Int)) with c2 | c2
        · have := hF.mono z (a + d) (by omega)
          omega
        · exact c2
  have t1 := hF.turn 0 ((y - F 0) / n + 1)
  have t2 := hF.turn 0 ((y - F 0) / n - 1)
  have b := floor_in' (x := y - F 0) hn
  rw [Int.zero_add] at t1 t2
  have e1 : ((y - F 0) / n + 1) * n = (y - F 0) / n * n + n := by rw [Int.add_mul, Int.one_mul]
  have e2 : ((y - F 0) / n - 1) * n = (y - F 0) / n * n - n := by rw [Int.sub_mul, Int.one_mul]
  rw [e1] at t1
  rw [e2] at t2
  refine go (n + n).toNat ((y - F 0) / n * n - n) (by omega) ?_
  have e3 : (y - F 0) / n * n - n + ((n + n).toNat : Int) = (y - F 0) / n * n + n := by omega
  rw [e3]
  omega
/-- the least place that is led to y or farther -/
noncomputable def backF (n : Int) (F : Int → Int) (y : Int) : Int := Classical.epsilon fun x => y ≤ F x ∧ ∀ z, y ≤ F z → x ≤ z
theorem backF_is {n : Int} (hn : 0 < n) {F : Int → Int} (hF : Hand n F) (y : Int) : y ≤ F (backF n F y) ∧ ∀ z, y ≤ F z → backF n F y ≤ z := by
  exact Classical.epsilon_spec (p := fun x => y ≤ F x ∧ ∀ z, y ≤ F z → x ≤ z) (least_ex hn hF y)
theorem back_iff {n : Int} (hn : 0 < n) {F : Int → Int} (hF : Hand n F) {x y : Int} : backF n F y ≤ x ↔ y ≤ F x := by
  obtain ⟨h1, h2⟩ := backF_is hn hF y
  exact ⟨fun h => Int.le_trans h1 (hF.mono _ _ h), h2 x⟩
theorem back_hand {n : Int} (hn : 0 < n) {F : Int → Int} (hF : Hand n F) : Hand n (backF n F) := by
  refine ⟨fun y z hyz => ?_, fun y k => ?_⟩
  · rw [back_iff hn hF]
    have := (backF_is hn hF z).1
    omega
  · have a : backF n F (y + k * n) ≤ backF n F y + k * n := by
      rw [back_iff hn hF, hF.turn]
      have := (backF_is hn hF y).1
      omega
    have b : backF n F y ≤ backF n F (y + k * n) - k * n := by
      rw [back_iff hn hF, show backF n F (y + k * n) - k * n = backF n F (y + k * n) + (-k) * n by rw [Int.neg_mul]; omega, hF.turn]
      have := (backF_is hn hF (y + k * n)).1
      rw [Int.neg_mul]
      omega
    omega
/-- a look led back -/
def backL (l : Look) : List Look := (if nsP l then [(("upto" : Str), l.2.2, l.2.1)] else []) ++ (if nbP l then [(("from" : Str), l.2.2 + 1, l.2.1 + 1)] else [])
def bks (L : List Look) : List Look := L.flatMap backL
theorem upto_ns (p : Int × Int) : nsP (("upto" : Str), p) = false := by simp [nsP, eqv_str]; try decide
theorem upto_nb (p : Int × Int) : nbP (("upto" : Str), p) = true := by simp [nbP, eqv_str]; try decide
theorem from_ns (p : Int × Int) : nsP (("from" : Str), p) = true := by simp [nsP, eqv_str]; try decide
theorem from_nb (p : Int × Int) : nbP (("from" : Str), p) = false := by simp [nbP, eqv_str]; try decide
theorem mem_backL {l z : Look} : z ∈ backL l ↔ (nsP l = true ∧ z = (("upto" : Str), l.2.2, l.2.1)) ∨ (nbP l = true ∧ z = (("from" : Str), l.2.2 + 1, l.2.1 + 1)) := by
  unfold backL
  rw [List.mem_append]
  cases nsP l <;> cases nbP l <;> simp
theorem back_ok {n : Int} (hn : 0 < n) {F : Int → Int} (hF : Hand n F) {l : Look} : Ok F l ↔ ∀ z ∈ backL l, Ok (backF n F) z := by
  constructor
  · intro h z hz
    rcases mem_backL.mp hz with ⟨a, rfl⟩ | ⟨a, rfl⟩
    · refine ⟨fun e => (by rw [upto_ns] at e; cases e), fun _ => ?_⟩
      exact (back_iff hn hF).mpr (h.ns a)
    · refine ⟨fun _ => ?_, fun e => (by rw [from_nb] at e; cases e)⟩
      show l.2.1 + 1 ≤ backF n F (l.2.2 + 1)
      have := h.nb a
      have k := (back_iff hn hF (x := l.2.1) (y := l.2.2 + 1))
      rcases Int.lt_or_le l.2.1 (backF n F (l.2.2 + 1)) with c | c
      · omega
      · have := k.mp c; omega
  · intro h
    refine ⟨fun a => ?_, fun a => ?_⟩
    · have := (h _ (mem_backL.mpr (.inl ⟨a, rfl⟩))).nb (upto_nb _)
      exact (back_iff hn hF).mp this
    · have := (h _ (mem_backL.mpr (.inr ⟨a, rfl⟩))).ns (from_ns _)
      have this : l.2.1 + 1 ≤ backF n F (l.2.2 + 1) := this
      rcases Int.lt_or_le l.2.2 (F l.2.1) with c | c
      · have := (back_iff hn hF (x := l.2.1) (y := l.2.2 + 1)).mpr (by omega)
        omega
      · exact c
theorem ok_home {n : Int} {F : Int → Int} (hF : Hand n F) {l : Look} : Ok F (home n l) ↔ Ok F l := by
  refine ⟨fun h => ?_, fun h => h.home hF⟩
  have e : F (l.2.1 - l.2.1 / n * n) = F l.2.1 - l.2.1 / n * n := by
    have := hF.turn l.2.1 (-(l.2.1 / n))
    rw [Int.neg_mul, ← Int.sub_eq_add_neg, ← Int.sub_eq_add_neg] at this
    exact this
  refine ⟨fun a => ?_, fun a => ?_⟩
  · have := h.ns a
    have this : l.2.2 - l.2.1 / n * n ≤ F (l.2.1 - l.2.1 / n * n) := this
    rw [e] at this
    omega
  · have := h.nb a
    have this : F (l.2.1 - l.2.1 / n * n) ≤ l.2.2 - l.2.1 / n * n := this
    rw [e] at this
    omega
theorem ok_heard {n : Int} {F : Int → Int} (hF : Hand n F) {ks : List Look} : (∀ l ∈ hearAll n ks, Ok F l) ↔ ∀ l ∈ ks, Ok F l := by
  constructor
  · intro h l hl
    exact (ok_home hF).mp (h _ (mem_hearAll.mpr ⟨l, hl, rfl⟩))
  · intro h z hz
    obtain ⟨l, hl, rfl⟩ := mem_hearAll.mp hz
    exact (ok_home hF).mpr (h l hl)
theorem ok_bks {n : Int} (hn : 0 < n) {F : Int → Int} (hF : Hand n F) {L : List Look} : (∀ l ∈ L, Ok F l) ↔ ∀ z ∈ bks L, Ok (backF n F) z := by
  unfold bks
  constructor
  · intro h z hz
    obtain ⟨l, hl, hz⟩ := List.mem_flatMap.mp hz
    exact (back_ok hn hF).mp (h l hl) z hz
  · intro h l hl
    exact (back_ok hn hF).mpr fun z hz => h z (List.mem_flatMap.mpr ⟨l, hl, hz⟩)
/-- the looks led back that a Dark tells -/
def back2 (n : Int) (ks : List Look) : List Look := bks (hearAll n ks)
theorem ok_back2 {n : Int} (hn : 0 < n) {F : Int → Int} (hF : Hand n F) {ks : List Look} : (∀ l ∈ ks, Ok F l) ↔ ∀ z ∈ hearAll n (back2 n ks), Ok (backF n F) z := by
  rw [ok_heard (back_hand hn hF)]
  unfold back2
  rw [← ok_bks hn hF, ok_heard hF]
theorem ns_back2 {n : Int} {ks : List Look} : notShort (back2 n ks) = [] ↔ notBeyond ks = [] := by
  unfold notShort notBeyond
  rw [List.map_eq_nil_iff, List.map_eq_nil_iff, List.filter_eq_nil_iff, List.filter_eq_nil_iff]
  constructor
  · intro h l hl e
    have m : home n l ∈ hearAll n ks := mem_hearAll.mpr ⟨l, hl, rfl⟩
    have := h _ (List.mem_flatMap.mpr ⟨_, m, mem_backL.mpr (.inr ⟨by show nbP l = true; exact e, rfl⟩)⟩)
    exact this (from_ns _)
  · intro h z hz e
    obtain ⟨l, hl, hz⟩ := List.mem_flatMap.mp hz
    obtain ⟨k, hk, rfl⟩ := mem_hearAll.mp hl
    rcases mem_backL.mp hz with ⟨a, rfl⟩ | ⟨a, rfl⟩
    · rw [upto_ns] at e; cases e
    · exact h k hk a
theorem nb_back2 {n : Int} {ks : List Look} : notBeyond (back2 n ks) = [] ↔ notShort ks = [] := by
  unfold notShort notBeyond
  rw [List.map_eq_nil_iff, List.map_eq_nil_iff, List.filter_eq_nil_iff, List.filter_eq_nil_iff]
  constructor
  · intro h l hl e
    have m : home n l ∈ hearAll n ks := mem_hearAll.mpr ⟨l, hl, rfl⟩
    have := h _ (List.mem_flatMap.mpr ⟨_, m, mem_backL.mpr (.inl ⟨by show nsP l = true; exact e, rfl⟩)⟩)
    exact this (upto_nb _)
  · intro h z hz e
    obtain ⟨l, hl, hz⟩ := List.mem_flatMap.mp hz
    obtain ⟨k, hk, rfl⟩ := mem_hearAll.mp hl
    rcases mem_backL.mp hz with ⟨a, rfl⟩ | ⟨a, rfl⟩
    · exact h k hk a
    · rw [from_nb] at e; cases e
/-- the greatest hand led back leads just the least of the looks led back -/
theorem back_up {n : Int} (hn : 0 < n) {ks : List Look} (hs : notBeyond ks ≠ []) {g : Int} (hok : ∀ l ∈ ks, Ok (upF n ks) l) : backF n (upF n ks) g = lowF n (back2 n ks) g := by
  have hU := upF_hand hn hs
  have hB := back_hand hn hU
  have hne : notShort (back2 n ks) ≠ [] := fun e => hs (ns_back2.mp e)
  have hokB : ∀ z ∈ back2 n ks, Ok (backF n (upF n ks)) z := by
    have := (ok_back2 hn hU).mp hok
    exact (ok_heard hB).mp this
  apply Int.le_antisymm
  · rw [back_iff hn hU]
    obtain ⟨p, hp, e⟩ := List.mem_map.mp (upF_min (n := n) (x := lowF n (back2 n ks) g) hs).1
    obtain ⟨l, hl, hb, rfl⟩ := of_nb hp
    rw [← e]
    have m : home n l ∈ hearAll n ks := mem_hearAll.mpr ⟨l, hl, rfl⟩
    have mz : (("from" : Str), (home n l).2.2 + 1, (home n l).2.1 + 1) ∈ back2 n ks := List.mem_flatMap.mpr ⟨_, m, mem_backL.mpr (.inr ⟨by show nbP l = true; exact hb, rfl⟩)⟩
    have q := (leadF_ok hne g (n := n)).2 _ (mem_ns mz (from_ns _))
    have q : (home n l).2.1 + 1 + (g - ((home n l).2.2 + 1)) / n * n ≤ lowF n (back2 n ks) g := q
    rw [← home_high hn]
    generalize home n l = z at *
    show g ≤ z.2.2 - (z.2.1 - lowF n (back2 n ks) g) / n * n
    generalize lowF n (back2 n ks) g = v at *
    have b1 := floor_in' (x := g - (z.2.2 + 1)) hn
    generalize (g - (z.2.2 + 1)) / n = t at *
    have b2 : (z.2.1 - v) / n ≤ -t - 1 := by
      refine Int.le_of_lt_add_one (Int.ediv_lt_of_lt_mul hn ?_)
      have e5 : (-t - 1 + 1) * n = -(t * n) := by
        rw [show -t - 1 + 1 = -t by omega, Int.neg_mul]
      rw [e5]
      omega
    have b3 : (z.2.1 - v) / n * n ≤ (-t - 1) * n := Int.mul_le_mul_of_nonneg_right b2 (by omega)
    rw [Int.sub_mul, Int.neg_mul, Int.one_mul] at b3
    omega
  · obtain ⟨p, hp, e⟩ := (leadF_ok hne g (n := n)).1
    obtain ⟨z, hz, hzs, rfl⟩ := of_ns hp
    have := low_le hn hB (hokB z hz) hzs (x := g)
    have e3 : lowF n (back2 n ks) g = lowv n g z.2 := e.symm
    omega
theorem back_low {n : Int} (hn : 0 < n) {ks : List Look} (hs : notShort ks ≠ []) {g : Int} (hok : ∀ l ∈ ks, Ok (lowF n ks) l) : backF n (lowF n ks) g = upF n (back2 n ks) g := by
  have hL := lowF_hand hn hs
  have hB := back_hand hn hL
  have hne : notBeyond (back2 n ks) ≠ [] := fun e => hs (nb_back2.mp e)
  have hokB : ∀ z ∈ back2 n ks, Ok (backF n (lowF n ks)) z := by
    have := (ok_back2 hn hL).mp hok
    exact (ok_heard hB).mp this
  apply Int.le_antisymm
  · obtain ⟨p, hp, e⟩ := List.mem_map.mp (upF_min (n := n) (x := g) hne).1
    obtain ⟨z, hz, hzs, rfl⟩ := of_nb hp
    have := le_high hn hB (hokB z hz) hzs (x := g)
    omega
  · rcases Int.lt_or_le (backF n (lowF n ks) g) (upF n (back2 n ks) g) with c | c
    · exfalso
      have q1 := (backF_is hn hL g).1
      generalize backF n (lowF n ks) g = v at *
      obtain ⟨p, hp, e⟩ := (leadF_ok hs v (n := n)).1
      obtain ⟨l, hl, hb, rfl⟩ := of_ns hp
      have e2 : lowF n ks v = lowv n v l.2 := e.symm
      rw [e2, ← home_low hn] at q1
      have m : home n l ∈ hearAll n ks := mem_hearAll.mpr ⟨l, hl, rfl⟩
      have mz : (("upto" : Str), (home n l).2.2, (home n l).2.1) ∈ back2 n ks := List.mem_flatMap.mpr ⟨_, m, mem_backL.mpr (.inl ⟨by show nsP l = true; exact hb, rfl⟩)⟩
      have q := (upF_min (n := n) (x := g) hne).2 _ (List.mem_map.mpr ⟨_, mem_nb mz (upto_nb _), rfl⟩)
      have q : upF n (back2 n ks) g ≤ (home n l).2.1 - ((home n l).2.2 - g) / n * n := q
      generalize home n l = z at *
      have q1 : g ≤ z.2.2 + (v - z.2.1) / n * n := q1
      generalize upF n (back2 n ks) g = u at *
      have b1 := floor_in' (x := z.2.2 - g) hn
      generalize (z.2.2 - g) / n = s at *
      have b2 : (v - z.2.1) / n ≤ -s - 1 := by
        refine Int.le_of_lt_add_one (Int.ediv_lt_of_lt_mul hn ?_)
        have e5 : (-s - 1 + 1) * n = -(s * n) := by
          rw [show -s - 1 + 1 = -s by omega, Int.neg_mul]
        rw [e5]
        omega
      have b3 : (v - z.2.1) / n * n ≤ (-s - 1) * n := Int.mul_le_mul_of_nonneg_right b2 (by omega)
      rw [Int.sub_mul, Int.neg_mul, Int.one_mul] at b3
      omega
    · exact c
/-- the row led back -/
noncomputable def backRow (n : Int) (row : List Int) : List Int := (List.range n.toNat).map fun (k : Nat) => backF n (rowF n row) (k : Int)
theorem backRow_len {n : Int} {row : List Int} : (backRow n row).length = n.toNat := by unfold backRow; rw [List.length_map, List.length_range]
theorem backRow_F {n : Int} (hn : 0 < n) {row : List Int} (h : Part n n.toNat row) (x : Int) : rowF n (backRow n row) x = backF n (rowF n row) x := by
  have hB := back_hand hn (row_hand hn h)
  have nx := Int.emod_nonneg x (b := n) (by omega)
  have lx := Int.emod_lt_of_pos x hn
  unfold backRow
  show ((List.range n.toNat).map fun (k : Nat) => backF n (rowF n row) (k : Int)).getD (x % n).toNat 0 + (x - x % n) = _
  rw [getD_at (by rw [List.length_map, List.length_range]; omega), List.getElem_map, List.getElem_range]
  have e : ((x % n).toNat : Int) = x % n := by omega
  rw [e]
  have t := hB.turn (x % n) (x / n)
  have dx := Int.emod_add_mul_ediv x n
  rw [Int.mul_comm] at dx
  rw [dx] at t
  omega
/-- within seven turns -/
theorem back_in {n : Int} (hn : 0 < n) {row : List Int} (h : Part n n.toNat row) {g : Int} (hg : 0 ≤ g ∧ g < n) : -(7 * n) < backF n (rowF n row) g ∧ backF n (rowF n row) g < 7 * n := by
  have hF := row_hand hn h
  obtain ⟨r0, h2, h3, _⟩ := h.head
  have z : rowF n row 0 = r0 := by
    rw [rowF_at hn ⟨by omega, hn⟩]
    cases e : row with
    | nil => rw [e] at h2; cases h2
    | cons x xs => rw [e] at h2; cases h2; rfl
  constructor
  · rcases Int.lt_or_le (-(7 * n)) (backF n (rowF n row) g) with c | c
    · exact c
    · have := (back_iff hn hF).mp c
      have t := hF.turn 0 (-7)
      rw [Int.zero_add, show (-7 : Int) * n = -(7 * n) by omega] at t
      omega
  · have t := hF.turn 0 6
    rw [Int.zero_add] at t
    have := (back_iff hn hF (x := 6 * n) (y := g)).mpr (by omega)
    omega
/-- the first of a range that fits -/
theorem first_in {lo hi b : Int} {p : Nat → Bool} (hb : lo ≤ b ∧ b < hi) (h1 : p (b - lo).toNat = true) (h2 : ∀ k : Nat, (k : Int) < b - lo → p k = false) : ∃ rest, ((List.range (hi - lo).toNat).filter p).map (fun (k : Nat) => D.int (lo + (k : Int))) = D.int b :: rest := by
  obtain ⟨m, em⟩ : ∃ m : Nat, (hi - lo).toNat = (b - lo).toNat + 1 + m := ⟨(hi - lo).toNat - ((b - lo).toNat + 1), by omega⟩
  have e1 : (List.range (hi - lo).toNat).filter p = (b - lo).toNat :: ((List.range m).map (fun k => (b - lo).toNat + 1 + k)).filter p := by
    rw [em, List.range_add, List.range_succ, List.filter_append, List.filter_append]
    have : (List.range (b - lo).toNat).filter p = [] := by
      rw [List.filter_eq_nil_iff]
      intro k hk
      have := List.mem_range.mp hk
      rw [h2 k (by omega)]
      exact Bool.false_ne_true
    rw [this]
    simp [h1]
  rw [e1, List.map_cons]
  exact ⟨_, by congr 2; omega⟩
/-- fits go along -/
theorem fitB_back {n : Int} (hn : 0 < n) {ks : List Look} {row : List Int} (hr : Part n n.toNat row) (hk : ∀ l ∈ ks, word3 l.1) : fitB n (hearAll n (back2 n ks)) (backRow n row) = fitB n ks row := by
  have hF := row_hand hn hr
  have e : rowF n (backRow n row) = backF n (rowF n row) := funext (backRow_F hn hr)
  have hw : ∀ l ∈ hearAll n (back2 n ks), word3 l.1 := fun l hl => by
    obtain ⟨z, hz, rfl⟩ := mem_hearAll.mp hl
    obtain ⟨u, hu, hz⟩ := List.mem_flatMap.mp hz
    rcases mem_backL.mp hz with ⟨_, rfl⟩ | ⟨_, rfl⟩
    · exact .inr (.inr rfl)
    · exact .inr (.inl rfl)
  rw [Bool.eq_iff_iff, fitB_iff hw, fitB_iff hk, e]
  exact (ok_back2 hn hF).symm
section
variable {n : Int} {ks : List Look} {rows : List (List Int)}
theorem back_min (hn : 0 < n) (hr : ∀ row, row ∈ rows ↔ Part n n.toNat row) (ht : Tog n ks) (hs : notBeyond ks ≠ []) {x : Int} (hx : 0 ≤ x ∧ x < n) :
    IsMin (((rows.filter (fitB n ks)).map (backRow n)).map fun row => row.getD x.toNat 0) (some (lowF n (back2 n ks) x)) := by
  have hne : notShort (back2 n ks) ≠ [] := fun e => hs (ns_back2.mp e)
  constructor
  · obtain ⟨row, hm, e⟩ := fit_mk hn hr ht (ht.up hn hs)
    have hp := (hr row).mp (List.mem_filter.mp hm).1
    refine List.mem_map.mpr ⟨backRow n row, List.mem_map.mpr ⟨row, hm, rfl⟩, ?_⟩
    rw [← rowF_at hn hx, backRow_F hn hp, e, back_up hn hs (ht.up hn hs).ok]
  · intro y hy
    obtain ⟨r, hr', rfl⟩ := List.mem_map.mp hy
    obtain ⟨row, hm, rfl⟩ := List.mem_map.mp hr'
    have hp := (hr row).mp (List.mem_filter.mp hm).1
    obtain ⟨h1, h2, _⟩ := fit_row hn hr ht hm
    have h3 := (ok_heard (back_hand hn h1)).mp ((ok_back2 hn h1).mp h2)
    rw [← rowF_at hn hx, backRow_F hn hp]
    obtain ⟨p, hp', e⟩ := (leadF_ok hne x (n := n)).1
    obtain ⟨z, hz, hzs, rfl⟩ := of_ns hp'
    have := low_le hn (back_hand hn h1) (h3 z hz) hzs (x := x)
    have e3 : lowF n (back2 n ks) x = lowv n x z.2 := e.symm
    omega
theorem back_max (hn : 0 < n) (hr : ∀ row, row ∈ rows ↔ Part n n.toNat row) (ht : Tog n ks) (hs : notShort ks ≠ []) {x : Int} (hx : 0 ≤ x ∧ x < n) :
    IsMax (((rows.filter (fitB n ks)).map (backRow n)).map fun row => row.getD x.toNat 0) (some (upF n (back2 n ks) x)) := by
  have hne : notBeyond (back2 n ks) ≠ [] := fun e => hs (nb_back2.mp e)
  constructor
  · obtain ⟨row, hm, e⟩ := fit_mk hn hr ht (ht.low hn hs)
    have hp := (hr row).mp (List.mem_filter.mp hm).1
    refine List.mem_map.mpr ⟨backRow n row, List.mem_map.mpr ⟨row, hm, rfl⟩, ?_⟩
    rw [← rowF_at hn hx, backRow_F hn hp, e, back_low hn hs (ht.low hn hs).ok]
  · intro y hy
    obtain ⟨r, hr', rfl⟩ := List.mem_map.mp hy
    obtain ⟨row, hm, rfl⟩ := List.mem_map.mp hr'
    have hp := (hr row).mp (List.mem_filter.mp hm).1
    obtain ⟨h1, h2, _⟩ := fit_row hn hr ht hm
    have h3 := (ok_heard (back_hand hn h1)).mp ((ok_back2 hn h1).mp h2)
    rw [← rowF_at hn hx, backRow_F hn hp]
    obtain ⟨p, hp', e⟩ := List.mem_map.mp (upF_min (n := n) (x := x) hne).1
    obtain ⟨z, hz, hzs, rfl⟩ := of_nb hp'
    have := le_high hn (back_hand hn h1) (h3 z hz) hzs (x := x)
    omega
end
theorem len_bks : ∀ L : List Look, (bks L).length ≤ 2 * L.length
  | [] => Nat.le_refl _
  | l :: L => by
    have ih := len_bks L
    have e : bks (l :: L) = backL l ++ bks L := rfl
    have b : (backL l).length ≤ 2 := by
      unfold backL
      rw [List.length_append]
      cases nsP l <;> cases nbP l <;> simp
    rw [e, List.length_append, List.length_cons]
    omega
theorem bks_split (pre : List Look) (z : Look) (post : List Look) : bks (pre ++ z :: post) = bks pre ++ (backL z ++ bks post) := by
  unfold bks
  rw [List.flatMap_append, List.flatMap_cons]
theorem hearAll_more (n : Int) (cur : List Look) (u : Look) : hearAll n (cur ++ [u]) = hearL n (hearAll n cur) u := by
  unfold hearAll
  rw [List.foldl_append]
  rfl
end DK
/-! sets of keys that are objects (tuples of ints and texts): what adding to one leaves, over any `HeapKind` -/
namespace PL
open PySem PySem.Spec PyProof.Rows L2
universe u
section
variable {P : Program} {w : World} {K : Type} [DecidableEq K]
/-- what a kind of keys has to know besides, that its keys may lie in sets -/
structure InSets (knd : HeapKind P w K) : Prop where
  room : ∀ {A : Around}, A.units < cLine → knd.room A
  cls : ∀ {A : Around} {E : Value → Shared → Prop} {s : Shared} {k : K} {b : Addr} {Q : Bool → Shared → Prop}, knd.is s.heap k b → Q false s → wpAny (model P w) A (ofAClassStatement 8 (.ref b)) Q E s
  val : ∀ {A : Around} {E : Value → Shared → Prop} {s : Shared} {k : K} {b : Addr} {Q : Bool → Shared → Prop}, knd.is s.heap k b → (∀ v, Q v s) → wpAny (model P w) A (hashByValue 8 (.ref b)) Q E s
  stays : knd.Stays
variable {knd : HeapKind P w K}
theorem InSets.keep (I : InSets knd) {h h' : Heap} {k : K} {b : Addr} (x : knd.is h k b) (hk : ∀ c o, h.get? c = some o → h'.get? c = some o) : knd.is h' k b := I.stays.stays (fun c o _ _ e _ => hk c o e) x
theorem InSets.same (I : InSets knd) {h h' : Heap} {k : K} {a b : Addr} {o : Obj} {es : Array (Int × Value)} {ep : Nat} {t : SetTable} (x : knd.is h k b) (ho : h.get? a = some o) (hd : o.data = .set es ep t) (hs : Heap.SameBut a h h') : knd.is h' k b :=
  I.stays.stays (fun c o' vs n e e' => (hs.2 c (by
    rintro rfl
    rw [Option.some.inj (e.symm.trans ho), hd] at e'
    exact nomatch e')).trans e) x

/-- the rows of a set's table -/
def rowsH (knd : HeapKind P w K) (L : List (Addr × K)) : List (Int × Value) := L.map fun p => (knd.hash p.2, Value.ref p.1)
/-- at a stands a set of these keys -/
structure SetH (knd : HeapKind P w K) (h : Heap) (a : Addr) (L : List (Addr × K)) (es : Array (Int × Value)) (ep : Nat) (t : SetTable) : Prop where
  obj : ∃ o, h.get? a = some o ∧ o.ExactSet ∧ o.data = .set es ep t
  ents : es.toList = rowsH knd L
  tab : TabOk t (L.map fun p => knd.hash p.2)
  once : (L.map (·.2)).Nodup
  keys : ∀ p ∈ L, knd.is h p.2 p.1
  led : w.params.followText "set-order" = true ∨ t.led = true
  free : L.length * 5 < t.mask * 3
  few : L.length < 64
variable {A : Around} {E : Value → Shared → Prop} {s : Shared} {a : Addr} {L : List (Addr × K)} {es : Array (Int × Value)} {ep : Nat} {t : SetTable}
theorem ents_size (h : es.toList = rowsH knd L) : es.size = L.length := by simpa [rowsH] using congrArg List.length h
theorem ents_at (h : es.toList = rowsH knd L) (i : Nat) : es[i]? = (L[i]?).map fun p => (knd.hash p.2, Value.ref p.1) := by
  rw [← Array.getElem?_toList, h, rowsH, List.getElem?_map]
theorem fits_of (hd : t.dummies = #[]) (hp : t.place.size = es.size) (hm : es.size ≤ t.mask) : t.fits es.size = true := by
  unfold SetTable.fits SetTable.fill
  rw [hd, hp]
  simpa using hm
theorem SetH.fits (R : SetH knd s.heap a L es ep t) : t.fits es.size = true := by
  have h1 := R.tab.sz
  have h2 := ents_size R.ents
  have h3 := R.free
  rw [List.length_map] at h1
  exact fits_of R.tab.dm (by omega) (by omega)
theorem SetH.keep (I : InSets knd) {h h' : Heap} (R : SetH knd h a L es ep t) (ha : ∀ o, h.get? a = some o → h'.get? a = some o) (hk : ∀ p ∈ L, knd.is h' p.2 p.1) : SetH knd h' a L es ep t :=
  let ⟨o, ho, r⟩ := R.obj
  { R with obj := ⟨o, ha o ho, r⟩, keys := hk }

/-- nothing is shown by a search among such keys -/
theorem seenH (I : InSets knd) {k : K} {b : Addr} (hk : knd.is s.heap k b) {Q : Bool → Shared → Prop} (h : Q false s) {ys : List Value} (hy : ∀ y ∈ ys, ∃ k' c, y = Value.ref c ∧ knd.is s.heap k' c) : wpAny (model P w) A (searchCouldBeSeen (.ref b) ys) Q E s := by
  unfold searchCouldBeSeen
  refine wpAny_bind (wpAny_forIn_list _ (fun rest r s' => (r.1 = none ∧ s' = s) ∧ ∀ y ∈ rest, ∃ k' c, y = Value.ref c ∧ knd.is s.heap k' c) _ ?_ ?_ _ _ ⟨⟨rfl, rfl⟩, hy⟩)
  · rintro v rest r s' ⟨⟨_, rfl⟩, hall⟩
    obtain ⟨k', c, rfl, hc⟩ := hall v List.mem_cons_self
    have more := fun u (hu : u ∈ rest) => hall u (List.mem_cons_of_mem _ hu)
    dsimp only
    cases hv : (b == c || (carriedByValue (.ref b) && carriedByValue (.ref c)))
    · refine wp_if_neg (by decide) (wpAny_bind (knd.quiet hk ?_))
      simp only [Bool.not_true, Bool.false_eq_true, if_false]
      refine wpAny_bind (knd.quiet hc ?_)
      simp only [Bool.not_true, Bool.false_eq_true, if_false]
      refine wpAny_bind (I.cls hk ?_)
      simp only [Bool.false_eq_true, if_false]
      refine wpAny_bind (I.cls hc ?_)
      simp only [Bool.false_eq_true, if_false]
      exact wpAny_pure ⟨⟨rfl, rfl⟩, more⟩
    · exact wp_if_pos rfl (wpAny_pure ⟨⟨rfl, rfl⟩, more⟩)
  · rintro ⟨r1, r2⟩ s' ⟨⟨hr, rfl⟩, _⟩
    cases hr
    exact wpAny_pure h

/-- the c-th step of a hash's way through a table -/
abbrev stepH (m : Nat) (g : Int) (c : Nat) : SetTable.Probe := nth m (runAt m (SetTable.bits g % (m + 1)) (SetTable.bits g)) c
theorem stepH_add (m : Nat) (g : Int) (c q : Nat) : nth m (stepH m g c) q = stepH m g (c + q) := (nth_add m c _ q).symm
theorem stepH_dummy (m : Nat) (g : Int) (c : Nat) : (stepH m g c).dummy = none := by
  induction c with
  | zero => rfl
  | succ c ih =>
    rw [← stepH_add m g c 1]
    show (adv m (stepH m g c)).dummy = none
    unfold adv
    split
    · exact ih
    · exact ih
/-- a search on the way of k's hash, K its first empty place -/
structure OnWay (knd : HeapKind P w K) (t : SetTable) (k : K) (n : Nat) : Prop where
  gap : way t.mask (knd.hash k) n ∉ t.place.toList
  full : ∀ c, c < n → way t.mask (knd.hash k) c ∈ t.place.toList
  near : n < 10 * SetTable.turns t.mask
theorem searchH (I : InSets knd) (R : SetH knd s.heap a L es ep t) {x : Addr} {k : K} (hx : knd.is s.heap k x) (hu : A.units < cLine) {n : Nat} (W : OnWay knd t k n) {Q : SetFound → Shared → Prop}
    (hin : k ∈ L.map (·.2) → Q (.there none) s) (hout : k ∉ L.map (·.2) → Q (.free (way t.mask (knd.hash k) n) false) s) :
    ∀ (f c : Nat) (at? : Option SetTable.Probe), at?.getD (t.probeStart (knd.hash k)) = stepH t.mask (knd.hash k) c → c ≤ n → n - c < f →
      (∀ (i : Nat) p, L[i]? = some p → p.2 = k → ∃ c', (c ≤ c' ∧ c' < n) ∧ t.place.toList[i]? = some (way t.mask (knd.hash k) c')) →
      wpAny (model P w) A (setSearchFrom a (.ref x) (knd.hash k) true f at?) Q E s := by
  intro f
  induction f with
  | zero => intro c at? _ _ hf; exact absurd hf (Nat.not_lt_zero _)
  | succ f ih =>
    intro c at? hat hc hf hre
    obtain ⟨o, ho, hex, hd⟩ := R.obj
    have gw : ¬ t.gaveWay = true := by
      unfold SetTable.gaveWay
      rw [mask_odd R.tab.mok]
      decide
    rw [setSearchFrom_succ]
    refine wpAny_bind (wpAny_setState_of ho hd R.fits ?_)
    dsimp only
    refine wp_if_neg gw ?_
    try refine wpAny_bind (wpAny_pure ?_)
    have wj : ∀ q, (nth t.mask (stepH t.mask (knd.hash k) c) q).j = way t.mask (knd.hash k) (c + q) := fun q => congrArg SetTable.Probe.j (stepH_add ..)
    -- a row of k before the place where the search stands would have been met
    have met : ∀ q : Nat, (∀ (k' i' : Nat), k' < q → t.place.toList[i']? = some (nth t.mask (stepH t.mask (knd.hash k) c) k').j → (fun i => (es[i]?.map (·.1)).getD 0) i' ≠ knd.hash k) →
        ∀ (i : Nat) (p : Addr × K) (c' : Nat), L[i]? = some p → p.2 = k → t.place.toList[i]? = some (way t.mask (knd.hash k) c') → c ≤ c' → ¬ c' < c + q := fun q hno i p c' hp hk hj h1 h2 => by
      refine hno (c' - c) i (by omega) (by rw [wj, show c + (c' - c) = c' by omega]; exact hj) ?_
      show (es[i]?.map (·.1)).getD 0 = _
      rw [ents_at R.ents, hp, ← hk]
      rfl
    rcases go_spec t R.tab.ris R.tab.dm (fun i => (es[i]?.map (·.1)).getD 0) (knd.hash k) (10 * SetTable.turns t.mask) (n - c) _ (stepH_dummy t.mask (knd.hash k) c) (by have := W.near; omega)
      (fun q hq => by rw [wj]; exact W.full _ (by omega)) (by rw [wj, show c + (n - c) = n by omega]; exact W.gap) with ⟨q, i, hq, hi, _, hno, e⟩ | ⟨hno, e⟩
    · have e' : t.probe (fun i => (es[i]?.map (·.1)).getD 0) (knd.hash k) (at?.getD (t.probeStart (knd.hash k))) = some (.candidate (way t.mask (knd.hash k) (c + q)) i (stepH t.mask (knd.hash k) (c + (q + 1)))) := by
        rw [hat, ← wj, ← stepH_add]
        exact e
      rw [e']
      dsimp only
      rw [wj] at hi
      have il : i < L.length := by
        have h1 : i < t.place.toList.length := (List.getElem?_eq_some_iff.mp hi).1
        have h2 := R.tab.sz
        rw [List.length_map] at h2
        rw [Array.length_toList] at h1
        omega
      obtain ⟨p, hp⟩ : ∃ p, L[i]? = some p := ⟨_, List.getElem?_eq_getElem il⟩
      have pm : p ∈ L := List.mem_of_getElem? hp
      have ei : es[i]? = some (knd.hash p.2, Value.ref p.1) := by rw [ents_at R.ents, hp] <;> rfl
      have live := slot_live R.tab.ris hi
      have rest : wpAny (model P w) A (searchRest a (.ref x) (knd.hash k) true f es t (way t.mask (knd.hash k) (c + q)) i (stepH t.mask (knd.hash k) (c + (q + 1)))) Q E s := by
        unfold searchRest
        rw [ei]
        dsimp only
        refine wpAny_bind (wpAny_holding (knd.eqBool (I.room hu) (R.keys p pm) hx ?_))
        refine wpAny_bind (wpAny_setState_of ho hd R.fits ?_)
        dsimp only
        rcases Classical.em (p.2 = k) with hk | hk
        · exact wp_if_pos (by simp [hk]) (wpAny_pure (hin (List.mem_map.mpr ⟨p, pm, hk⟩)))
        · refine wp_if_neg (by simp [hk]) ?_
          try refine wpAny_bind (wpAny_pure ?_)
          rw [sameMem]
          simp only [if_true, live, ei]
          refine wpAny_bind (wpAny_isSame_ref_self (wpAny_bind (wpAny_pure ?_)))
          simp only [if_true]
          refine wp_if_neg (by simp [hk]) (ih (c + (q + 1)) _ rfl (by omega) (by omega) fun i0 p0 h0 hk0 => ?_)
          obtain ⟨c', ⟨a1, a2⟩, a3⟩ := hre i0 p0 h0 hk0
          have a4 := met q hno i0 p0 c' h0 hk0 a3 a1
          refine ⟨c', ⟨?_, a2⟩, a3⟩
          rcases Nat.lt_or_ge (c + q) c' with y | y
          · omega
          · obtain rfl : c' = c + q := by omega
            have l0 := slot_live R.tab.ris a3
            rw [live] at l0
            injection l0 with l0
            rw [← l0, hp] at h0
            exact absurd ((congrArg Prod.snd (Option.some.inj h0)).trans hk0) hk
      cases hl : t.led
      · refine wp_if_pos (by decide) (wpAny_bind (seenH I hx ?_ fun y hy => ?_))
        · refine wp_if_neg (by decide) ?_
          try refine wpAny_bind (wpAny_pure ?_)
          exact rest
        · obtain ⟨e, he, rfl⟩ := List.mem_map.mp hy
          have he' : e ∈ es.toList := by
            have : e ∈ es ∧ e.1 = knd.hash k := by simpa using he
            simpa using this.1
          rw [R.ents] at he'
          obtain ⟨p2, hp2, rfl⟩ := List.mem_map.mp he'
          exact ⟨p2.2, p2.1, rfl, R.keys p2 hp2⟩
      · refine wp_if_neg (by decide) ?_
        try refine wpAny_bind (wpAny_pure ?_)
        exact rest
    · have e' : t.probe (fun i => (es[i]?.map (·.1)).getD 0) (knd.hash k) (at?.getD (t.probeStart (knd.hash k))) = some (.empty (way t.mask (knd.hash k) n) none) := by
        have e2 := wj (n - c)
        rw [show c + (n - c) = n by omega] at e2
        rw [hat, ← e2]
        exact e
      rw [e']
      dsimp only
      refine wpAny_pure (hout fun hm => ?_)
      obtain ⟨p0, h0, hk0⟩ := List.mem_map.mp hm
      obtain ⟨i0, h00⟩ := List.mem_iff_getElem?.mp h0
      obtain ⟨c', ⟨a1, a2⟩, a3⟩ := hre i0 p0 h00 hk0
      exact met (n - c) hno i0 p0 c' h00 hk0 a3 a1 (by omega)
/-- the search as adding asks for it -/
theorem searchH_add (I : InSets knd) (R : SetH knd s.heap a L es ep t) {x : Addr} {k : K} (hx : knd.is s.heap k x) (hu : A.units < cLine) {Q : SetFound → Shared → Prop}
    (hin : k ∈ L.map (·.2) → Q (.there none) s) (hout : ∀ n, OnWay knd t k n → k ∉ L.map (·.2) → Q (.free (way t.mask (knd.hash k) n) false) s) :
    wpAny (model P w) A (setSearch a (.ref x) (knd.hash k) true) Q E s := by
  have fr := R.free
  obtain ⟨n, h1, h2, h3⟩ := R.tab.first (by rw [List.length_map]; omega) (knd.hash k)
  have big : 10 * SetTable.turns t.mask ≤ 1420 := by
    unfold SetTable.turns
    rcases R.tab.mok with e | e | e <;> omega
  unfold setSearch
  refine searchH I R hx hu ⟨h2, h3, h1⟩ hin (hout n ⟨h2, h3, h1⟩) 100000 0 none rfl (Nat.zero_le _) (by omega) fun i p hp hk => ?_
  have il : i < L.length := (List.getElem?_eq_some_iff.mp hp).1
  have hj : t.place.toList[i]? = some (t.place.toList[i]'(by rw [Array.length_toList, R.tab.sz, List.length_map]; exact il)) := List.getElem?_eq_getElem _
  obtain ⟨c, hc, e⟩ := R.tab.before h2 (i := i) (by rw [List.getElem?_map, hp, ← hk] <;> rfl) hj
  exact ⟨c, ⟨Nat.zero_le _, hc⟩, by rw [hj, e]⟩

/-! ### the table laid anew -/
theorem reorder (hr : es.toList = rowsH knd L) {ord : Array Nat} (hp : ord.toList.Perm (List.range L.length)) :
    ∃ L2 : List (Addr × K), (ord.filterMap (es[·]?)).toList = rowsH knd L2 ∧ L2.Perm L ∧ (L2.map fun p => knd.hash p.2) = ord.toList.map fun i => (es.map (·.1)).getD i 0 := by
  refine ⟨ord.toList.filterMap (L[·]?), ?_, ?_, ?_⟩
  · rw [Array.toList_filterMap, rowsH, List.map_filterMap]
    congr 1
    funext i
    exact ents_at hr i
  · have e : (List.range L.length).filterMap (L[·]?) = L := by
      refine List.ext_getElem? fun i => ?_
      have key : ∀ n, n ≤ L.length → (List.range n).filterMap (L[·]?) = L.take n := by
        intro n
        induction n with
        | zero => intro _; rfl
        | succ n ih =>
          intro hn
          rw [List.range_succ, List.filterMap_append, ih (Nat.le_of_lt hn), List.take_succ]
          simp [List.getElem?_eq_getElem (show n < L.length from hn)]
      rw [key _ (Nat.le_refl _), List.take_length]
    have p := hp.filterMap (L[·]?)
    rwa [e] at p
  · have mem : ∀ i ∈ ord.toList, i < L.length := fun i hi => List.mem_range.mp (hp.mem_iff.mp hi)
    generalize ord.toList = l at mem
    induction l with
    | nil => rfl
    | cons i l ih =>
      have hi := mem i List.mem_cons_self
      have e1 : (es.map (·.1)).getD i 0 = knd.hash (L[i]).2 := by
        rw [Array.getD_eq_getD_getElem?, Array.getElem?_map, ents_at hr, List.getElem?_eq_getElem hi] <;> rfl
      rw [List.filterMap_cons_some (List.getElem?_eq_getElem hi), List.map_cons, List.map_cons, e1, ih fun j hj => mem j (List.mem_cons_of_mem _ hj)]
theorem relayH (I : InSets knd) {o : Obj} (ho : s.heap.get? a = some o) (hex : o.ExactSet) (hd : o.data = .set es ep t) (hr : es.toList = rowsH knd L) (hp : t.place.size = es.size) (hdm : t.dummies = #[]) (hfl : es.size ≤ t.mask)
    (nd : (L.map (·.2)).Nodup) (keys : ∀ p ∈ L, knd.is s.heap p.2 p.1) (ld : w.params.followText "set-order" = true ∨ t.led = true) (few : L.length < 64) {want m : Nat}
    (hw : SetTable.sizeAbove want - 1 = m) (hm : MaskOk m) (hw2 : SetTable.sizeAbove want ≤ 128) (hn : L.length * 5 < m * 3) {Q : Unit → Shared → Prop}
    (hQ : ∀ h' L' es' ep' t', Heap.SameBut a s.heap h' → SetH knd h' a L' es' ep' t' → L'.Perm L → Q () { s with heap := h' }) : wpAny (model P w) A (setRelay a want) Q E s := by
  have sz := ents_size hr
  obtain ⟨t', ord, e, pm, T, em, el, ep', ed⟩ := relaid_ok t (hs := es.map (·.1)) (wanted := want) hw hm (by rw [Array.size_map, sz]; omega)
  rw [Array.size_map, sz] at pm
  obtain ⟨L2, r1, r2, r3⟩ := reorder hr pm
  rw [← r3] at T
  have sz2 : (ord.filterMap (es[·]?)).size = es.size := by rw [ents_size r1, r2.length_eq, sz]
  rw [setRelay_eq]
  refine wpAny_bind (wpAny_setState_of ho hd (fits_of hdm hp hfl) ?_)
  dsimp only
  refine wp_if_neg (by rw [sizeLine_eq]; omega) ?_
  try refine wpAny_bind (wpAny_pure ?_)
  rw [e]
  dsimp only
  refine wpAny_bind (wp_if_neg (by rw [sz2]; simp) ?_)
  try refine wpAny_bind (wpAny_pure ?_)
  refine wpAny_pure ?_
  dsimp only
  refine wpAny_storeSet_of ho hd ?_ (by rw [sz2, sz, sizeLine_eq]; omega)
  have sb : Heap.SameBut a s.heap (s.heap.update a (Obj.putSet (ord.filterMap (es[·]?)) t')) := Heap.SameBut.update ..
  exact hQ _ L2 (ord.filterMap (es[·]?)) (ep + 1) t' sb
    { obj := ⟨_, store_at ho hd, ⟨hex.1, hex.2.1, hex.2.2⟩, rfl⟩, ents := r1, tab := T, once := (r2.map (·.2)).nodup_iff.mpr nd, keys := fun p hpm => I.same (keys p (r2.mem_iff.mp hpm)) ho hd sb
      led := by rw [el]; exact ld
      free := by rw [r2.length_eq, em]; exact hn
      few := by rw [r2.length_eq]; exact few } r2
end
end PL
/-! adding to a set of keys that are objects; set(xs); sorted of it -/
namespace PL
open PySem PySem.Spec PyProof.Rows L2
section
variable {P : Program} {w : World} {K : Type} [DecidableEq K] {knd : HeapKind P w K} {A : Around} {E : Value → Shared → Prop} {s : Shared} {a : Addr} {L : List (Addr × K)} {es : Array (Int × Value)} {ep : Nat} {t : SetTable}
/-- what adding leaves: the set as it was, or with the new key, in some order -/
def Added (L : List (Addr × K)) (x : Addr) (k : K) (L' : List (Addr × K)) : Prop := (k ∈ L.map (·.2) ∧ L' = L) ∨ (k ∉ L.map (·.2) ∧ L'.Perm ((x, k) :: L))
/-- adding, behind the search: the new row is put in, the table made larger where it is full -/
def addRow (a : Addr) (x : Value) (h : Int) (wasDummy : Bool) (es : Array (Int × Value)) (p : Nat) (t : SetTable) : Sem Bool := do
  storeSet a (SetTable.insertAt es p (h, x)) t
  if !wasDummy && t.tooFull then setRelay a (SetTable.grown (es.size + 1))
  return true
theorem addIn_eq (a : Addr) (x : Value) (h : Int) (fuel : Nat) : setAddHashedIn a x h (fuel + 1) = (do
    let (es₀, _, t₀) ← setState a
    if byScan x es₀ then
      match ← setAddByScan a x h es₀ t₀ with
      | some added => return added
      | none => return ← setAddHashedIn a x h fuel
    let .free slot wasDummy ← setSearch a x h (adding := true) | return false
    let (es, _, t) ← setState a
    let byValue ← if (t.put slot).1.plain then hashByValue 8 x else pure true
    addRow a x h wasDummy es (t.put slot).2 (if byValue then (t.put slot).1 else { (t.put slot).1 with plain := false })) := by rfl
theorem tab_plain {t : SetTable} {hs : List Int} (T : TabOk t hs) (b : Bool) : TabOk { t with plain := b } hs := ⟨T.ris, T.dm, T.sz, T.mok, T.bd, T.reach⟩
theorem addRowH (I : InSets knd) (R : SetH knd s.heap a L es ep t) {x : Addr} {k : K} (hx : knd.is s.heap k x) (few : L.length + 1 < 64) {i : Nat} {t1 : SetTable} (hm : k ∉ L.map (·.2))
    (q3 : TabOk t1 ((L.map fun p => knd.hash p.2).take i ++ knd.hash k :: (L.map fun p => knd.hash p.2).drop i)) (q4 : t1.mask = t.mask) (q5 : t1.led = t.led) (q9 : t1.fill = L.length + 1) {Q : Bool → Shared → Prop}
    (hQ : ∀ b h' L' es' ep' t', Heap.SameBut a s.heap h' → SetH knd h' a L' es' ep' t' → Added L x k L' → Q b { s with heap := h' }) : wpAny (model P w) A (addRow a (.ref x) (knd.hash k) false es i t1) Q E s := by
  obtain ⟨o, ho, hex, hd⟩ := R.obj
  have sz := ents_size R.ents
  have fr := R.free
  -- the new rows
  have hin : (SetTable.insertAt es i (knd.hash k, Value.ref x)).toList = rowsH knd (L.take i ++ (x, k) :: L.drop i) := by
    rw [SetTable.toList_insertAt, R.ents, rowsH, rowsH, List.map_append, List.map_cons, List.map_take, List.map_drop]
  have pm := put_perm L i (x, k)
  rw [show (L.map fun p => knd.hash p.2).take i ++ knd.hash k :: (L.map fun p => knd.hash p.2).drop i = (L.take i ++ (x, k) :: L.drop i).map fun p => knd.hash p.2 by
    rw [List.map_append, List.map_cons, List.map_take, List.map_drop]] at q3
  unfold addRow
  generalize L.take i ++ (x, k) :: L.drop i = L1 at pm q3 hin
  generalize SetTable.insertAt es i (knd.hash k, Value.ref x) = es1 at hin ⊢
  have len1 : L1.length = L.length + 1 := pm.length_eq
  have sz1 := (ents_size hin).trans len1
  have once1 : (L1.map (·.2)).Nodup := (pm.map (·.2)).nodup_iff.mpr (List.nodup_cons.mpr ⟨hm, R.once⟩)
  refine wpAny_bind (wpAny_storeSet_of ho hd ?_ (by rw [sz1, sizeLine_eq]; omega))
  have sb : Heap.SameBut a s.heap (s.heap.update a (Obj.putSet es1 t1)) := Heap.SameBut.update ..
  have ho1 := store_at (es' := es1) (t' := t1) ho hd
  generalize s.heap.update a (Obj.putSet es1 t1) = h1 at sb ho1 ⊢
  have keys1 : ∀ p ∈ L1, knd.is h1 p.2 p.1 := fun p hp => by
    rcases List.mem_cons.mp (pm.mem_iff.mp hp) with rfl | hp
    · exact I.same hx ho hd sb
    · exact I.same (R.keys p hp) ho hd sb
  have led1 : w.params.followText "set-order" = true ∨ t1.led = true := by rw [q5]; exact R.led
  have full : t1.tooFull = true ↔ t1.mask * 3 ≤ (L.length + 1) * 5 := by
    unfold SetTable.tooFull
    rw [decide_eq_true_eq, q9]
  cases hf : t1.tooFull
  · first
      | refine wp_if_neg (by simp) ?_
      | (refine wpAny_bind ?_; refine wp_if_neg (by simp) ?_; refine wpAny_pure ?_)
    refine wpAny_pure (hQ true h1 L1 es1 (ep + 1) t1 sb
      { obj := ⟨_, ho1, ⟨hex.1, hex.2.1, hex.2.2⟩, rfl⟩, ents := hin, tab := q3, once := once1, keys := keys1, led := led1, few := by omega
        free := by
          have z : ¬ t1.mask * 3 ≤ (L.length + 1) * 5 := fun z => by
            rw [full.mpr z] at hf
            cases hf
          omega } (.inr ⟨hm, pm⟩))
  · first
      | (refine wpAny_bind ?_; refine wp_if_pos (by simp) ?_)
      | (refine wp_if_pos (by simp) ?_; refine wpAny_bind ?_)
    have z := full.mp hf
    have szp : t1.place.size = es1.size := by rw [q3.sz, List.length_map, len1, sz1]
    rw [sz]
    have two : (t.mask = 7 ∧ L.length = 4) ∨ (t.mask = 31 ∧ L.length = 18) := by
      rw [q4] at z
      rcases R.tab.mok with e | e | e <;> rw [e] at z fr <;> omega
    have go : ∀ m, SetTable.sizeAbove (SetTable.grown (L.length + 1)) = m + 1 → MaskOk m → m ≤ 127 → (L.length + 1) * 5 < m * 3 →
        wpAny (model P w) A (setRelay a (SetTable.grown (L.length + 1))) (fun _ s' => wpAny (model P w) A (pure true) Q E s') E { s with heap := h1 } := fun m g1 g2 g3 g4 =>
      relayH I (s := { s with heap := h1 }) ho1 ⟨hex.1, hex.2.1, hex.2.2⟩ rfl hin szp q3.dm (by rw [sz1, q4]; omega) once1 keys1 led1 (by omega) (by omega) g2 (by omega) (by omega)
        fun h2 L2 es2 ep2 t2 sb2 R2 pm2 => wpAny_pure (hQ true h2 L2 es2 ep2 t2 (sb.trans sb2) R2 (.inr ⟨hm, pm2.trans pm⟩))
    rcases two with ⟨_, e⟩ | ⟨_, e⟩
    · exact go 31 (by rw [e, size_20]) (.inr (.inl rfl)) (by decide) (by omega)
    · exact go 127 (by rw [e, size_76]) (.inr (.inr rfl)) (by decide) (by omega)
theorem addH (I : InSets knd) (R : SetH knd s.heap a L es ep t) {x : Addr} {k : K} (hx : knd.is s.heap k x) (hu : A.units < cLine) (few : L.length + 1 < 64) {Q : Bool → Shared → Prop}
    (hQ : ∀ b h' L' es' ep' t', Heap.SameBut a s.heap h' → SetH knd h' a L' es' ep' t' → Added L x k L' → Q b { s with heap := h' }) : wpAny (model P w) A (setAddHashed a (.ref x) (knd.hash k)) Q E s := by
  obtain ⟨o, ho, hex, hd⟩ := R.obj
  unfold setAddHashed
  refine wpAny_holding ?_
  rw [show (100000 : Nat) = 99999 + 1 from rfl, addIn_eq]
  refine wpAny_bind (wpAny_setState_of ho hd R.fits ?_)
  dsimp only
  refine wp_if_neg (by simp [byScan, Value.scannable]) ?_
  try refine wpAny_bind (wpAny_pure ?_)
  refine wpAny_bind (searchH_add I R hx hu (fun hm => ?_) fun n W hm => ?_)
  · dsimp only
    exact wpAny_pure (hQ false s.heap L es ep t (Heap.SameBut.refl a s.heap) R (.inl ⟨hm, rfl⟩))
  · dsimp only
    refine wpAny_bind (wpAny_setState_of ho hd R.fits ?_)
    dsimp only
    obtain ⟨q1, q2, q3, q4, q5, q6, q7, q8, q9⟩ := R.tab.put W.gap W.full
    rw [List.length_map] at q9
    rw [q1]
    have row : ∀ byv : Bool, wpAny (model P w) A (addRow a (.ref x) (knd.hash k) false es (SetTable.below t.place (way t.mask (knd.hash k) n)) (if byv = true then (t.put (way t.mask (knd.hash k) n)).1 else { (t.put (way t.mask (knd.hash k) n)).1 with plain := false })) Q E s := fun byv => by
      cases byv
      · exact addRowH I R hx few hm (tab_plain q3 false) q4 q5 q9 hQ
      · exact addRowH I R hx few hm q3 q4 q5 q9 hQ
    cases hpl : (t.put (way t.mask (knd.hash k) n)).1.plain
    · first
        | (refine wpAny_bind ?_; refine wp_if_neg (by decide) ?_; exact wpAny_pure (row true))
        | refine wp_if_neg (by decide) (wpAny_bind (wpAny_pure (row true)))
    · first
        | (refine wpAny_bind ?_; refine wp_if_pos rfl ?_; exact I.val hx row)
        | refine wp_if_pos rfl (wpAny_bind (I.val hx row))

/-! ### the loop of set.update -/
/-- L is what a set has got from these items -/
structure GotH (ks : List (Addr × K)) (L : List (Addr × K)) : Prop where
  sub : ∀ p ∈ L, p ∈ ks
  all : ∀ p ∈ ks, p.2 ∈ L.map (·.2)
  len : L.length ≤ ks.length
theorem GotH.next {ks L L' : List (Addr × K)} (g : GotH ks L) {x : Addr} {k : K} (h : Added L x k L') : GotH (ks ++ [(x, k)]) L' := by
  rcases h with ⟨hm, rfl⟩ | ⟨hm, pm⟩
  · refine ⟨fun p hp => List.mem_append_left _ (g.sub p hp), fun p hp => ?_, by rw [List.length_append]; exact Nat.le_trans g.len (Nat.le_add_right _ _)⟩
    rcases List.mem_append.mp hp with hp | hp
    · exact g.all p hp
    · rw [List.mem_singleton.mp hp]; exact hm
  · refine ⟨fun p hp => ?_, fun p hp => ?_, by rw [pm.length_eq, List.length_append]; exact Nat.succ_le_succ g.len⟩
    · rcases List.mem_cons.mp (pm.mem_iff.mp hp) with rfl | hp
      · exact List.mem_append_right _ (List.mem_singleton.mpr rfl)
      · exact List.mem_append_left _ (g.sub p hp)
    · refine (pm.map (·.2)).mem_iff.mpr ?_
      rcases List.mem_append.mp hp with hp | hp
      · exact List.mem_cons_of_mem _ (g.all p hp)
      · rw [List.mem_singleton.mp hp]; exact List.mem_cons_self
theorem updateH (I : InSets knd) {it : Addr} {fp wr : List Addr} {G : Array GenState → Array GenState → Prop} {n : Nat} {Pv : Nat → Value → Prop} {St : Nat → Shared → Prop} {R : Result → Shared → Prop}
    (W : WalksS P w A.in1 it fp wr G n Pv St) (S : Addr) (hSf : S ∉ fp) (ks : List (Addr × K)) (hn : n = ks.length) (few : ks.length < 64) (hval : ∀ i v, Pv i v → ∃ p, ks[i]? = some p ∧ v = .ref p.1)
    (h0 : Heap) (hk : ∀ p ∈ ks, knd.is h0 p.2 p.1) (hS0 : h0.get? S = none) (hw0 : ∀ b ∈ wr, h0.get? b = none) (hu : A.in1.units < cLine) :
    ∀ (m i : Nat) (s : Shared), i + m = n → St i s → (∀ b o, h0.get? b = some o → s.heap.get? b = some o) → (∃ L es ep t, SetH knd s.heap S L es ep t ∧ GotH (ks.take i) L) →
      (∀ s' L es ep t, Moved (S :: wr) G s s' → SetH knd s'.heap S L es ep t → GotH ks L → (∀ b o, h0.get? b = some o → s'.heap.get? b = some o) → R (.ok (.ret .none)) s') →
      codeAny (model P w) A (.builtin "set.update.loop" ⟨[.ref S, .ref it], []⟩) R s := by
  have hSw : S ∉ wr := fun h => hSf (W.sub _ h)
  have up : ∀ b ∈ wr, b ∈ S :: wr := fun b hb => List.mem_cons_of_mem _ hb
  -- what the walk's own steps leave
  have onw : ∀ (s s' : Shared), Moved wr G s s' → (∀ b o, h0.get? b = some o → s.heap.get? b = some o) → ∀ (L : List (Addr × K)) (es : Array (Int × Value)) (ep : Nat) (t : SetTable), SetH knd s.heap S L es ep t → (∀ p ∈ L, p ∈ ks) →
      (∀ b o, h0.get? b = some o → s'.heap.get? b = some o) ∧ SetH knd s'.heap S L es ep t := by
    intro s s' hm hkp L es ep t hS sub
    have k' : ∀ b o, h0.get? b = some o → s'.heap.get? b = some o := fun b o e => hm.heap b o (fun hb => by rw [hw0 b hb] at e; cases e) (hkp b o e)
    exact ⟨k', hS.keep I (fun o e => hm.heap S o hSw e) fun p hp => I.keep (hk p (sub p hp)) k'⟩
  intro m
  induction m with
  | zero =>
    intro i s him hst hkp ⟨L, es, ep, t, hS, g⟩ hR
    obtain rfl : i = n := him
    rw [hn, List.take_length] at g
    refine codeAny_builtin F.entry_set_update_loop ?_
    rw [Around.under_plainId F.plain_set_update_loop _]
    show wpAny _ A.in1 (pyNext (.ref it) >>= _) _ _ s
    refine wpAny_bind (W.done s _ _ hst fun s' hm => ?_)
    obtain ⟨k', hS'⟩ := onw _ _ hm hkp _ _ _ _ hS g.sub
    exact wpAny_pure (hR s' L es ep t (hm.mono up) hS' g k')
  | succ m ih =>
    intro i s him hst hkp ⟨L, es, ep, t, hS, g⟩ hR
    refine codeAny_builtin F.entry_set_update_loop ?_
    rw [Around.under_plainId F.plain_set_update_loop _]
    show wpAny _ A.in1 (pyNext (.ref it) >>= _) _ _ s
    refine wpAny_bind (W.item i s _ _ (by omega) hst fun v s' hP hst' hm => ?_)
    obtain ⟨⟨x, k⟩, hp, rfl⟩ := hval i v hP
    obtain ⟨k', hS'⟩ := onw _ _ hm hkp _ _ _ _ hS fun p hp => List.mem_of_mem_take (g.sub p hp)
    have hx : knd.is s'.heap k x := I.keep (hk _ (List.mem_of_getElem? hp)) k'
    have il : i < ks.length := (List.getElem?_eq_some_iff.mp hp).1
    show wpAny _ A.in1 (holding [Value.ref x] (setAdd S (.ref x)) >>= _) _ _ s'
    refine wpAny_bind (wpAny_holding ?_)
    unfold setAdd
    refine wpAny_holding (wpAny_bind (knd.pyHash (I.room hu) hx ?_))
    refine addH (s := { s' with toks := s'.toks + knd.draws k }) I hS' hx hu (by
      have := g.len
      rw [List.length_take] at this
      omega) fun b h' L' es' ep' t' sb hS2 ad => ?_
    have g' : GotH (ks.take (i + 1)) L' := by
      rw [take_next hp]
      exact g.next ad
    have k2 : ∀ b o, h0.get? b = some o → h'.get? b = some o := fun b o e => (sb.2 b (fun z => by rw [z, hS0] at e; cases e)).trans (k' b o e)
    refine wpAny_pure ⟨plainId_quiet F.plain_set_update_loop _, ih (i + 1) _ (by omega) (W.frame _ s' _ _ hst' (Nat.le_add_right _ _) fun b hb o e => ?_) k2 ⟨L', es', ep', t', hS2, g'⟩ fun s'' L2 es2 ep2 t2 hm'' hS'' g'' k'' => ?_⟩
    · exact (sb.2 b (fun z : b = S => hSf (z ▸ hb))).trans e
    · refine hR s'' L2 es2 ep2 t2 (Moved.trans W.gtrans ((hm.mono up).then_heap (Nat.le_add_right _ _) fun b o hb e => ?_) hm'') hS'' g'' k''
      exact (sb.2 b (fun z : b = S => hb (z ▸ List.mem_cons_self))).trans e
end
end PL
/-! set(xs) of keys that are objects, sorted of it; tuples of ints and texts -/
namespace PL
open PySem PySem.Spec PyProof.Rows L2
open PySem.W (sortingHeap sortingHeap_old)
theorem perm_lift {α β : Type} {f : α → β} {u v : List β} (h : u.Perm v) : ∀ {l : List α}, v = l.map f → ∃ l' : List α, l'.Perm l ∧ u = l'.map f := by
  induction h with
  | nil => intro l e; exact ⟨l, .refl _, e⟩
  | cons x _ ih =>
    intro l e
    cases l with
    | nil => cases e
    | cons y l =>
      injection e with e1 e2
      obtain ⟨l', p, e3⟩ := ih e2
      exact ⟨y :: l', p.cons y, by rw [List.map_cons, ← e3, e1]⟩
  | swap x y _ =>
    intro l e
    cases l with
    | nil => cases e
    | cons b l =>
      cases l with
      | nil => simp at e
      | cons c l =>
        injection e with e1 e2
        injection e2 with e2 e3
        exact ⟨c :: b :: l, .swap .., by rw [List.map_cons, List.map_cons, ← e1, ← e2, ← e3]⟩
  | trans _ _ ih1 ih2 =>
    intro l e
    obtain ⟨l2, p2, e2⟩ := ih2 e
    obtain ⟨l1, p1, e1⟩ := ih1 e2
    exact ⟨l1, p1.trans p2, e1⟩
section
variable {P : Program} {w : World} {K : Type} [DecidableEq K] {knd : HeapKind P w K} {A : Around} {E : Value → Shared → Prop} {s : Shared} {a : Addr} {L : List (Addr × K)} {es : Array (Int × Value)} {ep : Nat} {t : SetTable}
theorem setNewH {h : Heap} (ho : h.get? a = some (setNew w)) : SetH knd h a [] #[] 0 (.fresh 0 0 (!w.params.followText "set-order")) where
  obj := ⟨_, ho, ⟨rfl, rfl, rfl⟩, rfl⟩
  ents := rfl
  tab := ⟨List.Pairwise.nil, rfl, rfl, .inl rfl, fun x hx => (nomatch hx), fun i h j hi => nomatch (show none = some h from hi)⟩
  once := List.nodup_nil
  keys := fun p hp => nomatch hp
  led := by
    show _ ∨ (!w.params.followText "set-order") = true
    cases w.params.followText "set-order"
    · exact .inr rfl
    · exact .inl rfl
  free := by show 0 * 5 < 7 * 3; decide
  few := by show 0 < 64; decide
/-- set(xs) -/
theorem call_setH (I : InSets knd) {l : Addr} {items : Array Value} (ks : List (Addr × K)) {Q : Value → Shared → Prop} (hh : A.handled = none) (hl : s.heap.IsList l items) (hit : items.toList = ks.map fun p => Value.ref p.1)
    (hk : ∀ p ∈ ks, knd.is s.heap p.2 p.1) (few : ks.length < 64) (hu : A.units + 3 < cLine)
    (h : ∀ (h' : Heap) (tk : Nat) L es ep t, SetH knd h' s.heap.objs.size L es ep t → GotH ks L → (∀ b o, s.heap.get? b = some o → h'.get? b = some o) → Q (.ref s.heap.objs.size) { s with heap := h', toks := tk }) : wpAny (model P w) A (call (.type "set") [.ref l]) Q E s := by
  refine call_set_loop (T := fun h' => ∃ L es ep t, SetH knd h' s.heap.objs.size L es ep t ∧ GotH ks L) hl (fun R hR => ?_) fun h' tk ⟨L, es, ep, t, R, g⟩ k => h h' tk L es ep t R g k
  have ll : (s.heap.push (setNew w)).IsList l items := hl.push _
  have ln : l < s.heap.objs.size := by obtain ⟨o, ho, _⟩ := hl; exact Heap.lt_size ho
  have nI : l ≠ (s.heap.push (setNew w)).objs.size := by rw [Heap.size_push]; exact Nat.ne_of_lt (Nat.lt_succ_of_lt ln)
  have none_of : ∀ b, s.heap.objs.size ≤ b → s.heap.get? b = none := fun b hb => by
    cases q : s.heap.get? b with
    | none => rfl
    | some o => exact absurd (Nat.lt_of_lt_of_le (Heap.lt_size q) hb) (Nat.lt_irrefl _)
  have up : ∀ b o, s.heap.get? b = some o → ((s.heap.push (setNew w)).push (iterNew l)).get? b = some o := fun b o e => Heap.get?_push_of_some _ (Heap.get?_push_of_some _ e)
  have hsz : items.size = ks.length := by simpa using congrArg List.length hit
  have hval : ∀ (i : Nat) (v : Value), items[i]? = some v → ∃ p, ks[i]? = some p ∧ v = .ref p.1 := fun i v hv => by
    rw [← Array.getElem?_toList, hit, List.getElem?_map] at hv
    obtain ⟨p, e, rfl⟩ := Option.map_eq_some_iff.mp hv
    exact ⟨p, e, rfl⟩
  refine updateH I ((Walks.list (by simp [hh]) (s.heap.push (setNew w)).objs.size l nI items).toS) s.heap.objs.size ?_ ks hsz few hval s.heap hk (none_of _ (Nat.le_refl _)) (fun b hb => none_of b ?_) hu items.size 0 _ (Nat.zero_add _) ⟨⟨_, Heap.get?_push_size _ rfl, rfl, rfl⟩, ll.push _⟩ up
    ⟨[], #[], 0, _, setNewH (Heap.get?_push_of_some _ (Heap.get?_push_size _ rfl)), ⟨fun p hp => (nomatch hp), fun p hp => (by simp at hp), Nat.zero_le _⟩⟩ fun s' L es ep t hm R g k => ?_
  · rw [Heap.size_push]
    simp only [List.mem_cons, List.not_mem_nil, or_false, not_or]
    exact ⟨Nat.ne_of_lt (Nat.lt_succ_self _), Nat.ne_of_gt ln⟩
  · rw [List.mem_singleton.mp hb, Heap.size_push]
    exact Nat.le_succ _
  · obtain ⟨h', g2, d', tk', os'⟩ := s'
    obtain rfl : g2 = s.gens := hm.gens
    obtain rfl : d' = s.drawn := hm.drawn
    obtain rfl : os' = s.os := hm.os
    exact hR h' tk' ⟨L, es, ep, t, R, g⟩ k
/-- sorted(set) -/
theorem sorted_setH (R : SetH knd s.heap a L es ep t) (hh : A.handled = none) {enc : K → PyData} (er : ∀ p ∈ L, ∃ as, Reads s.heap (.ref p.1) (enc p.2) as) (hal : PySem.W.AllAlike (L.map fun p => enc p.2)) (hk : PySem.W.Sortable (L.map fun p => enc p.2)) (hu : ∀ p ∈ L, A.units + 2 + (enc p.2).depth < cLine) {Q : Value → Shared → Prop}
    (hQ : ∀ s' p (out : Array Value) (c : Nat) (L1 : List (Addr × K)), (∀ b o, s.heap.get? b = some o → s'.heap.get? b = some o) → s'.gens = s.gens → s'.os = s.os → s.heap.objs.size ≤ p → s'.heap.get? p = some (seqObj "list" out c) →
      L1.Perm L → out.toList = (L1.mergeSort (PySem.W.dataLe false fun p => enc p.2)).map (fun q => Value.ref q.1) → Q (.ref p) s') : wpAny (model P w) A (call (.builtin "sorted") [.ref a]) Q E s := by
  obtain ⟨o, ho, hex, hd⟩ := R.obj
  have sz := ents_size R.ents
  have few := R.few
  refine Calls.call_function_entry kind_sorted plain_sorted entry_sorted (args_sorted1 _) ?_
  unfold Builtin.«sorted»
  refine wpAny_bind (m := checkCount "sorted" 1 1 _) (wpAny_pure ?_)
  refine wpAny_bind (collect_set (A := A.in1) hh ⟨o, ho, hex.1, hd⟩ R.fits (by unfold scanBound; omega) R.tab.ris R.led fun s1 vs k1 z1 g1 o1 pm => ?_)
  obtain ⟨L1, p1, rfl⟩ := perm_lift pm (l := L) (f := fun q => Value.ref q.1) (by rw [R.ents, rowsH, List.map_map] <;> rfl)
  have len1 := p1.length_eq
  refine wpAny_bind (wpAny_newList ?_ (by rw [List.length_map, sizeLine_eq]; omega))
  have hoL : (s1.heap.push (seqObj "list" (L1.map fun q => Value.ref q.1).toArray 0)).get? s1.heap.objs.size = some (seqObj "list" (L1.map fun q => Value.ref q.1).toArray 0) := Heap.get?_push_size _ rfl
  generalize hh1 : s1.heap.push (seqObj "list" (L1.map fun q => Value.ref q.1).toArray 0) = h1 at hoL
  have k2 : ∀ b o, s.heap.get? b = some o → (sortingHeap h1 s1.heap.objs.size (L1.map fun q => Value.ref q.1)).get? b = some o := fun b o e => by
    have q := k1 b o e
    refine sortingHeap_old (Nat.ne_of_lt (Heap.lt_size q)) ?_
    rw [← hh1]
    exact Heap.get?_push_of_some _ q
  have mem : ∀ p ∈ L1, p ∈ L := fun p hp => p1.mem_iff.mp hp
  have each : ∀ M : List (Addr × K), PySem.W.EachIs (fun v (p : Addr × K) => v = Value.ref p.1) (M.map fun q => Value.ref q.1) M := by
    intro M
    induction M with
    | nil => exact .nil
    | cons p M ih => exact .cons rfl ih
  have er' : ∀ M : List (Addr × K), (∀ p ∈ M, p ∈ L) → PySem.W.EachIs (fun v (p : Addr × K) => ∃ as, Reads (sortingHeap h1 s1.heap.objs.size (L1.map fun q => Value.ref q.1)) v (enc p.2) as) (M.map fun q => Value.ref q.1) M := by
    intro M
    induction M with
    | nil => intro _; exact .nil
    | cons p M ih =>
      intro hM
      obtain ⟨as, r⟩ := er p (hM p List.mem_cons_self)
      exact .cons ⟨as, PyProof.Rows.Reads.keeps k2 r⟩ (ih fun q hq => hM q (List.mem_cons_of_mem _ hq))
  have pe := p1.map fun p => enc p.2
  have hal1 : PySem.W.AllAlike (L1.map fun p => enc p.2) := fun d hd d' hd' => hal d (pe.mem_iff.mp hd) d' (pe.mem_iff.mp hd')
  have hk1 : PySem.W.Sortable (L1.map fun p => enc p.2) := by
    rcases hk with q | q
    · exact .inl fun d hd => q d (pe.mem_iff.mp hd)
    · exact .inr fun d hd => q d (pe.mem_iff.mp hd)
  try rw [hh1]
  refine wpAny_bind (wpAny_holding (wpAny_call_entry slot_list_sort ⟨_, hoL, rfl⟩ entry_list_sort (PySem.W.list_sort_vals (s := { s1 with heap := h1 }) (κ := PySem.W.dataKind (sortingHeap h1 s1.heap.objs.size (L1.map fun q => Value.ref q.1)) (L1.map fun p => enc p.2)) hoL
    (PySem.W.SortsAt.data (s := { s1 with heap := sortingHeap h1 s1.heap.objs.size (L1.map fun q => Value.ref q.1) }) (PySem.W.each_map (R := fun v d => ∃ as, Reads (sortingHeap h1 s1.heap.objs.size (L1.map fun q => Value.ref q.1)) v d as) (fun p : Addr × K => enc p.2) (er' L1 mem)) hal1 hk1 fun d hd => ?_)
    (by rw [List.length_map, sizeLine_eq]; omega) ⟨.none, rfl, ?_⟩) (args_list_sort _)))
  · obtain ⟨p, hp, rfl⟩ := List.mem_map.mp hd
    exact hu p (mem p hp)
  · have srt := PySem.W.sortVals_data (h' := sortingHeap h1 s1.heap.objs.size (L1.map fun q => Value.ref q.1)) false (each L1) (er' L1 mem) hal1
    have out : ∀ (us : List Value) (M : List (Addr × K)), PySem.W.EachIs (fun v (p : Addr × K) => v = Value.ref p.1) us M → us = M.map fun q => Value.ref q.1 := by
      intro us M e
      induction e with
      | nil => rfl
      | cons h _ ih => rw [h, ih] <;> rfl
    obtain ⟨c, hc⟩ := sortedHeap_at (vs := L1.map fun q => Value.ref q.1) (out := (PySem.W.sortVals (PySem.W.dataKind (sortingHeap h1 s1.heap.objs.size (L1.map fun q => Value.ref q.1)) (L1.map fun p => enc p.2)) false (L1.map fun q => Value.ref q.1) (L1.map fun q => Value.ref q.1)).toArray) hoL
    refine wpAny_pure ⟨_, rfl, hQ _ s1.heap.objs.size _ c L1 (fun b u e => ?_) g1 o1 z1 hc p1 (out _ _ srt)⟩
    have q := k1 b u e
    have lt := Heap.lt_size q
    show (sortedHeap h1 s1.heap.objs.size _ _).get? b = some u
    rw [sortedHeap_old (Nat.ne_of_lt lt) (by rw [← hh1, size_push']; exact Nat.lt_succ_of_lt lt), ← hh1]
    exact Heap.get?_push_of_some _ q

/-! ### tuples of ints and texts as keys -/
theorem items_key {k : List Key} {vs : List Value} (h : ItemsAre (mixKind P w) k vs) : ∀ v ∈ vs, (∃ i t, v = Value.int i t) ∨ ∃ x t, v = Value.str x t := by
  induction h with
  | nil => intro v hv; exact nomatch hv
  | cons h1 _ ih =>
    intro v hv
    rcases List.mem_cons.mp hv with rfl | hv
    · rcases keyIs_shape h1 with ⟨i, t, _, e⟩ | ⟨x, t, _, e⟩
      · exact .inl ⟨i, t, e⟩
      · exact .inr ⟨x, t, e⟩
    · exact ih v hv
theorem mixTup_cls {k : List Key} {b : Addr} {Q : Bool → Shared → Prop} (hk : IsTupleKey (mixKind P w) s.heap k b) (h : Q false s) : wpAny (model P w) A (ofAClassStatement 8 (.ref b)) Q E s := by
  have ty := hk.typeIs
  obtain ⟨o, items, n, ho, _, hd, hi⟩ := hk
  unfold ofAClassStatement
  refine wpAny_bind (wpAny_typeOf ty ?_)
  dsimp only
  simp only [show (("tuple" : String) == "tuple") = true by decide, if_true, Bool.not_true, Bool.false_eq_true, if_false]
  try refine wpAny_bind (wpAny_pure ?_)
  try simp only [Bool.not_true, Bool.false_eq_true, if_false]
  show wpAny _ _ (seqItems? (.ref b) >>= _) _ _ s
  refine wpAny_bind (wpAny_seqItems ho hd ?_)
  dsimp only
  refine wpAny_bind ?_
  show wpAny _ _ (forIn items _ _) _ _ s
  rw [← Array.forIn_toList]
  refine wpAny_forIn_list _ (fun rest r s' => (r.1 = none ∧ s' = s) ∧ ∀ v ∈ rest, (∃ i t, v = Value.int i t) ∨ ∃ x t, v = Value.str x t) _ ?_ ?_ _ _ ⟨⟨rfl, rfl⟩, items_key hi⟩
  · rintro v rest r s' ⟨⟨_, rfl⟩, all⟩
    have e : ofAClassStatement 7 v = pure false := by
      rcases all v List.mem_cons_self with ⟨i, t, rfl⟩ | ⟨x, t, rfl⟩ <;> rfl
    rw [e]
    refine wpAny_bind (wpAny_pure ?_)
    simp only [Bool.false_eq_true, if_false]
    exact wpAny_pure ⟨⟨rfl, rfl⟩, fun u hu => all u (List.mem_cons_of_mem _ hu)⟩
  · rintro ⟨r1, r2⟩ s' ⟨⟨hr, rfl⟩, _⟩
    cases hr
    exact wpAny_pure h
theorem mixTup_val {k : List Key} {b : Addr} {Q : Bool → Shared → Prop} (hk : IsTupleKey (mixKind P w) s.heap k b) (h : ∀ v, Q v s) : wpAny (model P w) A (hashByValue 8 (.ref b)) Q E s := by
  have ty := hk.typeIs
  obtain ⟨o, items, n, ho, _, hd, hi⟩ := hk
  unfold hashByValue
  refine wpAny_bind (wpAny_specialOf ty F.slot_tuple_hash.lookup ?_)
  show wpAny _ _ (seqItems? (.ref b) >>= _) _ _ s
  refine wpAny_bind (wpAny_seqItems ho hd ?_)
  refine wpAny_bind ?_
  show wpAny _ _ (forIn items _ _) _ _ s
  rw [← Array.forIn_toList]
  refine wpAny_forIn_list _ (fun rest r s' => (r.1 = none ∧ s' = s) ∧ ∀ v ∈ rest, (∃ i t, v = Value.int i t) ∨ ∃ x t, v = Value.str x t) _ ?_ ?_ _ _ ⟨⟨rfl, rfl⟩, items_key hi⟩
  · rintro v rest r s' ⟨⟨_, rfl⟩, all⟩
    rcases all v List.mem_cons_self with ⟨i, t, rfl⟩ | ⟨x, t, rfl⟩
    · rw [show hashByValue 7 (Value.int i t) = pure true from rfl]
      refine wpAny_bind (wpAny_pure ?_)
      simp only [Bool.not_true, Bool.false_eq_true, if_false]
      exact wpAny_pure ⟨⟨rfl, rfl⟩, fun u hu => all u (List.mem_cons_of_mem _ hu)⟩
    · rw [show hashByValue 7 (Value.str x t) = pure false from rfl]
      refine wpAny_bind (wpAny_pure ?_)
      simp only [Bool.not_false, if_true]
      exact wpAny_pure (wpAny_pure (h false))
  · rintro ⟨r1, r2⟩ s' ⟨⟨hr, rfl⟩, _⟩
    cases hr
    exact wpAny_pure (h true)
theorem mixTup_in : InSets (tupleKind (mixKind P w)) where
  room := id
  cls := mixTup_cls
  val := mixTup_val
  stays := tupleKind_stays
end
end PL
/-! sorted(set(xs)), xs a list of tuples of ints and texts -/
namespace PL
open PySem PySem.Spec PyProof.Rows L2
def atomD : Key → D
  | .inl i => .int i
  | .inr x => .str x
def atomV : Key → V
  | .inl i => .int i
  | .inr x => .str x
def tupD (k : List Key) : D := .tup (k.map atomD)
theorem tupD_ok (k : List Key) : (tupD k).okd 60 = true := by
  show D.okds 59 (k.map atomD) = true
  induction k with
  | nil => rfl
  | cons x k ih =>
    show ((atomD x).okd 59 && D.okds 59 (k.map atomD)) = true
    rw [ih]
    cases x <;> rfl
section
variable {c : Ctx} {X : Cx} {S : AS} {Γ Γ' : Gam} {M M' : Cells} {σ σ' : L2.St} {H H' : Hp} {a b e : Expr} {es : List Expr} {pos pos' p : Pos} {Q : D → Cells → Prop} {R : Bool → Cells → Prop} {x : Str} {E : PEnds}
theorem items_keys {P : Program} {w : World} : ∀ {k : List Key} {us : List Value}, Vals (k.map atomV) us → ItemsAre (mixKind P w) k us
  | [], _, .nil => .nil
  | .inl i :: k, _, .cons r t => by
    obtain ⟨tk, rfl⟩ := r
    exact .cons (mixKind_int P w i tk) (items_keys t)
  | .inr i :: k, _, .cons r t => by
    obtain ⟨tk, rfl⟩ := r
    exact .cons (mixKind_str P w i tk) (items_keys t)
def leP (p q : Addr × List Key) : Bool := PySem.W.dataLe false (fun k : List Key => (tupD k).py) p.2 q.2
def tSortSetK (K : PySem.W.Frag) (ta : TE) : TE := fun σ H Q => ta σ H fun x H1 => ∃ (l : Addr) (ps : List (Addr × List Key)), x = V.ref l ∧ SqL K H1 l (ps.map fun p => V.ref p.1) ∧ (∀ p ∈ ps, SqT K H1 p.1 (p.2.map atomV) ∧ Dp K H1 (.ref p.1) (tupD p.2).py) ∧ ps.length < 64 ∧
  PySem.W.AllAlike (ps.map fun p => (tupD p.2).py) ∧ PySem.W.Sortable (ps.map fun p => (tupD p.2).py) ∧
  ∀ (L : List (Addr × List Key)) (p : Addr), (L.map (·.2)).Nodup → (∀ q ∈ L, q ∈ ps) → (∀ q ∈ ps, q.2 ∈ L.map (·.2)) → H1 p = none → Q (.ref p) (upd H1 p (.lst ((L.mergeSort leP).map fun q => V.ref q.1)))
theorem pe_sortSetK {ta : TE} {p p2 q pos : Pos} (hc : X.calm = true) (hu : X.A.units + 64 < cLine) (hg : Gl X "sorted") (hm : X.mg "sorted" = none) (hg2 : Gl X "set") (hm2 : X.mg "set" = none) (ha : PE X a ta)
    (na : starEach [a] X.env = (false, eval a X.env) :: starEach [] X.env := by rfl) : PE X (.Call (.Name "sorted" p) [.Call (.Name "set" p2) [a] [] q] [] pos) (tSortSetK X.K ta) := by
  refine ⟨fun pins s σ H Q I h => ?_⟩
  refine Call_ (ld_blt I hg hm PyProof.Rows.boot_sorted ?_)
  refine PyProof.Rows.callWith_builtin1 (PyProof.Rows.args_cons ?_ rfl) rfl rfl
  refine Call_ (ld_blt I hg2 hm2 PyProof.Rows.boot_set ?_)
  refine PyProof.Rows.callWith_type1 (PyProof.Rows.args_cons (thn (ha.run pins s σ H _ I h) fun v s1 ⟨x, H1, I1, r1, q1⟩ => PyProof.Rows.args_nil ?_) na) na rfl
  obtain ⟨l, ps, rfl, hq, hk, few, hal, hs, q1⟩ := q1
  cases r1
  obtain ⟨its, r, pl, hz⟩ := I1.list hq
  have isk : ∀ p ∈ ps, IsTupleKey (mixKind X.prog X.w) s1.heap p.2 p.1 := fun p hp => by
    obtain ⟨us, rv, ⟨o, ho, hc, n, hd⟩, _⟩ := I1.tuple (hk p hp).1
    exact ⟨o, us.toArray, n, ho, hc, hd, by simpa using items_keys rv⟩
  refine call_setH mixTup_in ps (I1.ok.hd hc) pl.isList (by
    have key : ∀ (ps : List (Addr × List Key)) (us : List Value), Vals (ps.map fun p => V.ref p.1) us → us = ps.map fun p => Value.ref p.1 := by
      intro ps
      induction ps with
      | nil => intro us r; cases r; rfl
      | cons p ps ih =>
        intro us r
        rw [List.map_cons] at r
        cases r with
        | cons r1 r2 => rw [ih _ r2, List.map_cons, show _ = Value.ref p.1 from r1]
    simpa using key ps its r) isk few (by omega) fun h' tk L es ep t R g kp => ?_
  refine PyProof.Rows.args_nil ?_
  have I2 : Inv X pins σ H1 { s1 with heap := h', toks := tk } := I1.kept fun b o e => kp b o e
  have rds : ∀ p ∈ L, ∃ as, Reads h' (.ref p.1) (tupD p.2).py as := fun p hp => Dp.reads I2 _ _ _ (hk p (g.sub p hp)).2 rfl
  have sub : ∀ d, d ∈ L.map (fun p => (tupD p.2).py) → d ∈ ps.map fun p => (tupD p.2).py := fun d hd => by
    obtain ⟨p, hp, rfl⟩ := List.mem_map.mp hd
    exact List.mem_map.mpr ⟨p, g.sub p hp, rfl⟩
  refine sorted_setH (s := { s1 with heap := h', toks := tk }) (enc := fun k => (tupD k).py) R (I2.ok.hd hc) rds (fun d hd d' hd' => hal d (sub d hd) d' (sub d' hd')) (by
    rcases hs with z | z
    · exact .inl fun d hd => z d (sub d hd)
    · exact .inr fun d hd => z d (sub d hd)) (fun p hp => by
      have := (D.plain_ok 60 _ (tupD_ok p.2)).2
      show X.A.units + 2 + (tupD p.2).py.depth < cLine
      omega) fun s' p out cc L1 kk gg o hp hg' pm ho => ?_
  have ho' : out.toList = (L1.mergeSort leP).map fun q => Value.ref q.1 := ho
  have len : ((L1.mergeSort leP).map fun q => V.ref q.1).length ≤ sizeLine := by
    rw [List.length_map, List.length_mergeSort, pm.length_eq, sizeLine_eq]
    have := R.few
    omega
  have hn : H1 p = none := I2.hok.fresh hp
  have J : Inv X pins σ (upd H1 p (.lst ((L1.mergeSort leP).map fun q => V.ref q.1))) { ({ s1 with heap := h', toks := tk } : Shared) with heap := s'.heap, gens := s'.gens, drawn := s'.drawn, toks := s'.toks } :=
    I2.call (ch := []) (Un.laid kk hp hn) (I2.hok.laid kk hp ⟨len, out.toList, cc, by
      rw [ho']
      have key : ∀ M : List (Addr × List Key), Vals (M.map fun p => V.ref p.1) (M.map fun p => Value.ref p.1) := by
        intro M
        induction M with
        | nil => exact .nil
        | cons p M ih => exact .cons rfl ih
      exact key _, hg'⟩) (by rw [gg]; exact I2.bare) (fun _ z => nomatch z)
  have e : s' = { ({ s1 with heap := h', toks := tk } : Shared) with heap := s'.heap, gens := s'.gens, drawn := s'.drawn, toks := s'.toks } := by
    cases s'
    cases s1
    cases o
    rfl
  rw [e]
  refine ⟨.ref p, _, J, rfl, q1 L1 p ((pm.map (·.2)).nodup_iff.mpr R.once) (fun q hq => g.sub q (pm.mem_iff.mp hq)) (fun q hq => ?_) hn⟩
  exact (pm.map (·.2)).mem_iff.mpr (g.all q hq)
def leK (a b : List Key) : Bool := leD (tupD a) (tupD b)
theorem atomV_reps {K : PySem.W.Frag} {A : AS} {H : Hp} : ∀ {k : List Key} {vs : List V}, Reps K A H vs (k.map atomD) → vs = k.map atomV
  | [], _, .nil => rfl
  | .inl i :: k, _, .cons r t => by
    cases r
    rw [atomV_reps t] <;> rfl
  | .inr i :: k, _, .cons r t => by
    cases r
    rw [atomV_reps t] <;> rfl
/-- the addresses of a list of such tuples -/
theorem reps_tups {K : PySem.W.Frag} {A : AS} {H : Hp} : ∀ {ks : List (List Key)} {vs : List V}, Reps K A H vs (ks.map tupD) → ∃ ps : List (Addr × List Key), vs = ps.map (fun p => V.ref p.1) ∧ ps.map (·.2) = ks ∧ ∀ p ∈ ps, Rep K A H (.ref p.1) (tupD p.2)
  | [], _, .nil => ⟨[], rfl, rfl, fun p hp => nomatch hp⟩
  | k :: ks, _, .cons r t => by
    obtain ⟨ps, e1, e2, h⟩ := reps_tups t
    have r0 := r
    unfold tupD at r
    cases r with
    | @tup a vs ds h1 h2 =>
      refine ⟨(a, k) :: ps, by rw [e1] <;> rfl, by rw [List.map_cons, e2], fun p hp => ?_⟩
      rcases List.mem_cons.mp hp with rfl | hp
      · exact r0
      · exact h p hp
theorem we_sortSetK {p p2 q : Pos} (hg : GlC c.sc "sorted") (hm : c.mg "sorted" = none) (hg2 : GlC c.sc "set") (hm2 : c.mg "set" = none)
    (h : WE c a Γ M fun d M1 => ∃ ks : List (List Key), View M1 d (.lst (ks.map tupD)) ∧ ks.length < 64 ∧ PySem.W.AllAlike (ks.map fun k => (tupD k).py) ∧ PySem.W.Sortable (ks.map fun k => (tupD k).py) ∧
      ∀ ks' : List (List Key), ks'.Nodup → (∀ k, k ∈ ks' ↔ k ∈ ks) → Q (.lst ((ks'.mergeSort leK).map tupD)) M1)
    (na : ∀ env, starEach [a] env = (false, eval a env) :: starEach [] env := by intro _; rfl) : WE c (.Call (.Name "sorted" p) [.Call (.Name "set" p2) [a] [] q] [] pos) Γ M Q := .mk fun X S σ H at_ Q' hq =>
  PE.to (pe_sortSetK at_.is.calm at_.is.hu (at_.is.gl hg) (at_.is.mgN hm) (at_.is.gl hg2) (at_.is.mgN hm2) wE.pe (na _)) (h.run X S σ H at_ _ fun v1 H1 d1 M1 c1 s1 r1 ⟨ks, w, few, hal, hs, qq⟩ => by
    have fin : ∀ (A : AS) (l : Addr) (vs : List V), SqL c.K H1 l vs → Reps c.K A H1 vs (ks.map tupD) → (∀ {v d}, Rep c.K A H1 v d → Rep c.K (av S M1) H1 v d) → ∃ (l' : Addr) (ps : List (Addr × List Key)), V.ref l = V.ref l' ∧ SqL X.K H1 l' (ps.map fun p => V.ref p.1) ∧ (∀ p ∈ ps, SqT X.K H1 p.1 (p.2.map atomV) ∧ Dp X.K H1 (.ref p.1) (tupD p.2).py) ∧ ps.length < 64 ∧
        PySem.W.AllAlike (ps.map fun p => (tupD p.2).py) ∧ PySem.W.Sortable (ps.map fun p => (tupD p.2).py) ∧
        ∀ (L : List (Addr × List Key)) (p : Addr), (L.map (·.2)).Nodup → (∀ q ∈ L, q ∈ ps) → (∀ q ∈ ps, q.2 ∈ L.map (·.2)) → H1 p = none → Q' (.ref p) (upd H1 p (.lst ((L.mergeSort leP).map fun q => V.ref q.1))) := fun A l vs hsq rs up => by
      obtain ⟨ps, rfl, e2, hp⟩ := reps_tups rs
      have em : (ps.map fun p => (tupD p.2).py) = ks.map fun k => (tupD k).py := by rw [← e2, List.map_map] <;> rfl
      refine ⟨l, ps, rfl, by rw [at_.is.K]; exact hsq, fun p hpm => ?_, by rw [← List.length_map (f := (·.2)), e2]; exact few, by rw [em]; exact hal, by rw [em]; exact hs, fun L p nd h1 h2 np => ?_⟩
      · have r := hp p hpm
        refine ⟨?_, by rw [at_.is.K]; exact r.dp 60 _ (tupD_ok _)⟩
        rw [at_.is.K]
        unfold tupD at r
        cases r with
        | tup h1 h2 =>
          rw [← atomV_reps h2]
          exact h1.sq
      · have hmem : ∀ k, k ∈ L.map (·.2) ↔ k ∈ ks := fun k => by
          refine ⟨fun hk => ?_, fun hk => ?_⟩
          · obtain ⟨q, hq', rfl⟩ := List.mem_map.mp hk
            rw [← e2]
            exact List.mem_map.mpr ⟨q, h1 q hq', rfl⟩
          · rw [← e2] at hk
            obtain ⟨q, hq', rfl⟩ := List.mem_map.mp hk
            exact h2 q hq'
        have em2 : (L.mergeSort leP).map (·.2) = (L.map (·.2)).mergeSort leK := List.map_mergeSort (f := fun q : Addr × List Key => q.2) (s := leK) fun _ _ _ _ => rfl
        have rr : Reps c.K (av S M1) H1 ((L.mergeSort leP).map fun q => V.ref q.1) (((L.map (·.2)).mergeSort leK).map tupD) := by
          rw [← em2, List.map_map]
          have key : ∀ N : List (Addr × List Key), (∀ q ∈ N, q ∈ ps) → Reps c.K (av S M1) H1 (N.map fun q => V.ref q.1) (N.map (tupD ∘ fun q => q.2)) := by
            intro N
            induction N with
            | nil => intro _; exact .nil
            | cons q N ih =>
              intro hN
              exact .cons (up (hp q (hN q List.mem_cons_self))) (ih fun r hr => hN r (List.mem_cons_of_mem _ hr))
          exact key _ fun q hq' => h1 q ((List.mergeSort_perm _ _).mem_iff.mp hq')
        obtain ⟨k1, k2, k3⟩ := fresh_lst (K := c.K) c1 np rr
        exact hq _ _ _ _ k1 (s1.trans k2) k3 (qq _ nd hmem)
    cases w with
    | self =>
      cases r1 with
      | @lst l vs ds h1 h2 => exact fin _ l vs h1.sq h2 id
    | cell hc =>
      cases r1
      obtain ⟨oo, ho, vs, eo, rs⟩ := c1.at_ hc
      subst eo
      exact fin _ _ vs (.of ho) rs id)
end
end PL
/-! a == b by an own __eq__, isinstance with an own class -/
namespace PL
open PySem PySem.Spec PyProof.Rows L2
section
variable {c : Ctx} {X : Cx} {S : AS} {Γ Γ' : Gam} {M M' : Cells} {σ σ' : L2.St} {H H' : Hp} {a b e o value : Expr} {es : List Expr} {pos pos' p apos : Pos} {Q : D → Cells → Prop} {R : Bool → Cells → Prop} {x m : Str} {E : PEnds} {C : Addr}
/-- isinstance(a, N), a an instance of the class N -/
theorem we_isiO {n : Str} {p2 p3 : Pos} (hg : GlC c.sc "isinstance") (hm : c.mg "isinstance" = none) (hg2 : GlC c.sc n) (hm2 : c.mg n = some (.ref C)) (I : C8.InsC c.K C)
    (h : WE c a Γ M fun d M1 => ∃ fs, ObjAt M1 d C fs ∧ Q (.bl true) M1)
    (na : ∀ env, starEach [a, .Name n p3] env = (false, eval a env) :: starEach [.Name n p3] env := by intro _; rfl) (hd : (n == ("__debug__" : Str)) = false := by decide) : WE c (.Call (.Name "isinstance" p2) [a, .Name n p3] [] pos) Γ M Q := .mk fun X S σ H at_ Q' hq =>
  PE.to (pe_callB (C8.call_isC (by rw [at_.is.K]; exact I)) (at_.is.gl hg) (at_.is.mgN hm) PyProof.Rows.boot_isinstance (pa_cons wE.pe (pa_cons (pe_glob (v := .ref C) (at_.is.gl hg2) (at_.is.mgN hm2) rfl hd) pa_nil) (na _)) (by decide) (by decide) (na _) (by rfl)) (h.run X S σ H at_ _ fun v1 H1 d1 M1 c1 s1 r1 ⟨fs, ho, q⟩ => by
    obtain ⟨a, dx, vs, e1, h1, rf⟩ := ho.get c1 r1
    subst e1
    exact ⟨a, dx, vs, rfl, h1, hq _ _ _ _ c1 s1 .bl q⟩)
/-- isinstance(a, N), a of a built-in type that is no N -/
theorem we_isiN {n : Str} {p2 p3 : Pos} (hg : GlC c.sc "isinstance") (hm : c.mg "isinstance" = none) (hg2 : GlC c.sc n) (hm2 : c.mg n = some (.ref C))
    (h : WE c a Γ M fun d M1 => ∃ d' t k, View M1 d d' ∧ d'.tyN = some t ∧ PySem.W.kitOne c.K (.type t) (.ref C) = some k ∧ Q (.bl k) M1)
    (na : ∀ env, starEach [a, .Name n p3] env = (false, eval a env) :: starEach [.Name n p3] env := by intro _; rfl) (hd : (n == ("__debug__" : Str)) = false := by decide) : WE c (.Call (.Name "isinstance" p2) [a, .Name n p3] [] pos) Γ M Q := .mk fun X S σ H at_ Q' hq =>
  PE.to (pe_callB call_isi (at_.is.gl hg) (at_.is.mgN hm) PyProof.Rows.boot_isinstance (pa_cons wE.pe (pa_cons (pe_glob (v := .ref C) (at_.is.gl hg2) (at_.is.mgN hm2) rfl hd) pa_nil) (na _)) (by decide) (by decide) (na _) (by rfl)) (h.run X S σ H at_ _ fun v1 H1 d1 M1 c1 s1 r1 ⟨d', t, k, w, ht, hk, q⟩ => by
    refine ⟨v1, .ref C, .type t, .ref C, k, rfl, .own C, ?_, by rw [at_.is.K]; exact hk, hq _ _ _ _ c1 s1 .bl q⟩
    rw [at_.is.K]
    exact (w.rep c1 r1).ty ht)
/-- what the call of an own == leaves -/
def rEqO (K : PySem.W.Frag) (C : Addr) (pf : PF) : R2 := fun x y H Q => (∃ a dx fs, x = .ref a ∧ H a = some (.ins C dx fs)) ∧ (∃ b dy gs, y = .ref b ∧ H b = some (.ins C dy gs)) ∧ liftF K pf [x, y] H (fun v H' => (∃ k, v = .bl k) ∧ Q v H') fun _ _ _ => False
theorem op_eqO {f : Addr} {fd : FuncData} {ps : List Str} {k : Nat} {pf : PF} {W : WX} (F : FnOk X.prog X.w X.K X.mg X.base (L2.CX X.prog X.w) k f fd ps (liftF X.K pf)) (hm : Meth X.K C "__eq__" f) (hb : Binds X.K fd ps []) (hr : Room k X.A) (tk : Takes X W) :
    OpR X (compareOp .Eq) (rEqO X.K C pf) := by
  intro pins s σ H x y v u Q I rx ry ⟨⟨a, dx, fs, ex, ha⟩, ⟨b, dy, gs, ey, hb'⟩, q⟩
  subst ex ey
  obtain rfl : v = .ref a := rx
  obtain rfl : u = .ref b := ry
  obtain ⟨mA, J, _⟩ := ins_get I.hok ha
  obtain ⟨mB, J', _⟩ := ins_get I.hok hb'
  obtain ⟨od, J, _⟩ := J.look
  obtain ⟨od', J', _⟩ := J'.look
  obtain ⟨m, hF⟩ := I.fr
  show wpAny (model X.prog X.w) X.A (richCompare .Eq (.ref a) (.ref b)) (EP X pins σ Q) X.xe s
  refine PySem.W.cmp_K (op := .Eq) (tb := .ref C) hr.units0 hF I.ok.mod.kin J J'.type (by simp [PySem.W.notFirst]) hm.at_ hm.fn ?_
  have tk' : Takes X (fun _ _ _ _ => False) := tk.imp fun _ _ _ _ z => z.elim
  refine wpAny_mono (run_fnS (E := L2.WE fun _ _ _ _ => False) (us := [.ref a, .ref b]) (vs := [.ref a, .ref b]) F hr hb (passAt tk' σ) I (.cons rfl (.cons rfl .nil)) q) (fun v s' h => ?_) fun _ _ z => z
  obtain ⟨v', H', I', r', ⟨k, e⟩, q'⟩ := h
  subst e
  obtain rfl : v = Value.bool k := r'
  exact ⟨.bl k, H', I', rfl, q'⟩
/-- a == b, both of a class with an own __eq__ -/
theorem we_eqO {f : Addr} {fd : FuncData} {ps : List Str} {k : Nat} {pf : PF} (F : MDef c.P c.w c.K c.mg c.base C "__eq__" f fd ps k pf) (hk : k ≤ c.k)
    (h : WE c a Γ M fun x M1 => WE c b Γ M1 fun y M2 => ∃ fs gs, ObjAt M2 x C fs ∧ ObjAt M2 y C gs ∧ ∃ kept lent, M2 = kept ++ lent ∧ ∀ (R : D → Cells → Prop) (Z : Addr → D → Cells → Prop), (∀ k M3, Q (.bl k) (kept ++ M3) → R (.bl k) M3) → pf [x, y] lent R Z)
    (hm : behindInMarks .Eq b = false := by rfl) : WE c (.Compare a [.Eq] [b] pos) Γ M Q := .mk fun X S σ H at_ Q' hq => by
  obtain ⟨W, tk, _⟩ := at_.land
  have eP := at_.is.prog; have ew := at_.is.w; have eK := at_.is.K; have emg := at_.is.mg; have eb := at_.is.base
  have G : FnOk X.prog X.w X.K X.mg X.base (L2.CX X.prog X.w) k f fd ps (liftF X.K pf) := by rw [eP, ew, eK, emg, eb]; exact F.ok
  refine PE.to (pe_cmpR (op_eqO G (by rw [eK]; exact F.me) (by rw [eK]; exact F.binds) (at_.is.room.mono hk) tk) wE.pe wE.pe hm) (two h at_ fun v1 v2 H2 d1 d2 M2 c2 s2 r1 r2 ⟨fs, gs, o1, o2, kept, lent, eM, q⟩ => ?_)
  obtain ⟨a1, dx, vs, e1, h1, _⟩ := o1.get c2 r1
  obtain ⟨a2, dy, ws, e2, h2, _⟩ := o2.get c2 r2
  refine ⟨⟨a1, dx, vs, e1, h1⟩, ⟨a2, dy, ws, e2, h2⟩, ?_⟩
  subst eM
  have toL : To (av S (kept ++ lent)) (av (av S kept) lent) H2 H2 := To.of_iff fun b z => av_app.mp z
  rw [eK]
  refine ⟨av S kept, lent, [d1, d2], c2.lend, .cons (r1.to toL) (.cons (r2.to toL) .nil), ?_⟩
  exact q _ _ fun k M3 hd v H' c3 st r => by
    cases r
    obtain ⟨c4, st4⟩ := c2.back c3 st
    exact ⟨⟨k, rfl⟩, hq _ _ _ _ c4 (s2.trans st4) .bl hd⟩
/-- a <= b < c of ints, as a test -/
theorem wt_leLt {d : Expr} (h : WE c a Γ M fun x M1 => WE c b Γ M1 fun y M2 => ∃ i j, x = .int i ∧ y = .int j ∧ (¬ i ≤ j → R false M2) ∧ (i ≤ j → WE c d Γ M2 fun z M3 => ∃ k, z = .int k ∧ R (decide (j < k)) M3))
    (hm : lastMarks [.LtE, .Lt] [b, d] = false := by with_unfolding_all rfl) : WT c (.Compare a [.LtE, .Lt] [b, d] pos) Γ M R := .mk fun X S σ H at_ Q' hq =>
  PT.to (pt_chain op_le op_lt wE.pe wE.pe wE.pe hm) (two h at_ fun v1 v2 H2 d1 d2 M2 c2 s2 r1 r2 ⟨i, j, e1, e2, q1, q2⟩ => by
    subst e1 e2; cases r1; cases r2
    refine ⟨i, j, rfl, rfl, decide (i ≤ j), rfl, ?_⟩
    by_cases hij : i ≤ j
    · rw [decide_eq_true hij]
      refine (q2 hij).run X S σ H2 (at_.step c2 s2) _ fun v3 H3 d3 M3 c3 s3 r3 ⟨k, e3, q⟩ => ?_
      subst e3; cases r3
      exact ⟨j, k, rfl, rfl, _, rfl, hq _ _ _ c3 (s2.trans s3) q⟩
    · rw [decide_eq_false hij]
      exact ⟨false, rfl, hq _ _ _ c2 s2 (q1 hij)⟩)
end
end PL
namespace DK
open PySem PL
/-! looks in the order of tuples; looks led back -/
def lkLe (a b : Look) : Bool := leD (lkD a) (lkD b)
theorem lkLe_total : PySem.W.TotalLe lkLe := PySem.W.sortLe_total (PyProof.Rows.listOrd PyProof.Rows.itemOrd) false fun l : Look => PySem.W.keyToks (lkD l).py
theorem lk_toks (l : Look) : PySem.W.keyToks (lkD l).py = [.inl 1, .inr l.1.cps.toList, .inl 1, .inl l.2.1, .inl 1, .inl l.2.2, .inl 0] := by
  simp [lkD, D.py, D.pys, PySem.W.keyToks, PySem.W.keyToksAll]
theorem lkLe_anti {a b : Look} (h1 : lkLe a b = true) (h2 : lkLe b a = true) : a = b := by
  have e : PySem.W.keyToks (lkD a).py = PySem.W.keyToks (lkD b).py := by
    have h1' : (!PyProof.Rows.lexLt PyProof.Rows.itemOrd (PySem.W.keyToks (lkD b).py) (PySem.W.keyToks (lkD a).py)) = true := h1
    have h2' : (!PyProof.Rows.lexLt PyProof.Rows.itemOrd (PySem.W.keyToks (lkD a).py) (PySem.W.keyToks (lkD b).py)) = true := h2
    rw [Bool.not_eq_true'] at h1' h2'
    exact (PyProof.Rows.listOrd PyProof.Rows.itemOrd).total _ _ h2' h1'
  rw [lk_toks, lk_toks] at e
  injection e with _ e
  injection e with e1 e
  injection e with _ e
  injection e with e2 e
  injection e with _ e
  injection e with e3 e
  injection e1 with e1
  injection e2 with e2
  injection e3 with e3
  exact Prod.ext (PySem.W.str_of_cps e1) (Prod.ext e2 e3)
/-- in the order of tuples, each once -/
structure Srt (L : List Look) : Prop where
  up : L.Pairwise fun a b => lkLe a b = true
  once : L.Nodup
theorem srt_uniq : ∀ {L L' : List Look}, Srt L → Srt L' → (∀ z, z ∈ L ↔ z ∈ L') → L = L'
  | [], [], _, _, _ => rfl
  | [], z :: L', _, _, h => absurd ((h z).mpr List.mem_cons_self) (by simp)
  | z :: L, [], _, _, h => absurd ((h z).mp List.mem_cons_self) (by simp)
  | a :: L, b :: L', s, s', h => by
    obtain ⟨u1, u2⟩ := List.pairwise_cons.mp s.up
    obtain ⟨o1, o2⟩ := List.nodup_cons.mp s.once
    obtain ⟨v1, v2⟩ := List.pairwise_cons.mp s'.up
    obtain ⟨p1, p2⟩ := List.nodup_cons.mp s'.once
    have e : a = b := by
      rcases List.mem_cons.mp ((h a).mp List.mem_cons_self) with e | e
      · exact e
      · rcases List.mem_cons.mp ((h b).mpr List.mem_cons_self) with k | k
        · exact k.symm
        · exact lkLe_anti (u1 b k) (v1 a e)
    subst e
    rw [srt_uniq ⟨u2, o2⟩ ⟨v2, p2⟩ fun z => ?_]
    constructor
    · intro hz
      rcases List.mem_cons.mp ((h z).mp (List.mem_cons_of_mem _ hz)) with e | e
      · rw [e] at hz; exact absurd hz o1
      · exact e
    · intro hz
      rcases List.mem_cons.mp ((h z).mpr (List.mem_cons_of_mem _ hz)) with e | e
      · rw [e] at hz; exact absurd hz p1
      · exact e
theorem srt_sort {L : List Look} (h : L.Nodup) : Srt (L.mergeSort lkLe) := ⟨PySem.W.sort_pairwise lkLe_total L, (List.mergeSort_perm _ _).nodup_iff.mpr h⟩
theorem srt_hearL {n : Int} {L : List Look} (h : Srt L) (l : Look) : Srt (hearL n L l) := by
  unfold hearL
  split
  · exact h
  · rename_i hm
    refine srt_sort ?_
    rw [List.nodup_append]
    exact ⟨h.once, by simp, fun a ha b hb e => by
      rw [List.mem_singleton.mp hb] at e
      exact hm (e ▸ ha)⟩
theorem srt_hearAll (n : Int) (ks : List Look) : Srt (hearAll n ks) := by
  have go : ∀ (ks L : List Look), Srt L → Srt (ks.foldl (hearL n) L) := by
    intro ks
    induction ks with
    | nil => intro L h; exact h
    | cons k ks ih => intro L h; exact ih _ (srt_hearL h k)
  exact go ks [] ⟨.nil, List.nodup_nil⟩
theorem srt_filter {L : List Look} (h : Srt L) (p : Look → Bool) : Srt (L.filter p) := ⟨h.up.filter _, h.once.filter _⟩
theorem heard_eq {n : Int} {ks : List Look} {L : List Look} (h : Srt L) (hm : ∀ z, z ∈ L ↔ z ∈ ks.map (home n)) : L = hearAll n ks :=
  srt_uniq h (srt_hearAll n ks) fun z => by
    rw [hm, mem_hearAll, List.mem_map]
    exact ⟨fun ⟨l, a, b⟩ => ⟨l, a, b.symm⟩, fun ⟨l, a, b⟩ => ⟨l, a, b.symm⟩⟩
/-- as keys -/
def lkK (l : Look) : List L2.Key := [.inr l.1, .inl l.2.1, .inl l.2.2]
theorem tupD_lk (l : Look) : tupD (lkK l) = lkD l := rfl
theorem lkK_inj {a b : Look} (h : lkK a = lkK b) : a = b := by
  unfold lkK at h
  injection h with h1 h
  injection h with h2 h
  injection h with h3 h
  injection h1 with h1
  injection h2 with h2
  injection h3 with h3
  exact Prod.ext h1 (Prod.ext h2 h3)
theorem keys_lk : ∀ {ks : List (List L2.Key)} {xs : List Look}, (∀ k ∈ ks, k ∈ xs.map lkK) → ∃ L : List Look, ks = L.map lkK
  | [], _, _ => ⟨[], rfl⟩
  | k :: ks, xs, h => by
    obtain ⟨L, e⟩ := keys_lk fun k hk => h k (List.mem_cons_of_mem _ hk)
    obtain ⟨l, _, e2⟩ := List.mem_map.mp (h k List.mem_cons_self)
    exact ⟨l :: L, by rw [List.map_cons, e, e2]⟩
section
variable {c : PL.Ctx} {Γ : Gam} {M : Cells} {a : Expr} {pos : Pos} {Q : D → Cells → Prop}
/-- sorted(set(looks)) -/
theorem we_sortSetL {p p2 q : Pos} (hg : GlC c.sc "sorted") (hm : c.mg "sorted" = none) (hg2 : GlC c.sc "set") (hm2 : c.mg "set" = none)
    (h : WE c a Γ M fun d M1 => ∃ xs : List Look, View M1 d (.lst (xs.map lkD)) ∧ xs.length < 64 ∧ ∀ L : List Look, Srt L → (∀ z, z ∈ L ↔ z ∈ xs) → Q (.lst (L.map lkD)) M1)
    (na : ∀ env, starEach [a] env = (false, eval a env) :: starEach [] env := by intro _; rfl) : WE c (.Call (.Name "sorted" p) [.Call (.Name "set" p2) [a] [] q] [] pos) Γ M Q :=
  we_sortSetK hg hm hg2 hm2 (h.imp fun d M1 ⟨xs, w, few, qq⟩ => ⟨xs.map lkK, by rw [List.map_map]; exact w, by rw [List.length_map]; exact few, by
      rw [List.map_map]
      exact PySem.W.AllAlike.of fun _ _ => rfl, by
      rw [List.map_map]
      exact PySem.W.Sortable.tuples fun b => ⟨_, _, rfl⟩, fun ks nd mem => by
      obtain ⟨L, rfl⟩ := keys_lk fun k hk => (mem k).mp hk
      have nd' : L.Nodup := List.Pairwise.of_map lkK (fun _ _ hne e => hne (congrArg lkK e)) nd
      have e : ((L.map lkK).mergeSort leK).map tupD = (L.mergeSort lkLe).map lkD := by
        rw [← List.map_mergeSort (r := lkLe) (f := lkK) (s := leK) fun _ _ _ _ => rfl, List.map_map]
        rfl
      rw [e]
      refine qq _ (srt_sort nd') fun z => ?_
      rw [(List.mergeSort_perm _ _).mem_iff]
      constructor
      · intro hz
        obtain ⟨y, hy, e⟩ := List.mem_map.mp ((mem _).mp (List.mem_map.mpr ⟨z, hz, rfl⟩))
        rw [← lkK_inj e]; exact hy
      · intro hz
        obtain ⟨y, hy, e⟩ := List.mem_map.mp ((mem _).mpr (List.mem_map.mpr ⟨z, hz, rfl⟩))
        rw [← lkK_inj e]; exact hy⟩) na
end
theorem eqv_lks2 (L L' : List Look) : (D.lst (L.map lkD)).eqv (.lst (L'.map lkD)) = decide (L = L') := by
  have go : ∀ L L' : List Look, PyData.eqvAll (D.pys (L.map lkD)) (D.pys (L'.map lkD)) = decide (L = L') := by
    intro L
    induction L with
    | nil =>
      intro L'
      cases L' with
      | nil => rfl
      | cons b L' => simp [D.pys, PyData.eqvAll]
    | cons a L ih =>
      intro L'
      cases L' with
      | nil => simp [D.pys, PyData.eqvAll]
      | cons b L' =>
        show (D.eqv (lkD a) (lkD b) && PyData.eqvAll (D.pys (L.map lkD)) (D.pys (L'.map lkD))) = _
        rw [eqv_lk, ih]
        simp
  exact go L L'
/-! ### looks led back, twice told -/
theorem home_turn {n : Int} (hn : 0 < n) (w : Str) (x y t : Int) : home n (w, x - t * n, y - t * n) = home n (w, x, y) := by
  have e : (x - t * n) / n = x / n - t := by
    rw [show x - t * n = x + (-t) * n by rw [Int.neg_mul]; omega, Int.add_mul_ediv_right _ _ (by omega)]
    omega
  unfold home
  simp only [e, Int.sub_mul]
  refine Prod.ext rfl (Prod.ext ?_ ?_) <;> (simp only; omega)
theorem nsP_home (n : Int) (l : Look) : nsP (home n l) = nsP l := rfl
theorem nbP_home (n : Int) (l : Look) : nbP (home n l) = nbP l := rfl
theorem back_homes {n : Int} (hn : 0 < n) (l : Look) (z : Look) : (∃ u ∈ backL (home n l), z = home n u) ↔ ∃ u ∈ backL l, z = home n u := by
  have k1 : home n (("upto" : Str), l.2.2 - l.2.1 / n * n, l.2.1 - l.2.1 / n * n) = home n (("upto" : Str), l.2.2, l.2.1) := home_turn hn _ _ _ _
  have k2 : home n (("from" : Str), l.2.2 - l.2.1 / n * n + 1, l.2.1 - l.2.1 / n * n + 1) = home n (("from" : Str), l.2.2 + 1, l.2.1 + 1) := by
    have := home_turn hn "from" (l.2.2 + 1) (l.2.1 + 1) (l.2.1 / n)
    rw [show l.2.2 + 1 - l.2.1 / n * n = l.2.2 - l.2.1 / n * n + 1 by omega, show l.2.1 + 1 - l.2.1 / n * n = l.2.1 - l.2.1 / n * n + 1 by omega] at this
    exact this
  constructor
  · rintro ⟨u, hu, rfl⟩
    rcases mem_backL.mp hu with ⟨h, rfl⟩ | ⟨h, rfl⟩
    · exact ⟨_, mem_backL.mpr (.inl ⟨h, rfl⟩), k1⟩
    · exact ⟨_, mem_backL.mpr (.inr ⟨h, rfl⟩), k2⟩
  · rintro ⟨u, hu, rfl⟩
    rcases mem_backL.mp hu with ⟨h, rfl⟩ | ⟨h, rfl⟩
    · exact ⟨_, mem_backL.mpr (.inl ⟨h, rfl⟩), k1.symm⟩
    · exact ⟨_, mem_backL.mpr (.inr ⟨h, rfl⟩), k2.symm⟩
theorem back2_eq {n : Int} (hn : 0 < n) (ks : List Look) : hearAll n (back2 n ks) = hearAll n (bks ks) :=
  srt_uniq (srt_hearAll _ _) (srt_hearAll _ _) fun z => by
    rw [mem_hearAll, mem_hearAll]
    unfold back2 bks
    simp only [List.mem_flatMap]
    constructor
    · rintro ⟨u, ⟨l, hl, hu⟩, e⟩
      obtain ⟨k, hk, rfl⟩ := mem_hearAll.mp hl
      obtain ⟨u', hu', e'⟩ := (back_homes hn k z).mp ⟨u, hu, e⟩
      exact ⟨u', ⟨k, hk, hu'⟩, e'⟩
    · rintro ⟨u, ⟨k, hk, hu⟩, e⟩
      obtain ⟨u', hu', e'⟩ := (back_homes hn k z).mpr ⟨u, hu, e⟩
      exact ⟨u', ⟨home n k, mem_hearAll.mpr ⟨k, hk, rfl⟩, hu'⟩, e'⟩
/-! ### whoever leads by the one is led back by the other -/
theorem low_oks {n : Int} (hn : 0 < n) {F : Int → Int} (hF : Hand n F) {ks : List Look} (hs : notShort ks ≠ []) (hk : ∀ l ∈ ks, Ok F l) : ∀ l ∈ ks, Ok (lowF n ks) l := fun l hl => by
  have mx := fun x => lowF_max (n := n) (x := x) hs
  refine ⟨fun h => ?_, fun h => ?_⟩
  · have := (mx l.2.1).2 _ (List.mem_map.mpr ⟨l.2, List.mem_map.mpr ⟨l, List.mem_filter.mpr ⟨hl, h⟩, rfl⟩, rfl⟩)
    have e : lowv n l.2.1 l.2 = l.2.2 := by unfold lowv; simp
    omega
  · obtain ⟨p, hp, e⟩ := List.mem_map.mp (mx l.2.1).1
    obtain ⟨k, hk', rfl⟩ := List.mem_map.mp hp
    obtain ⟨hk1, hk2⟩ := List.mem_filter.mp hk'
    have h1 := low_le (x := l.2.1) hn hF (hk k hk1) hk2
    have h2 := (hk l hl).nb h
    omega
theorem up_oks {n : Int} (hn : 0 < n) {F : Int → Int} (hF : Hand n F) {ks : List Look} (hs : notBeyond ks ≠ []) (hk : ∀ l ∈ ks, Ok F l) : ∀ l ∈ ks, Ok (upF n ks) l := fun l hl => by
  have mx := fun x => upF_min (n := n) (x := x) hs
  refine ⟨fun h => ?_, fun h => ?_⟩
  · obtain ⟨p, hp, e⟩ := List.mem_map.mp (mx l.2.1).1
    obtain ⟨k, hk', rfl⟩ := List.mem_map.mp hp
    obtain ⟨hk1, hk2⟩ := List.mem_filter.mp hk'
    have h1 := le_high (x := l.2.1) hn hF (hk k hk1) hk2
    have h2 := (hk l hl).ns h
    omega
  · have := (mx l.2.1).2 _ (List.mem_map.mpr ⟨l.2, List.mem_map.mpr ⟨l, List.mem_filter.mpr ⟨hl, h⟩, rfl⟩, rfl⟩)
    have e : highv n l.2.1 l.2 = l.2.2 := by unfold highv; simp
    omega
theorem pair_low {n : Int} (hn : 0 < n) {F : Int → Int} (hF : Hand n F) {ks : List Look} (hs : notShort ks ≠ []) (hk : ∀ l ∈ ks, Ok F l) (x : Int) : upF n (back2 n ks) (lowF n ks x) ≤ x ∧ x < upF n (back2 n ks) (lowF n ks x + 1) := by
  have ok := low_oks hn hF hs hk
  have hL := lowF_hand hn hs
  rw [← back_low hn hs ok, ← back_low hn hs ok]
  refine ⟨(back_iff hn hL).mpr (Int.le_refl _), ?_⟩
  have : ¬ backF n (lowF n ks) (lowF n ks x + 1) ≤ x := fun h => by have := (back_iff hn hL).mp h; omega
  omega
theorem pair_up {n : Int} (hn : 0 < n) {F : Int → Int} (hF : Hand n F) {ks : List Look} (hs : notBeyond ks ≠ []) (hk : ∀ l ∈ ks, Ok F l) (x : Int) : lowF n (back2 n ks) (upF n ks x) ≤ x ∧ x < lowF n (back2 n ks) (upF n ks x + 1) := by
  have ok := up_oks hn hF hs hk
  have hL := upF_hand hn hs
  rw [← back_up hn hs ok, ← back_up hn hs ok]
  refine ⟨(back_iff hn hL).mpr (Int.le_refl _), ?_⟩
  have : ¬ backF n (upF n ks) (upF n ks x + 1) ≤ x := fun h => by have := (back_iff hn hL).mp h; omega
  omega
end DK
/-! a != b by an own __eq__; a == b, b of a built-in type -/
namespace PL
open PySem PySem.Spec PyProof.Rows L2
section
variable {P : Program} {w : World} {A : Around} {E : Value → Shared → Prop} {s : Shared} {K : PySem.W.Frag} {x y C f : Addr} {ox : Obj} {od : Option Obj}
/-- the class takes object's own != -/
structure NeC (K : PySem.W.Frag) (C : Addr) : Prop where
  ne : PySem.W.findIn K (.ref C) "__ne__" = some (some (.builtin "object.__ne__"))
  mro : PySem.W.mroIn K C (.type "object") = some true
theorem ifBound_objNe {M : Model} {args : List Value} {Q : Option Value → Shared → Prop} (X : K.In s.heap) (J : PySem.W.InstAt s.heap x ox C od) (n : NeC K C) (h : wpAny M A (call (.builtin "object.__ne__") (.ref x :: args)) (fun v => Q (some v)) E s) :
    wpAny M A (callSpecialIfBound? (.ref x) "__ne__" args) Q E s := by
  simp only [callSpecialIfBound?, bindSpecialIfBound?]
  refine wpAny_holding (wpAny_bind (wpAny_bind (wpAny_bind (J.type.here ((PySem.W.looks_findIn X n.ne).here ?_)))))
  refine wpAny_bind (wpAny_askSetting (wpAny_ite ?_))
  have fin : wpAny M A (call (.builtin "object.__ne__") ([.ref x] ++ args) >>= fun v => pure (some v)) Q E s := wpAny_bind (wpAny_mono h (fun v s' h' => wpAny_pure h') fun _ _ h' => h')
  split
  · exact wpAny_bind (wpAny_of_eq (F.cmp_object.ne.bind _) (wpAny_pure (by exact fin)))
  · exact wpAny_tryCatch (wpAny_bind (wpAny_of_eq (F.cmp_object.ne.bind _) (wpAny_pure (by exact fin))))
theorem objNe_K (X : K.In s.heap) (J : PySem.W.InstAt s.heap x ox C od) (me : Meth K C "__eq__" f) (hu : A.units < cLine) {b : Value} {Q : Fin → Shared → Prop}
    (h : wpAny (model P w) A (call (.ref f) [.ref x, b]) (fun v s' => ∃ k, v = .bool k ∧ Q (.done (.ret (.bool (!k)))) s') E s) : wpAny (model P w) A (Builtin.«object.__ne__» ⟨[.ref x, b], []⟩) Q E s := by
  unfold Builtin.«object.__ne__»
  repeat (first
    | with_reducible refine wpAny_cRoomFor hu ?_
    | (refine wpAny_bind (m := callSpecialIfBound? (.ref x) (Str.ofString "__eq__") [b])
        (PySem.W.ifBound_K X J me.at_ me.fn (wpAny_mono h (fun r s' hr => by
          obtain ⟨k, rfl, hq⟩ := hr
          repeat (first | exact hq | exact wpAny_pure hq | exact wpAny_truthy_bool hq | (refine wpAny_bind (m := truthy (.bool _)) (wpAny_truthy_bool ?_)) | wp_step)) fun _ _ e => e)))
    | wp_step)
theorem richNe_K (X : K.In s.heap) (J : PySem.W.InstAt s.heap x ox C od) (J' : PySem.W.InstAt s.heap y oy C od') (me : Meth K C "__eq__" f) (n : NeC K C) (hu : A.units + 1 < cLine) {Q : Value → Shared → Prop}
    (h : wpAny (model P w) A.in1 (call (.ref f) [.ref x, .ref y]) (fun v s' => ∃ k, v = .bool k ∧ Q (.bool (!k)) s') E s) : wpAny (model P w) A (richCompare .NotEq (.ref x) (.ref y)) Q E s := by
  have one : wpAny (model P w) A (tryCompare (.ref x) "__ne__" (.ref y)) (fun r s' => ∃ k, r = some (.bool k) ∧ Q (.bool k) s') E s := by
    unfold tryCompare
    refine wpAny_bind (ifBound_objNe X J n ?_)
    refine wpAny_call (codeAny_call_builtin F.cmp_object.ne.plain F.cmpEntry_ne (PySem.W.check_slot F.cmpKind_ne F.cmpSplit_ne (J.type.andThen (PySem.W.looks_mroIn X n.mro)) (F.cmpArgs_ne _ _) (objNe_K (A := A.in1) X J me hu (wpAny_mono h (fun v s' hv => ?_) fun _ _ e => e))))
    obtain ⟨k, rfl, hq⟩ := hv
    first
      | exact ⟨k, rfl, wpAny_pure ⟨!k, rfl, hq⟩⟩
      | exact ⟨k, rfl, wpAny_pure (wpAny_pure ⟨!k, rfl, hq⟩)⟩
      | exact ⟨k, rfl, _, rfl, hq⟩
  unfold richCompare
  simp only [oneThing_ref]
  refine wpAny_holding (wpAny_bind (wpAny_cRoomFor (Nat.lt_of_succ_lt hu) ?_))
  rw [cmpInfo_NotEq]
  dsimp only
  refine wpAny_bind (J.type.here (wpAny_bind (J'.type.here ?_)))
  rw [show (Value.ref C != Value.ref C) = false from by simp]
  simp only [Bool.false_eq_true, if_false]
  refine wpAny_bind (wpAny_pure ?_)
  simp only [Bool.false_eq_true, if_false]
  refine wpAny_bind (wpAny_mono one (fun r s' z => ?_) fun _ _ e => e)
  obtain ⟨k, rfl, hq⟩ := z
  first | exact wpAny_pure hq | exact wpAny_pure (wpAny_pure hq)
end
section
variable {c : Ctx} {X : Cx} {S : AS} {Γ Γ' : Gam} {M M' : Cells} {σ σ' : L2.St} {H H' : Hp} {a b e o value : Expr} {es : List Expr} {pos pos' p apos : Pos} {Q : D → Cells → Prop} {R : Bool → Cells → Prop} {x m : Str} {E : PEnds} {C : Addr}
/-- the call of an own __eq__ that raises nothing, at any depth -/
theorem callO {f : Addr} {fd : FuncData} {ps : List Str} {k : Nat} {pf : PF} {W : WX} {A : Around} {pins : List (Addr × Obj)} {s : Shared} {Q : VK} {us : List Value} {vs : List V}
    (F : FnOk X.prog X.w X.K X.mg X.base (L2.CX X.prog X.w) k f fd ps (liftF X.K pf)) (hb : Binds X.K fd ps []) (sb : Sub X k A) (tk : Takes X W) (I : Inv X pins σ H s) (r : Vals vs us) (q : liftF X.K pf vs H Q fun _ _ _ => False) :
    wpAny (model X.prog X.w) A (call (.ref f) us) (EP X pins σ Q) X.xe s := by
  have tk' : Takes X (fun _ _ _ _ => False) := tk.imp fun _ _ _ _ z => z.elim
  have e0 : Env0 X.prog X.w X.K X.mg X.base A X.stack s H := by
    have e := I.env0
    exact ⟨by rw [sb.fr]; exact e.frames, e.mod, e.bs, e.bsz, e.funs, e.frf, e.hok, e.bare⟩
  have hl := F.len _ _ _ _ q
  refine wpAny_call (codeAny_mono (F.run A X.stack s H ⟨us, []⟩ us vs Q (fun _ _ _ => False) sb.room e0 (by
    have := hb s us I.kIn (by rw [List.append_nil, ← r.length]; exact hl)
    simpa using this) r q) fun r s' hq => ?_)
  cases r with
  | error e => exact passAt tk' σ pins H s e s' I hq
  | ok fl =>
    cases fl with
    | ret w => exact I.after hq
    | next => exact False.elim hq
    | brk => exact False.elim hq
    | cont => exact False.elim hq
theorem op_neO {f : Addr} {fd : FuncData} {ps : List Str} {k : Nat} {pf : PF} {W : WX} (F : FnOk X.prog X.w X.K X.mg X.base (L2.CX X.prog X.w) k f fd ps (liftF X.K pf)) (hm : Meth X.K C "__eq__" f) (n : NeC X.K C) (hb : Binds X.K fd ps []) (hr : Room (k + 1) X.A) (tk : Takes X W) :
    OpR X (compareOp .NotEq) (fun x y H Q => rEqO X.K C pf x y H fun v H' => ∀ k, v = .bl k → Q (.bl (!k)) H') := by
  intro pins s σ H x y v u Q I rx ry ⟨⟨a, dx, fs, ex, ha⟩, ⟨b, dy, gs, ey, hb'⟩, q⟩
  subst ex ey
  obtain rfl : v = .ref a := rx
  obtain rfl : u = .ref b := ry
  obtain ⟨mA, J, _⟩ := ins_get I.hok ha
  obtain ⟨mB, J', _⟩ := ins_get I.hok hb'
  obtain ⟨od, J, _⟩ := J.look
  obtain ⟨od', J', _⟩ := J'.look
  show wpAny (model X.prog X.w) X.A (richCompare .NotEq (.ref a) (.ref b)) (EP X pins σ Q) X.xe s
  have sb : Sub X (k + 1) X.A := ⟨hr, rfl⟩
  refine richNe_K I.kIn J J' hm n (by have := hr.units; omega) (wpAny_mono (callO (us := [.ref a, .ref b]) (vs := [.ref a, .ref b]) F hb sb.in1 tk I (.cons rfl (.cons rfl .nil)) q) (fun v s' h => ?_) fun _ _ z => z)
  obtain ⟨v', H', I', r', ⟨k, e⟩, q'⟩ := h
  subst e
  exact ⟨k, r', .bl (!k), H', I', rfl, q' k rfl⟩
/-- a != b, both of a class with an own __eq__ and none != -/
theorem we_neO {f : Addr} {fd : FuncData} {ps : List Str} {k : Nat} {pf : PF} (F : MDef c.P c.w c.K c.mg c.base C "__eq__" f fd ps k pf) (n : NeC c.K C) (hk : k + 1 ≤ c.k)
    (h : WE c a Γ M fun x M1 => WE c b Γ M1 fun y M2 => ∃ fs gs, ObjAt M2 x C fs ∧ ObjAt M2 y C gs ∧ ∃ kept lent, M2 = kept ++ lent ∧ ∀ (R : D → Cells → Prop) (Z : Addr → D → Cells → Prop), (∀ k M3, Q (.bl (!k)) (kept ++ M3) → R (.bl k) M3) → pf [x, y] lent R Z)
    (hm : behindInMarks .NotEq b = false := by rfl) : WE c (.Compare a [.NotEq] [b] pos) Γ M Q := .mk fun X S σ H at_ Q' hq => by
  obtain ⟨W, tk, _⟩ := at_.land
  have eP := at_.is.prog; have ew := at_.is.w; have eK := at_.is.K; have emg := at_.is.mg; have eb := at_.is.base
  have G : FnOk X.prog X.w X.K X.mg X.base (L2.CX X.prog X.w) k f fd ps (liftF X.K pf) := by rw [eP, ew, eK, emg, eb]; exact F.ok
  refine PE.to (pe_cmpR (op_neO G (by rw [eK]; exact F.me) (by rw [eK]; exact n) (by rw [eK]; exact F.binds) (at_.is.room.mono hk) tk) wE.pe wE.pe hm) (two h at_ fun v1 v2 H2 d1 d2 M2 c2 s2 r1 r2 ⟨fs, gs, o1, o2, kept, lent, eM, q⟩ => ?_)
  obtain ⟨a1, dx, vs, e1, h1, _⟩ := o1.get c2 r1
  obtain ⟨a2, dy, ws, e2, h2, _⟩ := o2.get c2 r2
  refine ⟨⟨a1, dx, vs, e1, h1⟩, ⟨a2, dy, ws, e2, h2⟩, ?_⟩
  subst eM
  have toL : To (av S (kept ++ lent)) (av (av S kept) lent) H2 H2 := To.of_iff fun b z => av_app.mp z
  rw [eK]
  refine ⟨av S kept, lent, [d1, d2], c2.lend, .cons (r1.to toL) (.cons (r2.to toL) .nil), ?_⟩
  exact q _ _ fun k M3 hd v H' c3 st r => by
    cases r
    obtain ⟨c4, st4⟩ := c2.back c3 st
    refine ⟨⟨k, rfl⟩, fun k' e => ?_⟩
    cases e
    exact hq _ _ _ _ c4 (s2.trans st4) .bl hd
/-- a built-in type is no own class's -/
theorem sub_kit {K : PySem.W.Frag} {C : Addr} {t : String} {l : List Value} (e : fastBuiltinMro t = some l) (h : ∀ v ∈ l, ∃ n, v = .type n) : PySem.W.subIn K (.type t) (.ref C) = some false := by
  show (fastBuiltinMro t).map (·.contains (.ref C)) = some false
  rw [e]
  have : l.contains (.ref C) = false := by
    rw [List.contains_eq_any_beq, List.any_eq_false]
    intro v hv
    obtain ⟨n, rfl⟩ := h v hv
    simp
  rw [Option.map_some, this]
end
end PL
/-! a == b, b of a built-in type; None in a list of instances with an own __eq__ -/
namespace PL
open PySem PySem.Spec PyProof.Rows L2
section
open PySem.SeqAt AutoSeq1 MeetsSeq MeetsSeq2 MeetsSeq3 SeqRoads2 GQ
variable {prog : Program} {w : World} {A : Around} {R : Result → Shared → Prop}
/-- list.__contains__ where no item is equal; I: what stands ahead of the i-th question -/
theorem none_loop (l : Addr) (x : Value) (N : Nat) (I : Nat → Shared → Prop)
    (hl : ∀ i s, I i s → ∃ (items : Array Value) (n : Nat) (dd : Option Addr) (sl : Array (Option Value)), s.heap.get? l = some { cls := .type "list", dict := dd, data := .seq items n, slots := sl } ∧ items.size = N ∧ ∀ h : i < items.size, wpAny (model prog w) A.in1 (eqBool items[i] x) (fun r s' => r = false ∧ I (i + 1) s') (fun e s' => R (.error e) s') s)
    (fin : ∀ s, I N s → R (.ok (.ret (.bool false))) s) : ∀ (k i : Nat), i + k = N → ∀ s, I i s → wpAny (model prog w) A.in1 (Builtin.«list.__contains__.loop» ⟨[.ref l, x, rawInt i], []⟩) (FinOf prog w A R) (fun e s' => R (.error e) s') s := by
  intro k
  induction k with
  | zero =>
    intro i hi s h
    obtain ⟨items, n, dd, sl, ho, sz, _⟩ := hl i s h
    obtain rfl : i = N := hi
    have e : items[((i : Nat) : Int).toNat]? = none := by simp; omega
    have q := fin s h
    obtain ⟨hp, g, d, tk, os⟩ := s
    wp_walk using wpAny_loadPart' ho
    rw [e]
    wp_walk
    exact q
  | succ k ih =>
    intro i hi s h
    obtain ⟨items, n, dd, sl, ho, sz, turn⟩ := hl i s h
    have lt : i < items.size := by omega
    have e : items[((i : Nat) : Int).toNat]? = some items[i] := by simp [lt]
    have t := turn lt
    obtain ⟨hp, g, d, tk, os⟩ := s
    wp_walk using wpAny_loadPart' ho
    rw [e]
    refine wpAny_bind (wpAny_mono t (fun r s2 h2 => ?_) fun _ _ z => z)
    obtain ⟨rfl, h2⟩ := h2
    have hrec := ih (i + 1) (by omega) s2 h2
    have hc : ((i : Int) + 1) = ((i + 1 : Nat) : Int) := by omega
    obtain ⟨hp2, g2, d2, tk2, os2⟩ := s2
    wp_walk
    rw [hc]
    exact ⟨plainId_quiet plain_contains_loop _, codeAny_builtin entry_contains_loop (by
      rw [Around.under_plainId plain_contains_loop _]
      exact hrec)⟩
end
section
variable {c : Ctx} {X : Cx} {S : AS} {Γ Γ' : Gam} {M M' : Cells} {σ σ' : L2.St} {H H' : Hp} {a b e o value : Expr} {es : List Expr} {pos pos' p apos : Pos} {Q : D → Cells → Prop} {R : Bool → Cells → Prop} {x m : Str} {E : PEnds} {C : Addr}
/-- a value of a built-in type, and what looks at its type -/
def KitV (K : PySem.W.Frag) (H : Hp) (v : V) (t : String) : Prop := (∃ i, v = .int i ∧ t = "int") ∨ (v = .non ∧ t = "NoneType") ∨ ∃ l xs, v = .ref l ∧ SqL K H l xs ∧ t = "list"
theorem KitV.looks {pins : List (Addr × Obj)} {s : Shared} {v : V} {u : Value} {t : String} (h : KitV X.K H v t) (I : Inv X pins σ H s) (r : RelV v u) : PySem.W.Looks (model X.prog X.w) s.heap (typeOf u) (.type t) := by
  rcases h with ⟨i, rfl, rfl⟩ | ⟨rfl, rfl⟩ | ⟨l, xs, rfl, hs, rfl⟩
  · obtain ⟨tk, rfl⟩ := r
    exact PySem.W.Looks.of_pure rfl
  · obtain rfl : u = .none := r
    exact PySem.W.Looks.of_pure rfl
  · obtain rfl : u = .ref l := r
    obtain ⟨its, _, ⟨o, n, ho, hc, _⟩, _⟩ := I.list hs
    exact fun A Q E s' k q => wpAny_typeOf_ref (k _ _ ho) (by rw [hc]; exact q)
theorem KitV.sub {K : PySem.W.Frag} {H : Hp} {v : V} {t : String} {C : Addr} (h : KitV K H v t) : PySem.W.subIn K (.type t) (.ref C) = some false := by
  rcases h with ⟨i, _, rfl⟩ | ⟨_, rfl⟩ | ⟨l, xs, _, _, rfl⟩
  · exact sub_kit (l := [.type "int", .type "object"]) (by decide +kernel) (by simp)
  · exact sub_kit (l := [.type "NoneType", .type "object"]) (by decide +kernel) (by simp)
  · exact sub_kit (l := [.type "list", .type "object"]) (by decide +kernel) (by simp)
/-- the walk of an own == with a value of a built-in type -/
theorem richKit {f : Addr} {fd : FuncData} {ps : List Str} {k : Nat} {pf : PF} {W : WX} {A : Around} {pins : List (Addr × Obj)} {s : Shared} {Q : Bool → Hp → Prop} {a dx : Addr} {fs : List (Str × V)} {v : V} {u : Value} {t : String}
    (F : FnOk X.prog X.w X.K X.mg X.base (L2.CX X.prog X.w) k f fd ps (liftF X.K pf)) (hm : Meth X.K C "__eq__" f) (hb : Binds X.K fd ps []) (sb : Sub X k A) (tk : Takes X W) (I : Inv X pins σ H s) (ha : H a = some (.ins C dx fs)) (r : RelV v u) (kv : KitV X.K H v t)
    (q : liftF X.K pf [.ref a, v] H (fun v H' => ∃ k, v = .bl k ∧ Q k H') fun _ _ _ => False) : wpAny (model X.prog X.w) A (richCompare .Eq (.ref a) u) (fun w s' => ∃ k, w = .bool k ∧ ∃ H', Inv X pins σ H' s' ∧ Q k H') X.xe s := by
  obtain ⟨mA, J, _⟩ := ins_get I.hok ha
  obtain ⟨od, J, _⟩ := J.look
  obtain ⟨m, hF⟩ := I.fr
  refine PySem.W.cmp_K (op := .Eq) (tb := .type t) sb.room.units0 hF I.ok.mod.kin J (kv.looks I r) (by simp [PySem.W.notFirst, kv.sub]) hm.at_ hm.fn ?_
  refine wpAny_mono (callO (us := [.ref a, u]) (vs := [.ref a, v]) F hb sb tk I (.cons rfl (.cons r .nil)) q) (fun w' s' h => ?_) fun _ _ z => z
  obtain ⟨v', H', I', r', k, e, q'⟩ := h
  subst e
  obtain rfl : w' = Value.bool k := r'
  exact ⟨k, rfl, H', I', q'⟩
theorem op_eqKit {f : Addr} {fd : FuncData} {ps : List Str} {k : Nat} {pf : PF} {W : WX} (F : FnOk X.prog X.w X.K X.mg X.base (L2.CX X.prog X.w) k f fd ps (liftF X.K pf)) (hm : Meth X.K C "__eq__" f) (hb : Binds X.K fd ps []) (hr : Room k X.A) (tk : Takes X W) :
    OpR X (compareOp .Eq) (fun x y H Q => (∃ a dx fs, x = .ref a ∧ H a = some (.ins C dx fs)) ∧ (∃ t, KitV X.K H y t) ∧ liftF X.K pf [x, y] H (fun v H' => ∃ k, v = .bl k ∧ Q (.bl k) H') fun _ _ _ => False) := by
  intro pins s σ H x y v u Q I rx ry ⟨⟨a, dx, fs, ex, ha⟩, ⟨t, kv⟩, q⟩
  subst ex
  obtain rfl : v = .ref a := rx
  show wpAny (model X.prog X.w) X.A (richCompare .Eq (.ref a) u) (EP X pins σ Q) X.xe s
  refine wpAny_mono (richKit (Q := fun k H' => Q (.bl k) H') F hm hb ⟨hr, rfl⟩ tk I ha ry kv q) (fun w s' h => ?_) fun _ _ z => z
  obtain ⟨k, rfl, H', I', q'⟩ := h
  exact ⟨.bl k, H', I', rfl, q'⟩
/-- plain values of a built-in type -/
def kitD : D → Option String
  | .int _ => some "int"
  | .non => some "NoneType"
  | .lst _ => some "list"
  | _ => none
theorem kitV_of {K : PySem.W.Frag} {A : AS} {H : Hp} {v : V} {d : D} {t : String} (r : Rep K A H v d) (h : kitD d = some t) : KitV K H v t := by
  cases d with
  | int i => cases r; cases h; exact .inl ⟨i, rfl, rfl⟩
  | non => cases r; cases h; exact .inr (.inl ⟨rfl, rfl⟩)
  | lst ds =>
    cases h
    cases r with
    | lst h1 h2 => exact .inr (.inr ⟨_, _, rfl, h1.sq, rfl⟩)
  | _ => cases h
/-- a == b, a of a class with an own __eq__, b an int, a list or None -/
theorem we_eqKit {f : Addr} {fd : FuncData} {ps : List Str} {k : Nat} {pf : PF} (F : MDef c.P c.w c.K c.mg c.base C "__eq__" f fd ps k pf) (hk : k ≤ c.k)
    (h : WE c a Γ M fun x M1 => WE c b Γ M1 fun y M2 => ∃ fs t, ObjAt M2 x C fs ∧ kitD y = some t ∧ ∃ kept lent, M2 = kept ++ lent ∧ ∀ (R : D → Cells → Prop) (Z : Addr → D → Cells → Prop), (∀ k M3, Q (.bl k) (kept ++ M3) → R (.bl k) M3) → pf [x, y] lent R Z)
    (hm : behindInMarks .Eq b = false := by rfl) : WE c (.Compare a [.Eq] [b] pos) Γ M Q := .mk fun X S σ H at_ Q' hq => by
  obtain ⟨W, tk, _⟩ := at_.land
  have eP := at_.is.prog; have ew := at_.is.w; have eK := at_.is.K; have emg := at_.is.mg; have eb := at_.is.base
  have G : FnOk X.prog X.w X.K X.mg X.base (L2.CX X.prog X.w) k f fd ps (liftF X.K pf) := by rw [eP, ew, eK, emg, eb]; exact F.ok
  refine PE.to (pe_cmpR (op_eqKit G (by rw [eK]; exact F.me) (by rw [eK]; exact F.binds) (at_.is.room.mono hk) tk) wE.pe wE.pe hm) (two h at_ fun v1 v2 H2 d1 d2 M2 c2 s2 r1 r2 ⟨fs, t, o1, ht, kept, lent, eM, q⟩ => ?_)
  obtain ⟨a1, dx, vs, e1, h1, _⟩ := o1.get c2 r1
  refine ⟨⟨a1, dx, vs, e1, h1⟩, ⟨t, by rw [eK]; exact kitV_of r2 ht⟩, ?_⟩
  subst eM
  have toL : To (av S (kept ++ lent)) (av (av S kept) lent) H2 H2 := To.of_iff fun b z => av_app.mp z
  rw [eK]
  refine ⟨av S kept, lent, [d1, d2], c2.lend, .cons (r1.to toL) (.cons (r2.to toL) .nil), ?_⟩
  exact q _ _ fun k M3 hd v H' c3 st r => by
    cases r
    obtain ⟨c4, st4⟩ := c2.back c3 st
    exact ⟨k, rfl, hq _ _ _ _ c4 (s2.trans st4) .bl hd⟩
/-- what None in a list asks -/
def rNoneO (K : PySem.W.Frag) (C : Addr) (pf : PF) (S : AS) (M : Cells) : R2 := fun x y H Q => x = .non ∧ ∃ (l : Addr) (vs : List V) (ds : List D), y = .ref l ∧ RdL K (av S M) H l vs ∧ Core K S M H ∧ Reps K (av S M) H vs ds ∧
  (∀ d ∈ ds, ∃ fs, ObjAt M d C fs ∧ ∀ (R : D → Cells → Prop) (Z : Addr → D → Cells → Prop), R (.bl false) M → pf [d, .non] M R Z) ∧ ∀ H', Core K S M H' → Step M M H H' → Q (.bl false) H'
theorem reps_at {K : PySem.W.Frag} {A : AS} {H : Hp} : ∀ {vs : List V} {ds : List D} {i : Nat} {v : V}, Reps K A H vs ds → vs[i]? = some v → ∃ d ∈ ds, Rep K A H v d
  | _, _, 0, v, .cons r _, e => by
    obtain rfl := Option.some.inj (show some _ = some v from e)
    exact ⟨_, List.mem_cons_self, r⟩
  | _, _, i + 1, v, .cons _ t, e => by
    obtain ⟨d, hd, r⟩ := reps_at t (i := i) e
    exact ⟨d, List.mem_cons_of_mem _ hd, r⟩
  | _, _, 0, _, .nil, e => by cases e
  | _, _, _ + 1, _, .nil, e => by cases e
theorem op_noneO {f : Addr} {fd : FuncData} {ps : List Str} {k : Nat} {pf : PF} {W : WX} (G : FnOk X.prog X.w X.K X.mg X.base (L2.CX X.prog X.w) k f fd ps (liftF X.K pf)) (hm : Meth X.K C "__eq__" f) (hb : Binds X.K fd ps []) (hr : Room (k + 1) X.A) (tk : Takes X W) :
    OpR X (compareOp .In) (rNoneO X.K C pf S M) := by
  intro pins s σ H x y v u Q I rx ry ⟨ex, l, vs, ds, ey, hs, c0, rs, ask, q⟩
  subst ex ey
  obtain rfl : v = .none := rx
  obtain rfl : u = .ref l := ry
  obtain ⟨its, rv, ⟨o, n, ho, hc, hd⟩, _⟩ := I.list hs.sq
  have ty : s.TypeIs (.ref l) "list" := ⟨o, ho, hc⟩
  let In : Nat → Shared → Prop := fun _ s' => ∃ H1, Inv X pins σ H1 s' ∧ Core X.K S M H1 ∧ Step M M H H1
  show wpAny (model X.prog X.w) X.A (do return Value.bool (← contains (.ref l) .none)) (EP X pins σ Q) X.xe s
  refine wpAny_bind (wpAny_contains_slot ty F.slot_list_contains (wpAny_mono (GQ.call_here (Q := fun v s' => v = .bool false ∧ In 0 s') F.slot_list_contains ty F.entry_list_contains (F.args_list_contains_2 _ _) ?_) (fun v s' hv => ?_) fun _ _ e => e))
  · have len : vs.length = its.length := rv.length
    have loop := none_loop (prog := X.prog) (w := X.w) (A := X.A) (R := wants (fun v s' => v = .bool false ∧ In 0 s') X.xe) l .none its.length In (fun i s1 h => ?_) (fun s1 h => ⟨rfl, h⟩) its.length 0 (Nat.zero_add _) s ⟨H, I, c0, .refl⟩
    · obtain ⟨⟨cls, dd, data, sl⟩, ho, hc, n, hd⟩ : s.heap.IsList l its.toArray := ⟨_, ho, hc, n, hd.2⟩
      simp only at hc hd
      subst hc hd
      obtain ⟨hp, g, d, tk2, os⟩ := s
      wp_walk using AutoSeq1.wpAny_loadPart' ho
      exact ⟨plainId_quiet MeetsSeq.plain_contains_loop _, codeAny_builtin MeetsSeq.entry_contains_loop (by
        rw [Around.under_plainId MeetsSeq.plain_contains_loop _]
        exact loop)⟩
    · obtain ⟨H1, I1, c1, s1'⟩ := h
      have rs1 : Reps X.K (av S M) H1 vs ds := rs.to s1'.to
      obtain ⟨its1, rv1, pl1, _⟩ := I1.list (xs := vs) (s1'.to.rdl hs).sq
      obtain ⟨⟨cls, dd, data, sl⟩, ho1, hc1, n1, hd1⟩ := pl1.isList
      simp only at hc1 hd1
      subst hc1 hd1
      refine ⟨its1.toArray, n1, dd, sl, ho1, by rw [List.size_toArray, ← rv1.length, len], fun hi => ?_⟩
      have iv : i < vs.length := by rw [rv1.length]; simpa using hi
      obtain ⟨u, hu, ru⟩ := rv1.get (List.getElem?_eq_getElem iv)
      have e1 : its1.toArray[i] = u := by
        have hi' : i < its1.length := by simpa using hi
        rw [List.getElem?_eq_getElem hi'] at hu
        simpa using Option.some.inj hu
      rw [e1]
      obtain ⟨d, hd, rd⟩ := reps_at rs1 (List.getElem?_eq_getElem iv)
      obtain ⟨fs, od, pr⟩ := ask d hd
      obtain ⟨a1, dx, ws, ev, h1, _⟩ := od.get (c := ⟨X.prog, X.w, X.K, X.mg, X.base, X.N, X.env.scope, 0, fun _ _ _ _ => True, fun _ => false, false⟩) c1 rd
      rw [ev] at ru rd
      obtain rfl : u = .ref a1 := ru
      unfold eqBool
      refine wpAny_holding (wpAny_ite_split (fun hab => absurd (eq_of_beq hab) nofun) fun _ => ?_)
      have sb : Sub X (k + 1) X.A := ⟨hr, rfl⟩
      refine wpAny_bind (wpAny_mono (richKit (Q := fun b H2 => b = false ∧ Core X.K S M H2 ∧ Step M M H1 H2) G hm hb sb.in1 tk I1 h1 (show RelV .non .none from rfl) (.inr (.inl ⟨rfl, rfl⟩)) ⟨S, M, [d, .non], c1, .cons rd (.cons .non .nil), pr _ _ fun v H' c2 st2 r2 => ?_⟩) (fun w s' h => ?_) fun _ _ z => z)
      · cases r2
        exact ⟨false, rfl, rfl, c2, st2⟩
      · obtain ⟨b, rfl, H2, I2, rfl, c2, st2⟩ := h
        exact wpAny_truthy_bool ⟨rfl, H2, I2, c2, s1'.trans st2⟩
  · obtain ⟨rfl, H1, I1, c1, s1⟩ := hv
    exact wpAny_truthy_bool (wpAny_pure ⟨.bl false, H1, I1, rfl, q H1 c1 s1⟩)
/-- None in [a, b, ..], all of a class with an own __eq__ -/
theorem we_noneIn {j : Nat} {p2 : Pos} {f : Addr} {fd : FuncData} {ps : List Str} {k : Nat} {pf : PF} (F : MDef c.P c.w c.K c.mg c.base C "__eq__" f fd ps k pf) (hk : k + 1 ≤ c.k)
    (h : WE c b Γ M fun y M2 => ∃ ds, y = .lst ds ∧ (∀ d ∈ ds, ∃ fs, ObjAt M2 d C fs ∧ ∀ (R : D → Cells → Prop) (Z : Addr → D → Cells → Prop), R (.bl false) M2 → pf [d, .non] M2 R Z) ∧ Q (.bl false) M2)
    (hm : behindInMarks .In b = false := by rfl) : WE c (.Compare (.Constant .none j p2) [.In] [b] pos) Γ M Q := .mk fun X S σ H at_ Q' hq => by
  obtain ⟨W, tk, _⟩ := at_.land
  have eP := at_.is.prog; have ew := at_.is.w; have eK := at_.is.K; have emg := at_.is.mg; have eb := at_.is.base
  have G : FnOk X.prog X.w X.K X.mg X.base (L2.CX X.prog X.w) k f fd ps (liftF X.K pf) := by rw [eP, ew, eK, emg, eb]; exact F.ok
  intro pins s I
  have hx := h.run X S σ H at_ (fun v H2 => ∃ M2, Core c.K S M2 H2 ∧ Step M M2 H H2 ∧ ∃ ds, Rep c.K (av S M2) H2 v (.lst ds) ∧ (∀ d ∈ ds, ∃ fs, ObjAt M2 d C fs ∧ ∀ (R : D → Cells → Prop) (Z : Addr → D → Cells → Prop), R (.bl false) M2 → pf [d, .non] M2 R Z) ∧ Q (.bl false) M2) fun v H2 d M2 c2 s2 r2 ⟨ds, e, ask, q⟩ => ⟨M2, c2, s2, ds, e ▸ r2, ask, q⟩
  refine wpAny_Compare1 (wpAny_of_eq (a := Value.none) rfl (thn (hx pins s I) fun u s2 ⟨v, H2, I2, r2, M2, c2, st2, ds, rd, ask, q⟩ => ?_)) hm
  cases rd with
  | @lst l vs ds h1 h2 =>
    refine op_noneO (S := S) (M := M2) G (by rw [eK]; exact F.me) (by rw [eK]; exact F.binds) (at_.is.room.mono hk) tk pins s2 σ H2 .non (.ref l) _ u Q' I2 rfl r2 ⟨rfl, l, vs, ds, rfl, by rw [eK]; exact h1, by rw [eK]; exact c2, by rw [eK]; exact h2, ask, fun H' c3 s3 => ?_⟩
    rw [eK] at c3
    exact hq _ _ _ _ c3 (st2.trans s3) .bl q
end
section
variable {c : Ctx} {Γ : Gam} {M : Cells} {tgs : List Expr} {ds : List D} {pos : Pos} {G : Gam → Cells → Prop}
/-- (a, b, ..) = a list of that length -/
theorem wg_lst {k : Nat} (hl : tgs.length = ds.length) (h : WGs c tgs ds Γ M G) (hn : ∀ env, (assignEach tgs env).length = tgs.length := by intro _; rfl) (hst : ∀ env, (assignEach tgs env).findIdx? (·.1) = none := by intro _; rfl) : WG c (.Tuple tgs k pos) (.lst ds) Γ M G := .mk fun X S σ H at_ v r Q' hq => by
  cases r with
  | lst h1 h2 =>
    refine PG.to (pg_unl at_.is.calm wGs.pgs (hn _) (hst _)) ⟨_, _, rfl, ?_, by rw [h2.length, hl], h.run X S σ H at_ _ h2 _ hq⟩
    rw [at_.is.K]
    exact h1.sq
/-- a built-in type is no own class -/
theorem kitOne_no {K : PySem.W.Frag} {C : Addr} {t : String} (h1 : PySem.W.isClsIn K C = true) (h2 : PySem.W.typeIn K (.ref C) = some (.type "type")) (h3 : PySem.W.subIn K (.type t) (.ref C) = some false) : PySem.W.kitOne K (.type t) (.ref C) = some false := by
  have e : (PySem.W.clsIn K C).isSome = true := h1
  unfold PySem.W.kitOne
  rw [if_neg (by simp)]
  unfold PySem.W.kitCls
  simp only [e, h2, h3, Bool.true_and, beq_self_eq_true, if_true]
theorem kits_no {K : PySem.W.Frag} {C : Addr} (h1 : PySem.W.isClsIn K C = true) (h2 : PySem.W.typeIn K (.ref C) = some (.type "type")) : ∀ t, t = "int" ∨ t = "NoneType" ∨ t = "list" → PySem.W.kitOne K (.type t) (.ref C) = some false := by
  rintro t (rfl | rfl | rfl)
  · exact kitOne_no h1 h2 (sub_kit (l := [.type "int", .type "object"]) (by decide +kernel) (by simp))
  · exact kitOne_no h1 h2 (sub_kit (l := [.type "NoneType", .type "object"]) (by decide +kernel) (by simp))
  · exact kitOne_no h1 h2 (sub_kit (l := [.type "list", .type "object"]) (by decide +kernel) (by simp))
end
end PL
/-! the own == and None in .. as tests -/
namespace PL
open PySem PySem.Spec PyProof.Rows L2
section
variable {c : Ctx} {X : Cx} {S : AS} {Γ Γ' : Gam} {M M' : Cells} {σ σ' : L2.St} {H H' : Hp} {a b e o value : Expr} {es : List Expr} {pos pos' p apos : Pos} {Q : D → Cells → Prop} {R : Bool → Cells → Prop} {x m : Str} {E : PEnds} {C : Addr}
theorem wt_eqO {f : Addr} {fd : FuncData} {ps : List Str} {k : Nat} {pf : PF} (F : MDef c.P c.w c.K c.mg c.base C "__eq__" f fd ps k pf) (hk : k ≤ c.k)
    (h : WE c a Γ M fun x M1 => WE c b Γ M1 fun y M2 => ∃ fs gs, ObjAt M2 x C fs ∧ ObjAt M2 y C gs ∧ ∃ kept lent, M2 = kept ++ lent ∧ ∀ (R' : D → Cells → Prop) (Z : Addr → D → Cells → Prop), (∀ k M3, R k (kept ++ M3) → R' (.bl k) M3) → pf [x, y] lent R' Z)
    (hm : behindInMarks .Eq b = false := by rfl) : WT c (.Compare a [.Eq] [b] pos) Γ M R := .mk fun X S σ H at_ Q' hq => by
  obtain ⟨W, tk, _⟩ := at_.land
  have eP := at_.is.prog; have ew := at_.is.w; have eK := at_.is.K; have emg := at_.is.mg; have eb := at_.is.base
  have G : FnOk X.prog X.w X.K X.mg X.base (L2.CX X.prog X.w) k f fd ps (liftF X.K pf) := by rw [eP, ew, eK, emg, eb]; exact F.ok
  refine PT.to (pt_cmpR (op_eqO G (by rw [eK]; exact F.me) (by rw [eK]; exact F.binds) (at_.is.room.mono hk) tk) wE.pe wE.pe hm) (two h at_ fun v1 v2 H2 d1 d2 M2 c2 s2 r1 r2 ⟨fs, gs, o1, o2, kept, lent, eM, q⟩ => ?_)
  obtain ⟨a1, dx, vs, e1, h1, _⟩ := o1.get c2 r1
  obtain ⟨a2, dy, ws, e2, h2, _⟩ := o2.get c2 r2
  refine ⟨⟨a1, dx, vs, e1, h1⟩, ⟨a2, dy, ws, e2, h2⟩, ?_⟩
  subst eM
  have toL : To (av S (kept ++ lent)) (av (av S kept) lent) H2 H2 := To.of_iff fun b z => av_app.mp z
  rw [eK]
  refine ⟨av S kept, lent, [d1, d2], c2.lend, .cons (r1.to toL) (.cons (r2.to toL) .nil), ?_⟩
  exact q _ _ fun k M3 hd v H' c3 st r => by
    cases r
    obtain ⟨c4, st4⟩ := c2.back c3 st
    exact ⟨⟨k, rfl⟩, k, rfl, hq _ _ _ c4 (s2.trans st4) hd⟩
theorem wt_eqKit {f : Addr} {fd : FuncData} {ps : List Str} {k : Nat} {pf : PF} (F : MDef c.P c.w c.K c.mg c.base C "__eq__" f fd ps k pf) (hk : k ≤ c.k)
    (h : WE c a Γ M fun x M1 => WE c b Γ M1 fun y M2 => ∃ fs t, ObjAt M2 x C fs ∧ kitD y = some t ∧ ∃ kept lent, M2 = kept ++ lent ∧ ∀ (R' : D → Cells → Prop) (Z : Addr → D → Cells → Prop), (∀ k M3, R k (kept ++ M3) → R' (.bl k) M3) → pf [x, y] lent R' Z)
    (hm : behindInMarks .Eq b = false := by rfl) : WT c (.Compare a [.Eq] [b] pos) Γ M R := .mk fun X S σ H at_ Q' hq => by
  obtain ⟨W, tk, _⟩ := at_.land
  have eP := at_.is.prog; have ew := at_.is.w; have eK := at_.is.K; have emg := at_.is.mg; have eb := at_.is.base
  have G : FnOk X.prog X.w X.K X.mg X.base (L2.CX X.prog X.w) k f fd ps (liftF X.K pf) := by rw [eP, ew, eK, emg, eb]; exact F.ok
  refine PT.to (pt_cmpR (op_eqKit G (by rw [eK]; exact F.me) (by rw [eK]; exact F.binds) (at_.is.room.mono hk) tk) wE.pe wE.pe hm) (two h at_ fun v1 v2 H2 d1 d2 M2 c2 s2 r1 r2 ⟨fs, t, o1, ht, kept, lent, eM, q⟩ => ?_)
  obtain ⟨a1, dx, vs, e1, h1, _⟩ := o1.get c2 r1
  refine ⟨⟨a1, dx, vs, e1, h1⟩, ⟨t, by rw [eK]; exact kitV_of r2 ht⟩, ?_⟩
  subst eM
  have toL : To (av S (kept ++ lent)) (av (av S kept) lent) H2 H2 := To.of_iff fun b z => av_app.mp z
  rw [eK]
  refine ⟨av S kept, lent, [d1, d2], c2.lend, .cons (r1.to toL) (.cons (r2.to toL) .nil), ?_⟩
  exact q _ _ fun k M3 hd v H' c3 st r => by
    cases r
    obtain ⟨c4, st4⟩ := c2.back c3 st
    exact ⟨k, rfl, k, rfl, hq _ _ _ c4 (s2.trans st4) hd⟩
theorem wt_noneIn {j : Nat} {p2 : Pos} {f : Addr} {fd : FuncData} {ps : List Str} {k : Nat} {pf : PF} (F : MDef c.P c.w c.K c.mg c.base C "__eq__" f fd ps k pf) (hk : k + 1 ≤ c.k)
    (h : WE c b Γ M fun y M2 => ∃ ds, y = .lst ds ∧ (∀ d ∈ ds, ∃ fs, ObjAt M2 d C fs ∧ ∀ (R : D → Cells → Prop) (Z : Addr → D → Cells → Prop), R (.bl false) M2 → pf [d, .non] M2 R Z) ∧ R false M2)
    (hm : behindInMarks .In b = false := by rfl) : WT c (.Compare (.Constant .none j p2) [.In] [b] pos) Γ M R := .mk fun X S σ H at_ Q' hq => by
  obtain ⟨W, tk, _⟩ := at_.land
  have eP := at_.is.prog; have ew := at_.is.w; have eK := at_.is.K; have emg := at_.is.mg; have eb := at_.is.base
  have G : FnOk X.prog X.w X.K X.mg X.base (L2.CX X.prog X.w) k f fd ps (liftF X.K pf) := by rw [eP, ew, eK, emg, eb]; exact F.ok
  intro pins s I
  have hx := h.run X S σ H at_ (fun v H2 => ∃ M2, Core c.K S M2 H2 ∧ Step M M2 H H2 ∧ ∃ ds, Rep c.K (av S M2) H2 v (.lst ds) ∧ (∀ d ∈ ds, ∃ fs, ObjAt M2 d C fs ∧ ∀ (R : D → Cells → Prop) (Z : Addr → D → Cells → Prop), R (.bl false) M2 → pf [d, .non] M2 R Z) ∧ R false M2) fun v H2 d M2 c2 s2 r2 ⟨ds, e, ask, q⟩ => ⟨M2, c2, s2, ds, e ▸ r2, ask, q⟩
  refine wpAny_isTrue_Compare1 (wpAny_of_eq (a := Value.none) rfl (thn (hx pins s I) fun u s2 ⟨v, H2, I2, r2, M2, c2, st2, ds, rd, ask, q⟩ => ?_)) hm
  cases rd with
  | @lst l vs ds h1 h2 =>
    refine wpAny_mono (op_noneO (S := S) (M := M2) G (by rw [eK]; exact F.me) (by rw [eK]; exact F.binds) (at_.is.room.mono hk) tk pins s2 σ H2 .non (.ref l) _ u (fun v H' => v = .bl false ∧ Q' false H') I2 rfl r2 ⟨rfl, l, vs, ds, rfl, by rw [eK]; exact h1, by rw [eK]; exact c2, by rw [eK]; exact h2, ask, fun H' c3 s3 => ?_⟩) (fun w s3 hw => ?_) fun _ _ z => z
    · rw [eK] at c3
      exact ⟨rfl, hq _ _ _ c3 (st2.trans s3) q⟩
    · obtain ⟨v', H', I', r', e', q'⟩ := hw
      subst e'
      obtain rfl : w = Value.bool false := r'
      exact wpAny_truthy_bool ⟨H', I', q'⟩
theorem Reps.reverse {K : PySem.W.Frag} {A : AS} {H : Hp} : ∀ {vs : List V} {ds : List D}, Reps K A H vs ds → Reps K A H vs.reverse ds.reverse
  | _, _, .nil => .nil
  | _, _, .cons r t => by
    rw [List.reverse_cons, List.reverse_cons]
    exact (Reps.reverse t).append (.cons r .nil)
/-- xs.reverse() -/
theorem we_reverse {apos : Pos} (h : WE c a Γ M fun x M1 => ∃ (p : Addr) (i : Nat) (ds : List D), x = .ptr p ∧ M1[i]? = some (p, .lst ds) ∧ Q .non (M1.set i (p, .lst ds.reverse)))
    (hbase : ∀ env, attributeBase a "reverse" env (eval a env) = eval a env := by intro _; rfl) (hline : (apos.endLine == pos.line) = true := by rfl) : WE c (.Call (.Attribute a "reverse" apos) [] [] pos) Γ M Q :=
  we_listM0 (f := fun ds z ds' => z = .non ∧ ds' = ds.reverse) PySem.F.slot_list_reverse PySem.F.type_list_reverse (fun X => mt_reverse)
    (fun {c S M H p vs ds z ds' Q'} hp rs hf q => by
      obtain ⟨e1, e2⟩ := hf
      subst e1 e2
      exact ⟨p, vs, rfl, rfl, hp, q _ _ .non rs.reverse⟩)
    (.mk fun X S σ H at_ Q' hq => h.run X S σ H at_ Q' fun v H' d M' c1 s1 r1 ⟨p, i, ds, e1, hi, q⟩ => hq v H' d M' c1 s1 r1 ⟨p, i, ds, .non, _, e1, hi, ⟨rfl, rfl⟩, q⟩) hbase hline
end
end PL
namespace PL
open PySem PySem.Spec PyProof.Rows L2
/-- an error of the class at S is not what «except T» names -/
theorem exm_subB {K : PySem.W.Frag} {S T : Addr} {b : Bool} (h1 : PySem.W.subIn K (.ref T) (.type "BaseException") = some true) (h2 : PySem.W.isClsIn K T = true) (h3 : PySem.W.typeIn K (.ref T) = some (.type "type")) (h4 : PySem.W.subIn K (.ref S) (.ref T) = some b) :
    PySem.W.exmOne K (.ref S) (.ref T) = some b := by
  have e1 : (PySem.W.subIn K (.ref T) (.type "BaseException") == some true) = true := by rw [h1] <;> rfl
  have e2 : ((PySem.W.clsIn K T).isSome && PySem.W.typeIn K (.ref T) == some (.type "type")) = true := by
    have h2' : (PySem.W.clsIn K T).isSome = true := h2
    rw [h2', h3] <;> rfl
  show (if (PySem.W.subIn K (.ref T) (.type "BaseException") == some true) = true then (if ((PySem.W.clsIn K T).isSome && PySem.W.typeIn K (.ref T) == some (.type "type")) = true then PySem.W.subIn K (.ref S) (.ref T) else none) else none) = some b
  rw [if_pos e1, if_pos e2]
  exact h4
theorem exm_two {K : PySem.W.Frag} {S T1 T2 : Value} {a b : Bool} (h1 : PySem.W.exmOne K S T1 = some a) (h2 : PySem.W.exmOne K S T2 = some b) : PySem.W.exmAny K S [T1, T2] = some (a || b) := by
  unfold PySem.W.exmAny PySem.W.exmAny PySem.W.exmAny
  rw [h1, h2]
  simp
/-! a clause over two classes: «except (A, B): y = k» -/
section
variable {X : Cx}
/-- an exception that came down into the frame of X -/
structure Down (X : Cx) (pins : List (Addr × Obj)) (a : Addr) (cls : Value) (d : Option Addr) (σ : L2.St) (H : Hp) (s : Shared) : Prop where
  ex : ∃ (B : Heap) (sI : Shared), Inv X pins σ H sI ∧ (∀ b o, sI.heap.get? b = some o → b ∉ frs X.stack → B.get? b = some o) ∧ sI.heap.UpToSlots s.heap ∧ HandSPX.FlyingZ B (X.env :: X.outer) a (Zc cls d) s.heap ∧ H a = none ∧ s.os = sI.os ∧ AllBare s.gens
theorem flying_push {B h : Heap} {l : List Env} {a : Addr} {Z : Obj → Prop} {o : Obj} (x : HandSPX.FlyingZ B l a Z h) : HandSPX.FlyingZ B l a Z (h.push o) := by
  obtain ⟨k1, k2, k3, oe, vs, T, oT, ts, g1, g2, g3, g4, g5, g6, g7, g8, g9⟩ := x
  have kp : ∀ b u, h.get? b = some u → (h.push o).get? b = some u := fun b u e => Heap.get?_push_of_some _ e
  exact ⟨fun b u e => kp b u (k1 b u e), k2, k3.of_keeps fun b u e _ => ⟨u, kp b u e, rfl⟩, oe, vs, T, oT, ts, kp _ _ g1, g2, g3, g4, g5, g6, kp _ _ g7, g8, g9⟩
theorem upToSlots_push {h1 h : Heap} {o : Obj} (x : h1.UpToSlots h) : h1.UpToSlots (h.push o) := x.trans fun b u e _ => ⟨u.slots, Heap.get?_push_of_some _ e⟩
theorem Down.push {pins : List (Addr × Obj)} {a : Addr} {cls : Value} {d : Option Addr} {σ : L2.St} {H : Hp} {s : Shared} {o : Obj} (x : Down X pins a cls d σ H s) : Down X pins a cls d σ H { s with heap := s.heap.push o } := by
  obtain ⟨B, sI, J, nb, up, fl, na, os, ag⟩ := x
  exact ⟨B, sI, J, nb, upToSlots_push up, flying_push fl, na, os, ag⟩
/-- a try's one clause, the way to it -/
theorem ps_catch {h0 : ExceptHandler} {body : List Stmt} {pos : Pos} {tb : WX → TS} {wish : Ends → WX} (hs : X.stack = X.env :: X.outer) (hf : X.env.frame = some X.env.locals)
    (hb : ∀ (W : WX) (pn : List (Addr × Obj)) (xe : Value → Shared → Prop), Takes (X.tr pn xe) W → PassesOwn (model X.prog X.w) X.A X.env xe → PSs (X.tr pn xe) body (tb W))
    (hh : ∀ (pins : List (Addr × Obj)) (σ : L2.St) (H : Hp) (s : Shared) (a : Addr) (cls : Value) (d : Option Addr) (D : Ends), Down X pins a cls d σ H s → wish D cls d σ H → wpAny (model X.prog X.w) X.A (handleBy (.ref a) X.env [h0]) (SP X pins D) X.xe s) :
    PS X (.Try body [h0] [] [] pos) (fun D σ H => tb (wish D) D σ H) := by
  refine ⟨fun pins s σ H D I h => wpAny_Try_except ?_⟩
  have ok := I.ok
  have fr : X.A.frames = some (X.env :: X.outer) := by rw [ok.frames, hs]
  let xe' : Value → Shared → Prop := fun e s1 => wpAny (model X.prog X.w) X.A (noteFrame e X.env) (fun _ s2 => wpAny (model X.prog X.w) X.A (setFlight e none) (fun _ s3 => wpAny (model X.prog X.w) X.A (handleBy e X.env [h0]) (SP X pins D) X.xe s3) X.xe s2) X.xe s1
  have tk : Takes (X.tr (X.pn ++ pins) xe') (wish D) := by
    rintro u s' ⟨a, B, sI, pins', σ', H', cls, d, rfl, J', nb, up, sky, na, os, ag, hw⟩
    have J : Inv X pins σ' H' sI := J'.ofTry ok
    have sky2 : Sky B (X.env :: X.outer) a (Zc cls d) X.env.locals s'.heap := by rw [← hs]; exact sky
    exact Sky.land Zc.steady fr hf sky2 fun h3 fl up3 => hh pins σ' H' _ a cls d D ⟨B, sI, J, nb, up.trans up3, fl, na, os, ag⟩ hw
  refine wpAny_mono ((hb (wish D) (X.pn ++ pins) xe' tk PassesOwn.looking).run [] s σ H D (I.toTry _) h) (fun f s1 q => ?_) fun e s1 q => q
  cases f with
  | next =>
    obtain ⟨_, _, J, q⟩ := q
    exact wpAny_execs_nil ⟨_, _, J.ofTry ok, q⟩
  | ret u =>
    obtain ⟨_, _, _, J, r, q⟩ := q
    exact ⟨_, _, _, J.ofTry ok, r, q⟩
  | brk =>
    obtain ⟨_, _, J, q⟩ := q
    exact ⟨_, _, J.ofTry ok, q⟩
  | cont =>
    obtain ⟨_, _, J, q⟩ := q
    exact ⟨_, _, J.ofTry ok, q⟩
/-- what a landed exception's state allows -/
theorem Down.inv {pins : List (Addr × Obj)} {a : Addr} {cls : Value} {d : Option Addr} {σ : L2.St} {H : Hp} {s : Shared} (hf : X.env.frame = some X.env.locals) (x : Down X pins a cls d σ H s) :
    ∃ (oe : Obj), s.heap.get? a = some oe ∧ Zc cls d oe ∧ (∃ vs, oe.data = .fields vs) ∧ Inv X pins σ H s ∧ Inv (X.suite a ((a, oe) :: (X.pn ++ pins))) [] σ H s := by
  obtain ⟨B, sI, J, nb, up, fl, na, os, ag⟩ := x
  have J3 : Inv X pins σ H s := J.landed nb fl.1 up os ag
  obtain ⟨oe, vs, e1, e2, e3⟩ := fl.there
  have ff : s.heap.FunFrames B (X.env :: X.outer) := fl.2.2.1
  have nf : a ∉ frs (X.env :: X.outer) := fun hm => by
    obtain ⟨_, o2, z1, z2⟩ := ff.mem hm
    rw [e1] at z1; cases z1
    exact z2 _ e3
  have n1 : a ≠ X.env.locals := fun z => nf (List.mem_filterMap.mpr ⟨X.env, List.mem_cons_self, by rw [hf, z]⟩)
  have n2 : a ∉ X.fs := fun hm => by
    obtain ⟨v, hv, q⟩ := List.mem_filterMap.mp hm
    exact nf (List.mem_filterMap.mpr ⟨v, List.mem_cons_of_mem _ hv, q⟩)
  exact ⟨oe, e1, e2, ⟨vs, e3⟩, J3, J3.suite e1 e3 na n1 n2⟩
/-- no clause takes it -/
theorem Down.on {pins : List (Addr × Obj)} {a : Addr} {cls : Value} {d : Option Addr} {σ : L2.St} {H : Hp} {s : Shared} {D : Ends} {W : WX} (hs : X.stack = X.env :: X.outer) (hf : X.env.frame = some X.env.locals) (tk : Takes X W) (x : Down X pins a cls d σ H s) (w : W cls d σ H) :
    wpAny (model X.prog X.w) X.A (handleBy (.ref a) X.env []) (SP X pins D) X.xe s := by
  obtain ⟨B, sI, J, nb, up, fl, na, os, ag⟩ := x
  have fl' := fl
  obtain ⟨_, _, _, oe, vs, T, _, _, g1, _, g3, g4, _⟩ := fl'
  have go : wpAny (model X.prog X.w) X.A (setFlight (.ref a) X.env.frame) (fun _ s4 => wpAny (model X.prog X.w) X.A (throw (.ref a) : Sem Flow) (SP X pins D) X.xe s4) X.xe s := by
    rw [hf]
    exact HandSPX.setFlight_upZ fl fun h4 z up4 => wpAny_throw (tk _ _ ⟨a, B, sI, pins, σ, H, cls, d, rfl, J, nb, up.trans up4, .inr (.inr (by rw [hs]; exact z)), na, os, ag, w⟩)
  refine wpAny_handleBy_nil ?_
  unfold PySem.passOn
  refine wpAny_bind (wpAny_field g1 g3 g4 ?_)
  rw [if_neg (by simp)]
  first
  | exact wpAny_bind (wpAny_pure (wpAny_bind go))
  | exact wpAny_bind go
/-- what «except (A, B)» wishes -/
def wTwo (K : PySem.W.Frag) (c1 c2 : Value) (ts : Addr → Value → Option Addr → TS) (Wout : WX) (D : Ends) : WX := fun cls d σ H =>
  ∃ b, PySem.W.exmAny K cls [c1, c2] = some b ∧ (b = true → ∀ a, H a = none → ts a cls d D σ H) ∧ (b = false → Wout cls d σ H)
theorem ps_try_two {x1 x2 : Str} {c1 c2 : Value} {body suite : List Stmt} {b0 : Stmt} {p1 p2 tp pos pos' : Pos} {k : Nat} {tb : WX → TS} {ts : Addr → Value → Option Addr → TS} {Wout : WX} (hs : X.stack = X.env :: X.outer) (hf : X.env.frame = some X.env.locals)
    (hc1 : Names X x1 c1) (hc2 : Names X x2 c2) (tk : Takes X Wout)
    (hb : ∀ (W : WX) (pn : List (Addr × Obj)) (xe : Value → Shared → Prop), Takes (X.tr pn xe) W → PassesOwn (model X.prog X.w) X.A X.env xe → PSs (X.tr pn xe) body (tb W))
    (hsu : ∀ (a : Addr) (oe : Obj) (cls : Value) (d : Option Addr) (pn : List (Addr × Obj)), Zc cls d oe → (∃ vs, oe.data = .fields vs) → PSs (X.suite a ((a, oe) :: pn)) (b0 :: suite) (ts a cls d)) :
    PS X (.Try body [.ExceptHandler (some (.Tuple [.Name x1 p1, .Name x2 p2] k tp)) none (b0 :: suite) pos'] [] [] pos) (fun D σ H => tb (wTwo X.K c1 c2 ts Wout D) D σ H) := by
  refine ps_catch hs hf hb fun pins σ H s a cls d D dn ⟨b, hb1, hyes, hno⟩ => ?_
  obtain ⟨oe, e1, z1, e3, J, S⟩ := dn.inv hf
  have ok := J.ok
  have nm : ∀ {x : Str} {c : Value} {p : Pos} {Q : Value → Shared → Prop} {E : Value → Shared → Prop}, Names X x c → Q c s → wpAny (model X.prog X.w) (X.A.mark (some (.ref a))) (eval (.Name x p) X.env) Q E s := fun {x c p Q E} hn q => by
    obtain ⟨hg, hd, hm | ⟨hm, hv, h0⟩⟩ := hn
    · exact ld_glob (X := X.suite a ((a, oe) :: (X.pn ++ pins))) S hg hm q hd
    · exact ld_blt (X := X.suite a ((a, oe) :: (X.pn ++ pins))) S hg hm hv q h0 hd
  refine wpAny_handleBy_cons (codeAny_handlers_test ?_) (by intro q; cases q)
  refine Tuple_ (spliced_more (nm hc1 (spliced_more (nm hc2 (spliced_none ?_)))))
  refine wpAny_newObj_type ?_ (by size_fits)
  have dn2 := dn.push (o := { cls := .type "tuple", dict := none, data := .seq [c1, c2].toArray })
  obtain ⟨oe2, f1, f2, f3, J2, S2⟩ := dn2.inv hf
  have LT : PySem.W.Looks (model X.prog X.w) (s.heap.push { cls := .type "tuple", dict := none, data := .seq [c1, c2].toArray }) (typeOf (.ref a)) cls := fun A Q E s k q => wpAny_typeOf_ref (k _ _ f1) (by rw [f2.1]; exact q)
  refine (PySem.W.exm_tup2 (M := model X.prog X.w) J2.kIn LT (Heap.get?_push_size _ rfl) hb1).here ?_
  cases b with
  | true =>
    refine codeAny_handlers_suite ?_
    obtain ⟨B, sI, Ji, nb, up, fl, na, os, ag⟩ := dn2
    refine HandSPX.lands_againZ fl fun h4 fl4 up4 => ?_
    have dn4 : Down X pins a cls d σ H { s with heap := h4 } := ⟨B, sI, Ji, nb, up.trans up4, fl4, na, os, ag⟩
    obtain ⟨oe4, _, g2, g3, _, S4⟩ := dn4.inv hf
    refine wpAny_mono ((hsu a oe4 cls d (X.pn ++ pins) g2 g3).run [] _ _ H _ S4 (hyes rfl a na)) (fun f s6 q => ?_) fun _ _ z => False.elim z
    cases f with
    | next =>
      obtain ⟨_, _, S6, q⟩ := q
      exact ⟨_, _, S6.unsuite ok, q⟩
    | ret u =>
      obtain ⟨_, _, _, S6, r, q⟩ := q
      exact ⟨_, _, _, S6.unsuite ok, r, q⟩
    | brk =>
      obtain ⟨_, _, S6, q⟩ := q
      exact ⟨_, _, S6.unsuite ok, q⟩
    | cont =>
      obtain ⟨_, _, S6, q⟩ := q
      exact ⟨_, _, S6.unsuite ok, q⟩
  | false => exact dn2.on hs hf tk (hno rfl)
end
section
variable {c : Ctx} {X : Cx} {S : AS} {Γ : Gam} {M : Cells} {E : PEnds} {x : Str} {pos pos' : Pos}
/-- try: .. except (x1, x2): y = k -/
theorem ws_tryT {C1 C2 : Addr} {x1 x2 : Str} {i : Nat} {y : Str} {body : List Stmt} {q1 q2 tp p1 p2 p3 : Pos} {v : Bool} {j k : Nat} (ht : c.top = true) (hg1 : GlC c.sc x1) (hm1 : c.mg x1 = some (.ref C1)) (hg2 : GlC c.sc x2) (hm2 : c.mg x2 = some (.ref C2)) (hy : c.N[i]? = some y) (hl : LocC c y)
    (h : WSs (c.tr (fun C => PySem.W.exmAny c.K (.ref C) [.ref C1, .ref C2]) fun _ _ Γ1 M1 => E.nx (Γ1.set i (some (.bl v))) M1) body E Γ M) (hd1 : (x1 == ("__debug__" : Str)) = false := by decide) (hd2 : (x2 == ("__debug__" : Str)) = false := by decide)
    (hs : ∀ env, swapsWith (.Constant (.bool v) j p2) (some (.Name y p1)) p3.line env = pure false := by intro _; rfl) :
    WS c (.Try body [.ExceptHandler (some (.Tuple [.Name x1 q1, .Name x2 q2] k tp)) none [.Assign [.Name y p1] (.Constant (.bool v) j p2) p3] pos'] [] [] pos) E Γ M := .mk fun X S σ H at_ Ds l => by
  obtain ⟨W, tk, hW⟩ := at_.land
  obtain ⟨hst, hfr⟩ := at_.is.stk ht
  refine PS.to (ps_try_two (c1 := .ref C1) (c2 := .ref C2) (tb := fun W D σ H => ∀ pn xe, Takes (X.tr pn xe) W → PassesOwn (model X.prog X.w) X.A X.env xe → wSs (X.tr pn xe) body D σ H) (ts := fun _ _ _ => tSeq (tAsg (tC (.bl v)) (gName i)) tNext) (Wout := W) hst hfr ⟨at_.is.gl hg1, hd1, .inl (at_.is.mgN hm1)⟩ ⟨at_.is.gl hg2, hd2, .inl (at_.is.mgN hm2)⟩ tk (fun W pn xe t po => ⟨fun pins s σ H D I h => h pn xe t po pins s I⟩) (fun a oe cls d pn hz hf => ?_)) ?_
  · exact pss_cons (L2.ps_set (X := X.suite a ((a, oe) :: pn)) at_.is.nd (at_.is.nm hy) (at_.is.loc hl) pe_bl (hs _) (at_.is.st hl)) pss_nil
  · intro pn xe t po
    refine h.run (X.tr pn xe) S σ H ⟨⟨at_.is.prog, at_.is.w, at_.is.K, at_.is.mg, at_.is.base, at_.is.N, at_.is.sc, at_.is.room, at_.is.calm, at_.is.nd, at_.is.fn, po, at_.is.stk⟩, at_.core, at_.slots, ⟨_, t, fun C dd v0 d σ' H' Γ' M' cc sl1 st1 hx r1 z => ?_⟩⟩ Ds ⟨l.nx, l.rt, l.bk, l.ct⟩
    rw [at_.is.K]
    rcases z with ⟨z1, z2⟩ | ⟨z1, z2⟩
    · exact ⟨true, z1, fun _ a na => l.nx _ _ _ _ cc (sl1.set .bl) st1 z2, fun z => (by cases z)⟩
    · exact ⟨false, z1, fun z => (by cases z), fun _ => hW C dd v0 d σ' H' Γ' M' cc sl1 st1 hx r1 z2⟩
end
section
variable {c : PL.Ctx} {X : Cx} {S : AS} {Γ : Gam} {M : Cells} {a b : Expr} {pos : Pos} {R : Bool → Cells → Prop} {C : Addr}
/-- a != b by an own __eq__, as a test -/
theorem wt_neO {f : Addr} {fd : FuncData} {ps : List Str} {k : Nat} {pf : PF} (F : MDef c.P c.w c.K c.mg c.base C "__eq__" f fd ps k pf) (n : NeC c.K C) (hk : k + 1 ≤ c.k)
    (h : WE c a Γ M fun x M1 => WE c b Γ M1 fun y M2 => ∃ fs gs, ObjAt M2 x C fs ∧ ObjAt M2 y C gs ∧ ∃ kept lent, M2 = kept ++ lent ∧ ∀ (R' : D → Cells → Prop) (Z : Addr → D → Cells → Prop), (∀ k M3, R (!k) (kept ++ M3) → R' (.bl k) M3) → pf [x, y] lent R' Z)
    (hm : behindInMarks .NotEq b = false := by rfl) : WT c (.Compare a [.NotEq] [b] pos) Γ M R := .mk fun X S σ H at_ Q' hq => by
  obtain ⟨W, tk, _⟩ := at_.land
  have eP := at_.is.prog; have ew := at_.is.w; have eK := at_.is.K; have emg := at_.is.mg; have eb := at_.is.base
  have G : FnOk X.prog X.w X.K X.mg X.base (L2.CX X.prog X.w) k f fd ps (liftF X.K pf) := by rw [eP, ew, eK, emg, eb]; exact F.ok
  refine PT.to (pt_cmpR (op_neO G (by rw [eK]; exact F.me) (by rw [eK]; exact n) (by rw [eK]; exact F.binds) (at_.is.room.mono hk) tk) wE.pe wE.pe hm) (two h at_ fun v1 v2 H2 d1 d2 M2 c2 s2 r1 r2 ⟨fs, gs, o1, o2, kept, lent, eM, q⟩ => ?_)
  obtain ⟨a1, dx, vs, e1, h1, _⟩ := o1.get c2 r1
  obtain ⟨a2, dy, ws, e2, h2, _⟩ := o2.get c2 r2
  refine ⟨⟨a1, dx, vs, e1, h1⟩, ⟨a2, dy, ws, e2, h2⟩, ?_⟩
  subst eM
  have toL : To (av S (kept ++ lent)) (av (av S kept) lent) H2 H2 := To.of_iff fun b z => av_app.mp z
  rw [eK]
  refine ⟨av S kept, lent, [d1, d2], c2.lend, .cons (r1.to toL) (.cons (r2.to toL) .nil), ?_⟩
  exact q _ _ fun k M3 hd v H' c3 st r => by
    cases r
    obtain ⟨c4, st4⟩ := c2.back c3 st
    refine ⟨⟨k, rfl⟩, fun k' e => ?_⟩
    cases e
    exact ⟨!k, rfl, hq _ _ _ c4 (s2.trans st4) hd⟩
end
end PL
namespace DK
open PySem PL
theorem isMax_max (xs : List Int) : IsMax xs xs.max? := by
  cases e : xs.max? with
  | none => exact List.max?_eq_none_iff.mp e
  | some m => exact List.max?_eq_some_iff.mp e
theorem isMin_min (xs : List Int) : IsMin xs xs.min? := by
  cases e : xs.min? with
  | none => exact List.min?_eq_none_iff.mp e
  | some m => exact List.min?_eq_some_iff.mp e
/-- what is told of a place -/
def leastO (n : Int) (L : List Look) (x : Int) : Option Int := ((notShort L).map (lowv n x)).max?
def greatestO (n : Int) (L : List Look) (x : Int) : Option Int := ((notBeyond L).map (highv n x)).min?
theorem leastO_eq {n : Int} {L : List Look} {x : Int} {o : Option Int} (h : IsMax ((notShort L).map (lowv n x)) o) : o = leastO n L x := IsMax.uniq (fun _ => Iff.rfl) h (isMax_max _)
theorem greatestO_eq {n : Int} {L : List Look} {x : Int} {o : Option Int} (h : IsMin ((notBeyond L).map (highv n x)) o) : o = greatestO n L x := IsMin.uniq (fun _ => Iff.rfl) h (isMin_min _)
theorem okd_opt (n : Nat) (o : Option Int) : (optD o).okd n = true := by cases o <;> cases n <;> rfl
theorem eqv_same : ∀ ds : List D, (∀ d ∈ ds, PySem.W.alike d.py d.py = true) → (D.lst ds).eqv (.lst ds) = true := fun ds h =>
  PySem.W.eqv_refl_alike (.list (D.pys ds)) (by
    show PySem.W.alikeAll (D.pys ds) (D.pys ds) = true
    induction ds with
    | nil => rfl
    | cons d ds ih =>
      show (PySem.W.alike d.py d.py && PySem.W.alikeAll (D.pys ds) (D.pys ds)) = true
      rw [h d List.mem_cons_self, ih fun e he => h e (List.mem_cons_of_mem _ he)]
      rfl)
theorem eqv_opts (f : Int → Option Int) (xs : List Int) : (D.lst (xs.map fun x => optD (f x))).eqv (.lst (xs.map fun x => optD (f x))) = true := eqv_same _ fun d hd => by
  obtain ⟨x, _, rfl⟩ := List.mem_map.mp hd
  cases f x <;> rfl
theorem alike_lkm (L : List Look) : PySem.W.AllAlike ((L.map lkD).map D.py) := by
  rw [List.map_map]
  exact PySem.W.AllAlike.of fun _ _ => rfl
theorem sortable_lkm (L : List Look) : PySem.W.Sortable ((L.map lkD).map D.py) := by
  rw [List.map_map]
  exact PySem.W.Sortable.tuples fun b => ⟨_, _, rfl⟩
theorem sort_lkm (L : List Look) : (L.map lkD).mergeSort leD = (L.mergeSort lkLe).map lkD := by
  show _ = (L.mergeSort fun a b => leD (lkD a) (lkD b)).map lkD
  rw [List.map_mergeSort (f := lkD) (s := leD) fun _ _ _ _ => rfl]
theorem okds_lk (n : Nat) : ∀ L : List Look, D.okds (n + 2) (L.map lkD) = true
  | [] => rfl
  | l :: L => by
    show ((lkD l).okd (n + 2) && D.okds (n + 2) (L.map lkD)) = true
    rw [okds_lk n L]
    rfl
section
variable {c : PL.Ctx} {Γ : Gam} {M : Cells} {Q : D → Cells → Prop} {e : Expr} {p pos : Pos}
/-- sorted(looks) -/
theorem we_sortLk (hg : GlC c.sc "sorted") (hm : c.mg "sorted" = none) (h : WE c e Γ M fun d M1 => ∃ L : List Look, View M1 d (.lst (L.map lkD)) ∧ Q (.lst ((L.mergeSort lkLe).map lkD)) M1)
    (he : ∀ env, starEach [e] env = (false, eval e env) :: starEach [] env := by intro _; rfl) : WE c (.Call (.Name "sorted" p) [e] [] pos) Γ M Q :=
  we_sortedD hg hm (h.imp fun d M1 ⟨L, v, q⟩ => ⟨_, v, okds_lk 58 L, alike_lkm L, sortable_lkm L, by rw [sort_lkm]; exact q⟩) he
theorem calleeNil {pf : PF} {ds : List D} (h : ∀ (R : D → Cells → Prop) (Z : Addr → D → Cells → Prop), (∀ d, Q d M → R d []) → pf ds [] R Z) : Callee c pf Γ ds M Q :=
  ⟨M, [], (List.append_nil _).symm, fun R Z hR hZ => h R Z fun d hd => hR d [] (by rw [List.append_nil]; exact hd)⟩
end
end DK
namespace My
open PySem PySem.Spec PyProof.Rows L2 PL
def topS (i : Nat) : Stmt := PySem.Challenge.pw_darkpace_k06_whole_histories.main.body.getD i (.Pass ⟨0, 0, 0, 0⟩)
def inClass (c : Stmt) (i : Nat) : Stmt := match c with
  | .ClassDef (body := body) .. => body.getD i (.Pass ⟨0, 0, 0, 0⟩)
  | _ => .Pass ⟨0, 0, 0, 0⟩
/-- no more than a hundred figures -/
abbrev Bg (i : Int) : Prop := -10000000000000000000000000000000000000000000000000000000000000000000000000000000000000000000000000000 < i ∧ i < 10000000000000000000000000000000000000000000000000000000000000000000000000000000000000000000000000000
theorem div_in {a n B : Int} (hn : 0 < n) (h : -B ≤ a ∧ a ≤ B) : -B ≤ a / n ∧ a / n ≤ B := by
  constructor
  · have h1 : 0 ≤ B := by omega
    rw [Int.le_ediv_iff_mul_le hn]
    have : -B * n ≤ -B * 1 := Int.mul_le_mul_of_nonpos_left (by omega) (by omega)
    omega
  · have h1 : 0 ≤ B := by omega
    refine Int.le_of_lt_add_one (Int.ediv_lt_of_lt_mul hn ?_)
    have : (B + 1) * 1 ≤ (B + 1) * n := Int.mul_le_mul_of_nonneg_left (by omega) (by omega)
    omega
theorem cmulDiv {a n : Int} (hn : 0 < n) (ha : Sm a) (hs : Sm n) : CMulW (a / n) n := by
  refine cmulB ?_ hs
  have ha' := ha
  unfold Sm at ha' ⊢
  have := div_in hn (B := if 0 ≤ a then a else -a) (a := a) (by split <;> omega)
  split at this <;> omega
/-- x // n * n is x, no more than n off -/
theorem floor_in {x n : Int} (hn : 0 < n) : x - n < x / n * n ∧ x / n * n ≤ x := by
  have h1 := Int.emod_add_mul_ediv x n
  have h2 := Int.emod_nonneg x (b := n) (by omega)
  have h3 := Int.emod_lt_of_pos x hn
  rw [Int.mul_comm] at h1
  omega
theorem seq0 {n : Nat} : seqIndex? 0 (n + 1) = some 0 := by
  simp [seqIndex?]
local macro_rules | `(tactic| walk_at "s_mul") => `(tactic| first | exact cmulDiv (by omega) (by walk_at "s_sm") (by walk_at "s_sm") | exact cmulB (by walk_at "s_sm") (by walk_at "s_sm"))
local macro_rules | `(tactic| walk_at "s_sm") => `(tactic| first | assumption | (simp only [Sm]; omega) | (simp only [Sm, Bg] at *; omega))
local macro_rules | `(tactic| walk_at "s_div") => `(tactic| exact cdivB (by omega) (by walk_at "s_sm"))
local macro_rules | `(tactic| walk_at "s_mod") => `(tactic| omega)
local macro_rules | `(tactic| walk_at "s_pow") => `(tactic| exact ⟨by omega, by omega, by omega⟩)
local macro_rules | `(tactic| walk_at "s_len") => `(tactic| first | decide | assumption | (simp only [List.length_map, List.length_append, List.length_cons, List.length_nil, List.length_range] at *; first | exact lenB (by omega) | exact lenB' (by omega)))
local macro_rules | `(tactic| walk_at "s_len2") => `(tactic| (simp only [List.length_map, List.length_append, List.length_cons, List.length_nil] at *; exact lenB' (by omega)))
local macro_rules | `(tactic| walk_at "s_look") => `(tactic| rfl)
local macro_rules | `(tactic| walk_at "s_at") => `(tactic| rfl)
local macro_rules | `(tactic| walk_at "s_ix") => `(tactic| first | rfl | exact seq0 | (simp [seqIndex?]; done) | (simp [seqIndex?]; omega))
local macro_rules | `(tactic| walk_at "s_pop") => `(tactic| rfl)
theorem okds_map {α : Type} {n : Nat} {f : α → D} (h : ∀ x, (f x).okd n = true) : ∀ xs : List α, D.okds n (xs.map f) = true
  | [] => rfl
  | x :: xs => by
    show ((f x).okd n && D.okds n (xs.map f)) = true
    rw [h x, okds_map h xs]
    rfl
theorem okd_map {α : Type} {f : α → D} (xs : List α) (h : ∀ x, (f x).okd 59 = true) : D.okd 60 (.lst (xs.map f)) = true := okds_map h xs
theorem okds_app {n : Nat} : ∀ {xs ys : List D}, D.okds n xs = true → D.okds n ys = true → D.okds n (xs ++ ys) = true
  | [], _, _, h => h
  | x :: xs, ys, h1, h2 => by
    have h1' : x.okd n = true ∧ D.okds n xs = true := by simpa [D.okds] using h1
    show (x.okd n && D.okds n (xs ++ ys)) = true
    rw [h1'.1, okds_app h1'.2 h2]
    rfl
local macro_rules | `(tactic| walk_at "s_okd") => `(tactic| first | rfl | exact okd_map _ (fun _ => rfl) | exact okds_map (fun _ => rfl) _ | exact okds_app (okds_map (fun _ => rfl) _) rfl)
local macro_rules | `(tactic| walk_at "s_mem") => `(tactic| (intro v hv; simp only [List.mem_cons, List.not_mem_nil, or_false] at hv; omega))
local macro_rules | `(tactic| walk_at "s_mg") => `(tactic| assumption)
local macro_rules | `(tactic| walk_at "s_kit") => `(tactic| first | exact kit_bb | exact kit_ib | exact kit_sb | exact kit_tb | exact kit_lb | exact kit_bi | exact kit_ii | exact kit_si | exact kit_ti | exact kit_li | exact kit_ss | exact kit_ts | exact kit_ls | exact kit_tl | exact kit_ll | exact kit_tt | exact kit_lt | exact kit_nb | exact kit_ni)
local macro_rules | `(tactic| walk_at "s_few") => `(tactic| (simp only [List.length_map, List.length_range] at *; omega))
local macro_rules | `(tactic| walk_at "s_pos") => `(tactic| first | assumption | exact Nat.succ_pos _ | (simp only [List.length_map, List.length_range] at *; omega))
local macro_rules | `(tactic| walk_at "s_rg") => `(tactic| first | omega | (simp only [List.length_map] at *; omega))


/-! ### draws -/
theorem mulTray {f t : Int} (hf : 0 ≤ f ∧ f < 2305843009213693951) (h : 0 ≤ t ∧ t ≤ 1000000000) : CMulW (f + 5) ((t + 2) ^ Int.toNat 3) := by
  have e : (t + 2) ^ Int.toNat 3 = (t + 2) * (t + 2) * (t + 2) := by
    show (t + 2) ^ 3 = _
    rw [Int.pow_succ, Int.pow_succ, Int.pow_succ, Int.pow_zero, Int.one_mul]
  rw [e]
  have h1 := mulB (a := t + 2) (b := t + 2) (A := 2000000000) (B := 2000000000) (by omega) (by omega)
  have h2 := mulB (a := (t + 2) * (t + 2)) (b := t + 2) (A := 2000000000 * 2000000000) (B := 2000000000) h1 (by omega)
  exact cmulB (by unfold Sm; omega) (by unfold Sm; omega)
def trayM (a g : Addr) (gr : List Int) (l f t : Int) : Cells := [(a, .lst [.ptr g, .int l, .int f, .int t]), (g, .lst (gr.map D.int))]
def IsTray (T : Int) (a : Addr) (M : Cells) : Prop := ∃ g gr l f t, M = trayM a g gr l f t ∧ gr.length ≤ 63 ∧ 0 ≤ l ∧ (∀ x ∈ gr, 0 ≤ x) ∧ (0 ≤ t ∧ t ≤ T) ∧ (0 ≤ f ∧ f < 2305843009213693951)
theorem IsTray.mono {T T' : Int} {a : Addr} {M : Cells} (h : IsTray T a M) (k : T ≤ T') : IsTray T' a M := by
  obtain ⟨g, gr, l, f, t, e, h1, h2, h3, h4, h5⟩ := h
  exact ⟨g, gr, l, f, t, e, h1, h2, h3, by omega, h5⟩
abbrev s_tray : Stmt := topS 21
theorem sc_tray : FnScope ["script", "fold", "great", "cell", "much"] ["script"] (defScope s_tray) := ⟨rfl, rfl, rfl, by decide +kernel, rfl, by decide +kernel, by decide +kernel⟩
abbrev s_draw : Stmt := topS 22
theorem sc_draw : FnScope ["tray", "many", "found", "stir"] ["tray", "many"] (defScope s_draw) := ⟨rfl, rfl, rfl, by decide +kernel, rfl, by decide +kernel, by decide +kernel⟩

section
variable {P : Program} {w : World} {K : PySem.W.Frag} {mg : Str → Option Value} {base : Heap}
def pfTray : PF := fun ds M R _ => ∃ ns : List Int, ds = [.lst (ns.map D.int)] ∧ ns.length ≤ 63 ∧ M = [] ∧ ∀ a M', IsTray 0 a M' → R (.ptr a) M'
theorem ok_tray {f fd k} (F : Fun K "_law_tray" "_law_tray" s_tray f fd) (m_max : mg "max" = none) : FnOk P w K mg base (L2.CX P w) (k + 1) f fd ["script"] (liftF K pfTray) := by
  refine fn_mk F sc_tray (fun ds M R Z ⟨ns, e, _⟩ => by subst e; rfl) ?_
  rintro ds M R Z ⟨ns, rfl, hl, rfl, q⟩
  refine wss_cons (ws_asg (i := 1) rfl (.inl rfl) (we_int (?_)))
  refine wss_cons (ws_asg (i := 2) rfl (.inl rfl) (we_lstC (wa_nil (⟨Nat.le_of_ble_eq_true rfl, fun p1 => ?_⟩))))
  refine wss_cons (ws_forL ns D.int (fun pre Γ2 M2 => ∃ (fo : Int) (c0 c1 : Option D) (gr : List Int), Γ2 = [some (.lst (ns.map D.int)), some (.int fo), some (.ptr p1), c0, c1] ∧ M2 = [(p1, .lst (gr.map D.int))] ∧ (0 ≤ fo ∧ fo < 2305843009213693951) ∧ gr.length ≤ pre.length ∧ ∀ x ∈ gr, 0 ≤ x)
    (we_var (i := 0) rfl (.inl rfl) rfl (?_)))
  refine ⟨rfl, ⟨_, _, _, [], rfl, rfl, by decide, by simp, by simp⟩, ?_, ?_⟩
  · rintro pre y post Γ2 M2 e ⟨fo, c0, c1, gr, rfl, rfl, hf, hg, hp⟩
    have hlen : pre.length < 63 := by rw [e] at hl; simp at hl; omega
    refine wg_name (i := 3) rfl (.inl rfl) (?_)
    refine wss_cons (ws_asg (i := 1) rfl (.inl rfl) (we_mod (we_add (we_mul (we_var (i := 1) rfl (.inl rfl) rfl (we_int (⟨_, _, rfl, rfl, (by walk_at "s_mul"), we_var (i := 3) rfl (.inl rfl) rfl (⟨_, _, rfl, rfl, we_sub (we_powK (v := 2305843009213693952) ⟨by decide, by decide, by decide⟩ (by decide +kernel) (we_int (⟨_, _, rfl, rfl, ⟨_, _, rfl, rfl, (by walk_at "s_mod"), ?_⟩⟩)))⟩)⟩)))))))
    refine wss_cons (ws_asg (i := 4) rfl (.inl rfl) (we_max2 rfl (by walk_at "s_mg") (we_var (i := 3) rfl (.inl rfl) rfl (we_sub (we_int (we_var (i := 3) rfl (.inl rfl) rfl (⟨_, _, rfl, rfl, ⟨_, _, rfl, rfl, ?_⟩⟩)))))))
    refine wss_cons (ws_if (wt_ge (we_var (i := 4) rfl (.inl rfl) rfl (we_powK (v := 1000000000000000000) ⟨by decide, by decide, by decide⟩ (by decide +kernel) (⟨_, _, rfl, rfl, br_dec (fun h113 => ?_) (fun h113 => ?_)⟩)))))
    · refine wss_cons (ws_expr (we_append (we_var (i := 2) rfl (.inl rfl) rfl (⟨_, 0, _, rfl, rfl, we_sub (we_var (i := 4) rfl (.inl rfl) rfl (we_powK (v := 1000000000000000000) ⟨by decide, by decide, by decide⟩ (by decide +kernel) (⟨_, _, rfl, rfl, ⟨0, _, rfl, by walk_at "s_len", ?_⟩⟩)))⟩))))
      refine wss_nil <| wss_nil ⟨_, _, _, gr ++ [(if 0 - y > y then 0 - y else y) - 1000000000000000000], rfl, by simp, ?_, ?_, ?_⟩
      · omega
      · simp; omega
      · intro x hx
        rcases List.mem_append.mp hx with hx | hx
        · exact hp x hx
        · simp only [List.mem_singleton] at hx; subst hx; omega
    · refine wss_nil <| wss_nil ⟨_, _, _, gr, rfl, rfl, ?_, ?_, hp⟩
      · omega
      · simp; omega
  · rintro Γ2 M2 ⟨fo, c0, c1, gr, rfl, rfl, hf, hg, hp⟩
    refine wss_cons (ws_ret (we_lstC (wa_cons (we_var (i := 2) rfl (.inl rfl) rfl (wa_cons (we_int (wa_cons (we_var (i := 1) rfl (.inl rfl) rfl (wa_cons (we_int (wa_nil (⟨Nat.le_of_ble_eq_true rfl, fun p2 => ?_⟩))))))))))))
    exact q _ _ ⟨p1, gr, 0, fo, 0, rfl, Nat.le_trans hg hl, Int.le_refl _, hp, ⟨Int.le_refl _, Int.le_refl _⟩, hf⟩
/-- a draw: some number below many -/
def pfDraw : PF := fun ds M R _ => ∃ a many T, ds = [.ptr a, .int many] ∧ IsTray T a M ∧ (0 < many ∧ Sm many) ∧ T < 1000000000 ∧ ∀ r M', 0 ≤ r → r < many → IsTray (T + 1) a M' → R (.int r) M'
theorem ok_draw {f fd k} (F : Fun K "_law_draw" "_law_draw" s_draw f fd) : FnOk P w K mg base (L2.CX P w) (k + 1) f fd ["tray", "many"] (liftF K pfDraw) := by
  refine fn_mk F sc_draw (fun ds M R Z ⟨a, many, T, e, _⟩ => by subst e; rfl) ?_
  rintro ds M R Z ⟨a, many, T, rfl, ⟨g, gr, left, fold, turn, rfl, h1, h2, h3, h4, h5⟩, ⟨hm, hm'⟩, hT, q⟩
  refine wss_cut (fun Γ1 M1 => ∃ gr left turn fold, Γ1 = [some (.ptr a), some (.int many), none, none] ∧ M1 = trayM a g gr left fold turn ∧ gr.length ≤ 63 ∧ 0 ≤ left ∧ (∀ x ∈ gr, 0 ≤ x) ∧ (0 ≤ turn ∧ turn ≤ T) ∧ (0 ≤ fold ∧ fold < 2305843009213693951))
    (ws_while (fun m Γ1 M1 => ∃ gr left turn fold, m = gr.length ∧ Γ1 = [some (.ptr a), some (.int many), none, none] ∧ M1 = trayM a g gr left fold turn ∧ gr.length ≤ 63 ∧ 0 ≤ left ∧ (∀ x ∈ gr, 0 ≤ x) ∧ (0 ≤ turn ∧ turn ≤ T) ∧ (0 ≤ fold ∧ fold < 2305843009213693951)) _ ⟨gr, left, turn, fold, rfl, rfl, rfl, h1, h2, h3, h4, h5⟩ ?_) ?_
  · clear h1 h2 h3 h4 h5
    rintro m Γ1 M1 ⟨gr, left, turn, fold, rfl, rfl, rfl, h1, h2, h3, h4, h5⟩
    refine wt_ww (ww_and (wt_lt (we_ix (we_var (i := 0) rfl (.inl rfl) rfl (we_int (⟨_, _, _, .inr (.inr ⟨0, _, rfl, rfl⟩), rfl, by walk_at "s_at", we_int (⟨_, _, rfl, rfl, br_dec (fun h117b => ww_and1 (wt_ne (we_ix (we_var (i := 0) rfl (.inl rfl) rfl (we_int (⟨_, _, _, .inr (.inr ⟨0, _, rfl, rfl⟩), rfl, by walk_at "s_at", we_lst (wa_nil (⟨Nat.le_of_ble_eq_true rfl, ⟨_, _, .cell (i := 1) rfl, .self, by walk_at "s_okd", by walk_at "s_okd", br_nk (fun h117 => ?_) (fun h117 => ?_)⟩⟩))⟩)))))) (fun h117b => br_f (?_))⟩)⟩))))))
    · match gr, h1, h3 with
      | x :: gr, h1, h3 =>
        refine wss_cons (ws_lput (we_popAt (we_ix (we_var (i := 0) rfl (.inl rfl) rfl (we_int (⟨_, _, _, .inr (.inr ⟨0, _, rfl, rfl⟩), rfl, by walk_at "s_at", ⟨_, 1, _, rfl, rfl, we_int (⟨1, _, _, 0, _, rfl, rfl, by decide, by decide, by walk_at "s_ix", by walk_at "s_pop", we_var (i := 0) rfl (.inl rfl) rfl (we_int (⟨_, 0, _, _, _, rfl, rfl, rfl, by walk_at "s_ix", ?_⟩))⟩)⟩⟩))))))
        exact wss_nil ⟨gr.length, by simp, gr, x, turn, fold, rfl, rfl, rfl, by simp at h1; omega, h3 x (by simp), fun y hy => h3 y (by simp [hy]), h4, h5⟩
      | [], _, _ => exact absurd ‹_› (by simp [D.eqv, D.py, D.pys, PyData.eqv, PyData.eqvAll])
    · exact ⟨gr, left, turn, fold, rfl, rfl, h1, h2, h3, h4, h5⟩
    · exact ⟨gr, left, turn, fold, rfl, rfl, h1, h2, h3, h4, h5⟩
  clear h1 h2 h3 h4 h5
  rintro Γ1 M1 ⟨gr, left, turn, fold, rfl, rfl, h1, h2, h3, h4, h5⟩
  refine wss_cons (ws_if (wt_ge (we_ix (we_var (i := 0) rfl (.inl rfl) rfl (we_int (⟨_, _, _, .inr (.inr ⟨0, _, rfl, rfl⟩), rfl, by walk_at "s_at", we_int (⟨_, _, rfl, rfl, br_dec (fun h119 => ?_) (fun h119 => ?_)⟩)⟩))))))
  · refine wss_cons (ws_asg (i := 2) rfl (.inl rfl) (we_mod (we_ix (we_var (i := 0) rfl (.inl rfl) rfl (we_int (⟨_, _, _, .inr (.inr ⟨0, _, rfl, rfl⟩), rfl, by walk_at "s_at", we_var (i := 1) rfl (.inl rfl) rfl (⟨_, _, rfl, rfl, (by walk_at "s_mod"), ?_⟩)⟩))))))
    refine wss_cons (ws_lput (we_div (we_ix (we_var (i := 0) rfl (.inl rfl) rfl (we_int (⟨_, _, _, .inr (.inr ⟨0, _, rfl, rfl⟩), rfl, by walk_at "s_at", we_var (i := 1) rfl (.inl rfl) rfl (⟨_, _, rfl, rfl, (by walk_at "s_div"), we_var (i := 0) rfl (.inl rfl) rfl (we_int (⟨_, 0, _, _, _, rfl, rfl, rfl, by walk_at "s_ix", ?_⟩))⟩)⟩))))))
    refine wss_cons (ws_ret (we_var (i := 2) rfl (.inl rfl) rfl (?_)))
    refine q _ _ ?_ ?_ ⟨g, gr, left / many, fold, turn, rfl, h1, Int.ediv_nonneg h2 (by omega), h3, by omega, h5⟩
    · exact Int.emod_nonneg _ (by omega)
    · exact Int.emod_lt_of_pos _ hm
  · refine wss_nil ?_
    refine wss_cons (ws_lput (we_add (we_ix (we_var (i := 0) rfl (.inl rfl) rfl (we_int (⟨_, _, _, .inr (.inr ⟨0, _, rfl, rfl⟩), rfl, by walk_at "s_at", we_int (⟨_, _, rfl, rfl, we_var (i := 0) rfl (.inl rfl) rfl (we_int (⟨_, 0, _, _, _, rfl, rfl, rfl, by walk_at "s_ix", ?_⟩))⟩)⟩))))))
    refine wss_cons (ws_asg (i := 3) rfl (.inl rfl) (we_mod (we_add (we_mul (we_add (we_ix (we_var (i := 0) rfl (.inl rfl) rfl (we_int (⟨_, _, _, .inr (.inr ⟨0, _, rfl, rfl⟩), rfl, by walk_at "s_at", we_int (⟨_, _, rfl, rfl, we_pow (we_add (we_ix (we_var (i := 0) rfl (.inl rfl) rfl (we_int (⟨_, _, _, .inr (.inr ⟨0, _, rfl, rfl⟩), rfl, by walk_at "s_at", we_int (⟨_, _, rfl, rfl, we_int (⟨_, _, rfl, rfl, (by walk_at "s_pow"), ⟨_, _, rfl, rfl, (mulTray (by omega) (by omega)), we_mul (we_int (we_ix (we_var (i := 0) rfl (.inl rfl) rfl (we_int (⟨_, _, _, .inr (.inr ⟨0, _, rfl, rfl⟩), rfl, by walk_at "s_at", ⟨_, _, rfl, rfl, (by walk_at "s_mul"), ⟨_, _, rfl, rfl, we_sub (we_powK (v := 2305843009213693952) ⟨by decide, by decide, by decide⟩ (by decide +kernel) (we_int (⟨_, _, rfl, rfl, ⟨_, _, rfl, rfl, (by walk_at "s_mod"), ?_⟩⟩)))⟩⟩⟩)))))⟩⟩)⟩)⟩)))))⟩)⟩)))))))))
    have hst : ∀ z : Int, 0 ≤ z % 2305843009213693951 ∧ z % 2305843009213693951 < 2305843009213693951 := fun z => ⟨Int.emod_nonneg _ (by decide), Int.emod_lt_of_pos _ (by decide)⟩
    have hst' := hst ((fold + 5) * (turn + 1 + 2) ^ Int.toNat 3 + 1000003 * (turn + 1))
    refine wss_cons (ws_ret (we_mod (we_div (we_mod (we_pow (we_var (i := 3) rfl (.inl rfl) rfl (we_int (⟨_, _, rfl, rfl, (by walk_at "s_pow"), we_add (we_powK (v := 1000000000000000000) ⟨by decide, by decide, by decide⟩ (by decide +kernel) (we_int (⟨_, _, rfl, rfl, ⟨_, _, rfl, rfl, (by walk_at "s_mod"), we_int (⟨_, _, rfl, rfl, (by walk_at "s_div"), we_var (i := 1) rfl (.inl rfl) rfl (⟨_, _, rfl, rfl, (by walk_at "s_mod"), ?_⟩)⟩)⟩⟩)))⟩))))))))
    refine q _ _ ?_ ?_ ⟨g, gr, left, fold, turn + 1, rfl, h1, h2, h3, by omega, h5⟩
    · exact Int.emod_nonneg _ (by omega)
    · exact Int.emod_lt_of_pos _ hm
theorem callDraw {c : PL.Ctx} {Γ : Gam} {a : Addr} {many T : Int} {kept M : Cells} {Q : D → Cells → Prop} (hB : IsTray T a M) (hm : 0 < many) (hs : Sm many) (hT : T < 1000000000)
    (h : ∀ r M', 0 ≤ r → r < many → IsTray (T + 1) a M' → Q (.int r) (kept ++ M')) : Callee c pfDraw Γ [.ptr a, .int many] (kept ++ M) Q :=
  ⟨kept, M, rfl, fun R Z hR _ => ⟨a, many, T, rfl, hB, ⟨hm, hs⟩, hT, fun r M' h1 h2 h3 => hR _ _ (h r M' h1 h2 h3)⟩⟩
end

abbrev s_great : Stmt := topS 23
theorem sc_great : FnScope ["tray", "found", "k"] ["tray"] (defScope s_great) := ⟨rfl, rfl, rfl, by decide +kernel, rfl, by decide +kernel, by decide +kernel⟩

section
variable {P : Program} {w : World} {K : PySem.W.Frag} {mg : Str → Option Value} {base : Heap}
/-- fifty-nine figures -/
def pfGreat : PF := fun ds M R _ => ∃ a T, ds = [.ptr a] ∧ IsTray T a M ∧ T < 900000000 ∧ ∀ r M', 0 ≤ r → r < 100000000000000000000000000000000000000000000000000000000000 → IsTray (T + 4) a M' → R (.int r) M'
theorem ok_great {f fd f1 fd1} (F : Fun K "_law_great" "_law_great" s_great f fd) (m_range : mg "range" = none) (D_draw : Def P w K mg base "_law_draw" f1 fd1 ["tray", "many"] 1 pfDraw) : FnOk P w K mg base (L2.CX P w) 2 f fd ["tray"] (liftF K pfGreat) := by
  refine fn_mk F sc_great (fun ds M R Z ⟨a, T, e, _⟩ => by subst e; rfl) ?_
  rintro ds M R Z ⟨a, T, rfl, hB0, hT, q⟩
  refine wss_cons (ws_asg (i := 1) rfl (.inl rfl) (we_call D_draw (Nat.le_of_ble_eq_true rfl) rfl (wa_cons (we_var (i := 0) rfl (.inl rfl) rfl (wa_cons (we_powK (v := 100000000000000) ⟨by decide, by decide, by decide⟩ (by decide +kernel) (wa_nil ((callDraw (kept := []) hB0 (by omega) (by walk_at "s_sm") (by first | omega | (have eyl := congrArg List.length ey; simp only [List.length_append, List.length_cons, List.length_range, List.length_map] at *; omega)) fun r1 M1 hr1 hs1 hB1 => ?_)))))))))
  refine wss_cons (ws_forR (i := 2) rfl m_range rfl (.inl rfl) (fun k Γ1 M1 => ∃ (c2 : Option D) (fo : Int), Γ1 = [some (.ptr a), some (.int fo), c2] ∧ IsTray (T + 1 + k) a M1 ∧ (k = 0 ∧ 0 ≤ fo ∧ fo < 100000000000000 ∨ k = 1 ∧ 0 ≤ fo ∧ fo < 100000000000000000000000000000 ∨ k = 2 ∧ 0 ≤ fo ∧ fo < 100000000000000000000000000000000000000000000 ∨ k = 3 ∧ 0 ≤ fo ∧ fo < 100000000000000000000000000000000000000000000000000000000000))
    (we_int (⟨_, rfl, ?_⟩)))
  refine ⟨by omega, by omega, ⟨_, _, rfl, hB1.mono (by omega), .inl ⟨rfl, hr1, hs1⟩⟩, ?_, ?_⟩
  · rintro k Γ2 M2 hk ⟨c2, fo, rfl, hB1, hf⟩
    refine wss_cons (ws_asg (i := 1) rfl (.inl rfl) (we_add (we_mul (we_var (i := 1) rfl (.inl rfl) rfl (we_powK (v := 1000000000000000) ⟨by decide, by decide, by decide⟩ (by decide +kernel) (⟨_, _, rfl, rfl, (by walk_at "s_mul"), we_call D_draw (Nat.le_of_ble_eq_true rfl) rfl (wa_cons (we_var (i := 0) rfl (.inl rfl) rfl (wa_cons (we_powK (v := 1000000000000000) ⟨by decide, by decide, by decide⟩ (by decide +kernel) (wa_nil ((callDraw (kept := []) hB1 (by omega) (by walk_at "s_sm") (by first | omega | (have eyl := congrArg List.length ey; simp only [List.length_append, List.length_cons, List.length_range, List.length_map] at *; omega)) fun r2 M2 hr2 hs2 hB2 => ⟨_, _, rfl, rfl, ?_⟩)))))))⟩))))))
    exact wss_nil ⟨_, _, rfl, hB2.mono (by omega), by omega⟩
  · rintro Γ2 M2 ⟨c2, fo, rfl, hB1, hf⟩
    refine wss_cons (ws_ret (we_var (i := 1) rfl (.inl rfl) rfl (?_)))
    exact q _ _ (by omega) (by omega) (hB1.mono (by omega))
theorem callGreat {c : PL.Ctx} {Γ : Gam} {a : Addr} {T : Int} {kept M : Cells} {Q : D → Cells → Prop} (hB : IsTray T a M) (hT : T < 900000000)
    (h : ∀ r M', 0 ≤ r → r < 100000000000000000000000000000000000000000000000000000000000 → IsTray (T + 4) a M' → Q (.int r) (kept ++ M')) : Callee c pfGreat Γ [.ptr a] (kept ++ M) Q :=
  ⟨kept, M, rfl, fun R Z hR _ => ⟨a, T, rfl, hB, hT, fun r M' h1 h2 h3 => hR _ _ (h r M' h1 h2 h3)⟩⟩
end



/-! ### Darks -/
open DK
/-- seventy figures -/
abbrev Bs (i : Int) : Prop := -10000000000000000000000000000000000000000000000000000000000000000000000 < i ∧ i < 10000000000000000000000000000000000000000000000000000000000000000000000
def BgL (l : Look) : Prop := Bg l.2.1 ∧ Bg l.2.2
def BsL (l : Look) : Prop := Bs l.2.1 ∧ Bs l.2.2
def isWord (x : Str) : Prop := x = "at" ∨ x = "from" ∨ x = "upto"
theorem home_bg {n : Int} {l : Look} (hn : 0 < n) (hg : Bs n) (hb : BsL l) : BgL (home n l) := by
  have h := floor_in (x := l.2.1) hn
  obtain ⟨h1, h2⟩ := hb
  refine ⟨?_, ?_⟩
  · show Bg (l.2.1 - l.2.1 / n * n)
    simp only [Bg, Bs] at *
    omega
  · show Bg (l.2.2 - l.2.1 / n * n)
    simp only [Bg, Bs] at *
    omega
theorem bg_short {L : List Look} (h : ∀ z ∈ L, BgL z) : ∀ p ∈ notShort L, Bg p.1 := fun p hp => by
  obtain ⟨z, hz, rfl⟩ := List.mem_map.mp hp
  exact (h z (List.mem_filter.mp hz).1).1
theorem bg_beyond {L : List Look} (h : ∀ z ∈ L, BgL z) : ∀ p ∈ notBeyond L, Bg p.1 := fun p hp => by
  obtain ⟨z, hz, rfl⟩ := List.mem_map.mp hp
  exact (h z (List.mem_filter.mp hz).1).1
theorem len_short {L : List Look} (h : L.length < 1000000) : (notShort L).length < 1000000 := by
  unfold notShort
  rw [List.length_map]
  exact Nat.lt_of_le_of_lt (List.length_filter_le _ _) h
theorem len_beyond {L : List Look} (h : L.length < 1000000) : (notBeyond L).length < 1000000 := by
  unfold notBeyond
  rw [List.length_map]
  exact Nat.lt_of_le_of_lt (List.length_filter_le _ _) h
theorem short_D (L : List Look) : (L.filter nsP).map (fun l => prD l.2) = (notShort L).map prD := by
  unfold notShort; rw [List.map_map]; rfl
theorem beyond_D (L : List Look) : (L.filter nbP).map (fun l => prD l.2) = (notBeyond L).map prD := by
  unfold notBeyond; rw [List.map_map]; rfl
local macro_rules | `(tactic| walk_at "s_alike") => `(tactic| exact alike_lk _ _)
local macro_rules | `(tactic| walk_at "s_sortable") => `(tactic| exact sortable_lk _ _)
abbrev s_low : Stmt := topS 8
theorem sc_low : FnScope ["length", "steps", "x", "found", "at", "y"] ["length", "steps", "x"] (defScope s_low) := ⟨rfl, rfl, rfl, by decide +kernel, rfl, by decide +kernel, by decide +kernel⟩
abbrev s_high : Stmt := topS 9
theorem sc_high : FnScope ["length", "steps", "x", "found", "at", "y"] ["length", "steps", "x"] (defScope s_high) := ⟨rfl, rfl, rfl, by decide +kernel, rfl, by decide +kernel, by decide +kernel⟩
abbrev s_nl : Stmt := topS 15
theorem sc_nl : FnScope ["length"] ["length"] (defScope s_nl) := ⟨rfl, rfl, rfl, by decide +kernel, rfl, by decide +kernel, by decide +kernel⟩
abbrev s_nw : Stmt := topS 16
theorem sc_nw : FnScope ["word"] ["word"] (defScope s_nw) := ⟨rfl, rfl, rfl, by decide +kernel, rfl, by decide +kernel, by decide +kernel⟩
abbrev s_ns : Stmt := topS 17
theorem sc_ns : FnScope ["looks", "word", "x", "y"] ["looks"] (defScope s_ns) := ⟨rfl, rfl, rfl, by decide +kernel, rfl, by decide +kernel, by decide +kernel⟩
abbrev s_nb : Stmt := topS 18
theorem sc_nb : FnScope ["looks", "word", "x", "y"] ["looks"] (defScope s_nb) := ⟨rfl, rfl, rfl, by decide +kernel, rfl, by decide +kernel, by decide +kernel⟩
abbrev s_init : Stmt := inClass (topS 19) 0
theorem sc_init : FnScope ["self", "length"] ["self", "length"] (defScope s_init) := ⟨rfl, rfl, rfl, by decide +kernel, rfl, by decide +kernel, by decide +kernel⟩
abbrev s_home : Stmt := inClass (topS 19) 4
theorem sc_home : FnScope ["self", "word", "x", "y", "back"] ["self", "word", "x", "y"] (defScope s_home) := ⟨rfl, rfl, rfl, by decide +kernel, rfl, by decide +kernel, by decide +kernel⟩
abbrev s_ap : Stmt := inClass (topS 19) 5
theorem sc_ap : FnScope ["self", "one", "other", "short", "far"] ["self", "one", "other"] (defScope s_ap) := ⟨rfl, rfl, rfl, by decide +kernel, rfl, by decide +kernel, by decide +kernel⟩
abbrev s_fa : Stmt := inClass (topS 19) 6
theorem sc_fa : FnScope ["self", "look", "other"] ["self", "look"] (defScope s_fa) := ⟨rfl, rfl, rfl, by decide +kernel, rfl, by decide +kernel, by decide +kernel⟩
abbrev s_hear : Stmt := inClass (topS 19) 7
theorem sc_hear : FnScope ["self", "word", "x", "y", "look", "other"] ["self", "word", "x", "y"] (defScope s_hear) := ⟨rfl, rfl, rfl, by decide +kernel, rfl, by decide +kernel, by decide +kernel⟩
abbrev s_xClash : Stmt := inClass (topS 5) 0
theorem sc_xClash : FnScope ["self", "what"] ["self", "what"] (defScope s_xClash) := ⟨rfl, rfl, rfl, by decide +kernel, rfl, by decide +kernel, by decide +kernel⟩
abbrev s_looks : Stmt := inClass (topS 19) 3
theorem sc_looks : FnScope ["self"] ["self"] (defScope s_looks) := ⟨rfl, rfl, rfl, by decide +kernel, rfl, by decide +kernel, by decide +kernel⟩
abbrev s_least : Stmt := inClass (topS 19) 9
theorem sc_least : FnScope ["self", "x"] ["self", "x"] (defScope s_least) := ⟨rfl, rfl, rfl, by decide +kernel, rfl, by decide +kernel, by decide +kernel⟩
abbrev s_greatest : Stmt := inClass (topS 19) 10
theorem sc_greatest : FnScope ["self", "x"] ["self", "x"] (defScope s_greatest) := ⟨rfl, rfl, rfl, by decide +kernel, rfl, by decide +kernel, by decide +kernel⟩

section
variable {P : Program} {w : World} {K : PySem.W.Frag} {mg : Str → Option Value} {base : Heap}
def pfLow : PF := fun ds M R _ => ∃ (n : Int) (ps : List (Int × Int)) (x : Int), ds = [.int n, .lst (ps.map prD), .int x] ∧ 0 < n ∧ Bg n ∧ Bg x ∧ (∀ p ∈ ps, Bg p.1) ∧ ps.length < 1000000 ∧ ∀ o, IsMax (ps.map (lowv n x)) o → R (optD o) M
theorem ok_low {f fd k} (F : Fun K "low" "low" s_low f fd) (m_max : mg "max" = none) : FnOk P w K mg base (L2.CX P w) (k + 1) f fd ["length", "steps", "x"] (liftF K pfLow) := by
  refine fn_mk F sc_low (fun ds M R Z ⟨n, ps, x, e, _⟩ => by subst e; rfl) ?_
  rintro ds M R Z ⟨n, ps, x, rfl, hn, hg, hx, hb, hl, q⟩
  have hl : ps.length < 10000000 := by omega
  refine wss_cons (ws_lcL (i := 3) [("at", 4), ("y", 5)] rfl rfl rfl (ps) (prD) _ (we_var (i := 1) rfl (.inl rfl) rfl (⟨rfl, lcq_map (fun p => D.int (lowv n x p)) (lenB' hl) (fun y hy => ⟨_, _, .tup rfl (fun _ => rfl) (fun _ => rfl) (.cons (fun _ => rfl) (.name (i := 4) rfl (.inl rfl)) (.cons (fun _ => rfl) (.name (i := 5) rfl (.inl rfl)) (.nil))), rfl, wis_nil (br_t (we_add (we_var (i := 5) rfl (.inl rfl) rfl (we_mul (we_div (we_sub (we_var (i := 2) rfl (.inr (.inl rfl)) rfl (we_var (i := 4) rfl (.inl rfl) rfl (⟨_, _, rfl, rfl, we_var (i := 0) rfl (.inr (.inl rfl)) rfl (⟨_, _, rfl, rfl, (by walk_at "s_div"), we_var (i := 0) rfl (.inr (.inl rfl)) rfl (⟨_, _, rfl, rfl, (cmulDiv hn (by have := hb _ hy; simp only [Sm, Bg] at *; omega) (by walk_at "s_sm")), ⟨_, _, rfl, rfl, ⟨rfl, rfl⟩⟩⟩)⟩)⟩)))))))))⟩) (?_)⟩)))
  cases ps with
  | nil =>
    refine wss_cons (ws_ret (we_ifE (wt_ne (we_var (i := 3) rfl (.inl rfl) rfl (we_lst (wa_nil (⟨Nat.le_of_ble_eq_true rfl, ⟨_, _, .self, .self, by walk_at "s_okd", by walk_at "s_okd", br_nkF (eqv_nil_nil) (we_non (?_))⟩⟩)))))))
    exact q none rfl
  | cons p ps =>
    refine wss_cons (ws_ret (we_ifE (wt_ne (we_var (i := 3) rfl (.inl rfl) rfl (we_lst (wa_nil (⟨Nat.le_of_ble_eq_true rfl, ⟨_, _, .self, .self, by walk_at "s_okd", by walk_at "s_okd", br_nkT (eqv_nil_cons _ _) (we_maxM (p :: ps) (lowv n x) rfl (by walk_at "s_mg") (we_var (i := 3) rfl (.inl rfl) rfl (⟨rfl, by walk_at "s_pos", fun mx hmx hxx => ?_⟩)))⟩⟩)))))))
    exact q (some mx) ⟨by obtain ⟨y, hy, e⟩ := hmx; exact List.mem_map.mpr ⟨y, hy, e⟩, fun y hy => by obtain ⟨z, hz, e⟩ := List.mem_map.mp hy; rw [← e]; exact hxx z hz⟩
def pfHigh : PF := fun ds M R _ => ∃ (n : Int) (ps : List (Int × Int)) (x : Int), ds = [.int n, .lst (ps.map prD), .int x] ∧ 0 < n ∧ Bg n ∧ Bg x ∧ (∀ p ∈ ps, Bg p.1) ∧ ps.length < 1000000 ∧ ∀ o, IsMin (ps.map (highv n x)) o → R (optD o) M
theorem ok_high {f fd k} (F : Fun K "high" "high" s_high f fd) (m_min : mg "min" = none) : FnOk P w K mg base (L2.CX P w) (k + 1) f fd ["length", "steps", "x"] (liftF K pfHigh) := by
  refine fn_mk F sc_high (fun ds M R Z ⟨n, ps, x, e, _⟩ => by subst e; rfl) ?_
  rintro ds M R Z ⟨n, ps, x, rfl, hn, hg, hx, hb, hl, q⟩
  have hl : ps.length < 10000000 := by omega
  refine wss_cons (ws_lcL (i := 3) [("at", 4), ("y", 5)] rfl rfl rfl (ps) (prD) _ (we_var (i := 1) rfl (.inl rfl) rfl (⟨rfl, lcq_map (fun p => D.int (highv n x p)) (lenB' hl) (fun y hy => ⟨_, _, .tup rfl (fun _ => rfl) (fun _ => rfl) (.cons (fun _ => rfl) (.name (i := 4) rfl (.inl rfl)) (.cons (fun _ => rfl) (.name (i := 5) rfl (.inl rfl)) (.nil))), rfl, wis_nil (br_t (we_sub (we_var (i := 5) rfl (.inl rfl) rfl (we_mul (we_div (we_sub (we_var (i := 4) rfl (.inl rfl) rfl (we_var (i := 2) rfl (.inr (.inl rfl)) rfl (⟨_, _, rfl, rfl, we_var (i := 0) rfl (.inr (.inl rfl)) rfl (⟨_, _, rfl, rfl, (by walk_at "s_div"), we_var (i := 0) rfl (.inr (.inl rfl)) rfl (⟨_, _, rfl, rfl, (cmulDiv hn (by have := hb _ hy; simp only [Sm, Bg] at *; omega) (by walk_at "s_sm")), ⟨_, _, rfl, rfl, ⟨rfl, rfl⟩⟩⟩)⟩)⟩)))))))))⟩) (?_)⟩)))
  cases ps with
  | nil =>
    refine wss_cons (ws_ret (we_ifE (wt_ne (we_var (i := 3) rfl (.inl rfl) rfl (we_lst (wa_nil (⟨Nat.le_of_ble_eq_true rfl, ⟨_, _, .self, .self, by walk_at "s_okd", by walk_at "s_okd", br_nkF (eqv_nil_nil) (we_non (?_))⟩⟩)))))))
    exact q none rfl
  | cons p ps =>
    refine wss_cons (ws_ret (we_ifE (wt_ne (we_var (i := 3) rfl (.inl rfl) rfl (we_lst (wa_nil (⟨Nat.le_of_ble_eq_true rfl, ⟨_, _, .self, .self, by walk_at "s_okd", by walk_at "s_okd", br_nkT (eqv_nil_cons _ _) (we_minM (p :: ps) (highv n x) rfl (by walk_at "s_mg") (we_var (i := 3) rfl (.inl rfl) rfl (⟨rfl, by walk_at "s_pos", fun mx hmx hxx => ?_⟩)))⟩⟩)))))))
    exact q (some mx) ⟨by obtain ⟨y, hy, e⟩ := hmx; exact List.mem_map.mpr ⟨y, hy, e⟩, fun y hy => by obtain ⟨z, hz, e⟩ := List.mem_map.mp hy; rw [← e]; exact hxx z hz⟩
theorem callLow {c : PL.Ctx} {Γ : Gam} {n x : Int} {ps : List (Int × Int)} {dl : D} {M : Cells} {Q : D → Cells → Prop} (e : dl = .lst (ps.map prD)) (hn : 0 < n) (hg : Bg n) (hx : Bg x) (hb : ∀ p ∈ ps, Bg p.1) (hl : ps.length < 1000000) (q : ∀ o, IsMax (ps.map (lowv n x)) o → Q (optD o) M) : Callee c pfLow Γ [.int n, dl, .int x] M Q :=
  callee0 fun R Z hR _ => ⟨n, ps, x, by rw [e], hn, hg, hx, hb, hl, fun o ho => hR _ _ (q o ho)⟩
theorem callHigh {c : PL.Ctx} {Γ : Gam} {n x : Int} {ps : List (Int × Int)} {dl : D} {M : Cells} {Q : D → Cells → Prop} (e : dl = .lst (ps.map prD)) (hn : 0 < n) (hg : Bg n) (hx : Bg x) (hb : ∀ p ∈ ps, Bg p.1) (hl : ps.length < 1000000) (q : ∀ o, IsMin (ps.map (highv n x)) o → Q (optD o) M) : Callee c pfHigh Γ [.int n, dl, .int x] M Q :=
  callee0 fun R Z hR _ => ⟨n, ps, x, by rw [e], hn, hg, hx, hb, hl, fun o ho => hR _ _ (q o ho)⟩
theorem callLow1 {c : PL.Ctx} {Γ : Gam} {n x : Int} {p : Int × Int} {M : Cells} {Q : D → Cells → Prop} (hn : 0 < n) (hg : Bg n) (hp : Bg p.1) (hx : Bg x) (q : Q (.int (lowv n x p)) M) : Callee c pfLow Γ [.int n, .lst [prD p], .int x] M Q :=
  callLow (ps := [p]) rfl hn hg hx (fun p' h => by rw [List.mem_singleton.mp h]; exact hp) (by simp) fun o ho => by
    have : o = some (lowv n x p) := IsMax.uniq (fun _ => Iff.rfl) ho (show IsMax ([p].map (lowv n x)) (some (lowv n x p)) from ⟨by simp, by simp⟩)
    rw [this]
    exact q
def pfNl : PF := fun ds M R _ => ∃ n : Int, ds = [.int n] ∧ 0 < n ∧ R .non M
theorem ok_nl {f fd k} (F : Fun K "need_length" "need_length" s_nl f fd) : FnOk P w K mg base (L2.CX P w) (k + 1) f fd ["length"] (liftF K pfNl) := by
  refine fn_mk F sc_nl (fun ds M R Z ⟨n, e, _⟩ => by subst e; rfl) ?_
  rintro ds M R Z ⟨n, rfl, hn, q⟩
  refine wss_cons (ws_if (wt_lt (we_var (i := 0) rfl (.inl rfl) rfl (we_int (⟨_, _, rfl, rfl, br_decF (by omega) (?_)⟩)))))
  exact wss_nil (wss_nil q)
def pfNw : PF := fun ds M R _ => ∃ x : Str, ds = [.str x] ∧ isWord x ∧ R .non M
theorem ok_nw {f fd k} (F : Fun K "need_word" "need_word" s_nw f fd) (G_WORDS : PGlob K mg "WORDS" (.tup ([("at" : Str), "from", "upto"].map D.str))) : FnOk P w K mg base (L2.CX P w) (k + 1) f fd ["word"] (liftF K pfNw) := by
  refine fn_mk F sc_nw (fun ds M R Z ⟨n, e, _⟩ => by subst e; rfl) ?_
  rintro ds M R Z ⟨x, rfl, hw, q⟩
  refine wss_cons (ws_if (wt_nin (we_var (i := 0) rfl (.inl rfl) rfl (we_glob rfl G_WORDS (⟨_, _, .self, .inr .self, by walk_at "s_okd", by walk_at "s_okd", br_nkF (by rcases hw with rfl | rfl | rfl <;> simp [eqv_str]) (?_)⟩)))))
  exact wss_nil (wss_nil q)
def pfNs : PF := fun ds M R _ => ∃ L : List Look, ds = [.lst (L.map lkD)] ∧ L.length < 1000000 ∧ R (.lst ((notShort L).map prD)) M
theorem ok_ns {f fd k} (F : Fun K "not_short" "not_short" s_ns f fd) (G_UPTO : PGlob K mg "UPTO" (.str "upto")) : FnOk P w K mg base (L2.CX P w) (k + 1) f fd ["looks"] (liftF K pfNs) := by
  refine fn_mk F sc_ns (fun ds M R Z ⟨L, e, _⟩ => by subst e; rfl) ?_
  rintro ds M R Z ⟨L, rfl, hl, q⟩
  have hl : L.length < 10000000 := by omega
  rw [← short_D] at q
  refine wss_cons (ws_ret (we_lcL [("word", 1), ("x", 2), ("y", 3)] rfl (L) (lkD) _ (we_var (i := 0) rfl (.inl rfl) rfl (⟨rfl, lcq_filter nsP (fun l => prD l.2) (lenB' hl) (fun y hy => ⟨_, _, .tup rfl (fun _ => rfl) (fun _ => rfl) (.cons (fun _ => rfl) (.name (i := 1) rfl (.inl rfl)) (.cons (fun _ => rfl) (.name (i := 2) rfl (.inl rfl)) (.cons (fun _ => rfl) (.name (i := 3) rfl (.inl rfl)) (.nil)))), rfl, wis_one (wt_ne (we_var (i := 1) rfl (.inl rfl) rfl (we_glob rfl G_UPTO (⟨_, _, .self, .self, by walk_at "s_okd", by walk_at "s_okd", br_nk (fun hw => we_tup (wa_cons (we_var (i := 2) rfl (.inl rfl) rfl (wa_cons (we_var (i := 3) rfl (.inl rfl) rfl (wa_nil (⟨Nat.le_of_ble_eq_true rfl, ⟨(by unfold nsP; rw [hw]; rfl), rfl, rfl⟩⟩))))))) (fun hw => ⟨(by unfold nsP; rw [hw]; rfl), rfl⟩)⟩))))⟩) (?_)⟩))))
  exact q
def pfNb : PF := fun ds M R _ => ∃ L : List Look, ds = [.lst (L.map lkD)] ∧ L.length < 1000000 ∧ R (.lst ((notBeyond L).map prD)) M
theorem ok_nb {f fd k} (F : Fun K "not_beyond" "not_beyond" s_nb f fd) (G_FROM : PGlob K mg "FROM" (.str "from")) : FnOk P w K mg base (L2.CX P w) (k + 1) f fd ["looks"] (liftF K pfNb) := by
  refine fn_mk F sc_nb (fun ds M R Z ⟨L, e, _⟩ => by subst e; rfl) ?_
  rintro ds M R Z ⟨L, rfl, hl, q⟩
  have hl : L.length < 10000000 := by omega
  rw [← beyond_D] at q
  refine wss_cons (ws_ret (we_lcL [("word", 1), ("x", 2), ("y", 3)] rfl (L) (lkD) _ (we_var (i := 0) rfl (.inl rfl) rfl (⟨rfl, lcq_filter nbP (fun l => prD l.2) (lenB' hl) (fun y hy => ⟨_, _, .tup rfl (fun _ => rfl) (fun _ => rfl) (.cons (fun _ => rfl) (.name (i := 1) rfl (.inl rfl)) (.cons (fun _ => rfl) (.name (i := 2) rfl (.inl rfl)) (.cons (fun _ => rfl) (.name (i := 3) rfl (.inl rfl)) (.nil)))), rfl, wis_one (wt_ne (we_var (i := 1) rfl (.inl rfl) rfl (we_glob rfl G_FROM (⟨_, _, .self, .self, by walk_at "s_okd", by walk_at "s_okd", br_nk (fun hw => we_tup (wa_cons (we_var (i := 2) rfl (.inl rfl) rfl (wa_cons (we_var (i := 3) rfl (.inl rfl) rfl (wa_nil (⟨Nat.le_of_ble_eq_true rfl, ⟨(by unfold nbP; rw [hw]; rfl), rfl, rfl⟩⟩))))))) (fun hw => ⟨(by unfold nbP; rw [hw]; rfl), rfl⟩)⟩))))⟩) (?_)⟩))))
  exact q
section
variable {C : Addr}
def pfInit (C : Addr) : PF := fun ds M R _ => ∃ (p : Addr) (n : Int), ds = [.ptr p, .int n] ∧ 0 < n ∧ M = [(p, .ins C [])] ∧ R .non (darkM p C n [])
theorem ok_init {f fd f1 fd1} (F : Fun K "__init__" "Dark.__init__" s_init f fd) (T : Cls K C) (NT : NoAttr K C "turn") (NH : NoAttr K C "heard") (D_nl : Def P w K mg base "need_length" f1 fd1 ["length"] 1 pfNl) : FnOk P w K mg base (L2.CX P w) 2 f fd ["self", "length"] (liftF K (pfInit C)) := by
  refine fn_mk F sc_init (fun ds M R Z ⟨p, n, e, _⟩ => by subst e; rfl) ?_
  rintro ds M R Z ⟨p, n, rfl, hn, rfl, q⟩
  refine wss_cons (ws_expr (we_call D_nl (Nat.le_of_ble_eq_true rfl) rfl (wa_cons (we_var (i := 1) rfl (.inl rfl) rfl (wa_nil ((callee0 fun R Z hR hZ => ⟨_, rfl, hn, hR _ _ (?_)⟩)))))))
  refine wss_cons (ws_fld (we_var (i := 1) rfl (.inl rfl) rfl (we_var (i := 0) rfl (.inl rfl) rfl (⟨_, 0, _, _, rfl, rfl, T, NT, Nat.le_of_ble_eq_true rfl, ?_⟩))))
  refine wss_cons (ws_fld (we_lst (wa_nil (⟨Nat.le_of_ble_eq_true rfl, we_var (i := 0) rfl (.inl rfl) rfl (⟨_, 0, _, _, rfl, rfl, T, NH, Nat.le_of_ble_eq_true rfl, ?_⟩)⟩))))
  exact wss_nil q
def pfHome (C : Addr) : PF := fun ds M R _ => ∃ (d : D) (n : Int) (L : List Look) (l : Look), ds = [d, .str l.1, .int l.2.1, .int l.2.2] ∧ ObjAt M d C (dkF n L) ∧ 0 < n ∧ Bs n ∧ isWord l.1 ∧ BsL l ∧ R (lkD (home n l)) M
theorem ok_home {f fd f1 fd1} (F : Fun K "home" "Dark.home" s_home f fd) (T : Cls K C) (NT : NoAttr K C "turn") (D_nw : Def P w K mg base "need_word" f1 fd1 ["word"] 1 pfNw) : FnOk P w K mg base (L2.CX P w) 2 f fd ["self", "word", "x", "y"] (liftF K (pfHome C)) := by
  refine fn_mk F sc_home (fun ds M R Z ⟨d, n, L, l, e, _⟩ => by subst e; rfl) ?_
  rintro ds M R Z ⟨d, n, L, ⟨wd, x, y⟩, rfl, ho, hn, hg, hw, hb, q⟩
  obtain ⟨hb1, hb2⟩ := hb
  simp only at hw hb1 hb2
  refine wss_cons (ws_expr (we_call D_nw (Nat.le_of_ble_eq_true rfl) rfl (wa_cons (we_var (i := 1) rfl (.inl rfl) rfl (wa_nil ((callee0 fun R Z hR hZ => ⟨_, rfl, hw, hR _ _ (?_)⟩)))))))
  refine wss_cons (ws_asg (i := 4) rfl (.inl rfl) (we_mul (we_div (we_var (i := 2) rfl (.inl rfl) rfl (we_fld (we_var (i := 0) rfl (.inl rfl) rfl (⟨_, _, _, ho, T, NT, rfl, ⟨_, _, rfl, rfl, (by walk_at "s_div"), we_fld (we_var (i := 0) rfl (.inl rfl) rfl (⟨_, _, _, ho, T, NT, rfl, ⟨_, _, rfl, rfl, (by walk_at "s_mul"), ?_⟩⟩))⟩⟩)))))))
  refine wss_cons (ws_ret (we_tup (wa_cons (we_var (i := 1) rfl (.inl rfl) rfl (wa_cons (we_sub (we_var (i := 2) rfl (.inl rfl) rfl (we_var (i := 4) rfl (.inl rfl) rfl (⟨_, _, rfl, rfl, wa_cons (we_sub (we_var (i := 3) rfl (.inl rfl) rfl (we_var (i := 4) rfl (.inl rfl) rfl (⟨_, _, rfl, rfl, wa_nil (⟨Nat.le_of_ble_eq_true rfl, ?_⟩)⟩))))⟩)))))))))
  exact q
def pfAp (C : Addr) : PF := fun ds M R _ => ∃ (d : D) (n : Int) (L : List Look) (a b : Look), ds = [d, lkD a, lkD b] ∧ ObjAt M d C (dkF n L) ∧ 0 < n ∧ Bs n ∧ BgL a ∧ BgL b ∧ R (.bl (apart n a b)) M
theorem ok_ap {f fd f1 fd1} (F : Fun K "is_apart" "Dark.is_apart" s_ap f fd) (T : Cls K C) (NT : NoAttr K C "turn") (G_UPTO : PGlob K mg "UPTO" (.str "upto")) (G_FROM : PGlob K mg "FROM" (.str "from")) (D_low : Def P w K mg base "low" f1 fd1 ["length", "steps", "x"] 1 pfLow) : FnOk P w K mg base (L2.CX P w) 2 f fd ["self", "one", "other"] (liftF K (pfAp C)) := by
  refine fn_mk F sc_ap (fun ds M R Z ⟨d, n, L, a, b, e, _⟩ => by subst e; rfl) ?_
  rintro ds M R Z ⟨d, n, L, a, b, rfl, ho, hn, hg', ha, hb, q⟩
  have hg : Bg n := by simp only [Bg, Bs] at *; omega
  refine wss_cons (ws_forT [(a, b), (b, a)] (fun z => .tup [lkD z.1, lkD z.2]) (fun pre Γ1 M1 => ∃ c3 c4 : Option D, Γ1 = [some d, some (lkD a), some (lkD b), c3, c4] ∧ M1 = M ∧ ∀ z ∈ pre, aprt1 n z.1 z.2 = false)
    (we_tup (wa_cons (we_tup (wa_cons (we_var (i := 1) rfl (.inl rfl) rfl (wa_cons (we_var (i := 2) rfl (.inl rfl) rfl (wa_nil (⟨Nat.le_of_ble_eq_true rfl, wa_cons (we_tup (wa_cons (we_var (i := 2) rfl (.inl rfl) rfl (wa_cons (we_var (i := 1) rfl (.inl rfl) rfl (wa_nil (⟨Nat.le_of_ble_eq_true rfl, wa_nil (⟨Nat.le_of_ble_eq_true rfl, ?_⟩)⟩)))))))⟩))))))))))
  refine ⟨rfl, ⟨_, _, rfl, rfl, fun z hz => by cases hz⟩, ?_, ?_⟩
  · rintro pre ⟨s, t⟩ post Γ2 M2 e ⟨c3, c4, rfl, rfl, hp⟩
    have hm : (s, t) ∈ [(a, b), (b, a)] := by rw [e]; simp
    have hs1 : Bg s.2.1 := by
      simp only [List.mem_cons, List.not_mem_nil, or_false, Prod.mk.injEq] at hm
      rcases hm with ⟨rfl, rfl⟩ | ⟨rfl, rfl⟩
      · exact ha.1
      · exact hb.1
    have hf1 : Bg t.2.1 := by
      simp only [List.mem_cons, List.not_mem_nil, or_false, Prod.mk.injEq] at hm
      rcases hm with ⟨rfl, rfl⟩ | ⟨rfl, rfl⟩
      · exact hb.1
      · exact ha.1
    have fin : aprt1 n s t = false → ∃ c3 c4 : Option D, [some d, some (lkD a), some (lkD b), some (lkD s), some (lkD t)] = [some d, some (lkD a), some (lkD b), c3, c4] ∧ M2 = M2 ∧ ∀ z ∈ pre ++ [(s, t)], aprt1 n z.1 z.2 = false := fun h =>
      ⟨_, _, rfl, rfl, fun z hz => by
        rcases List.mem_append.mp hz with hz | hz
        · exact hp z hz
        · rw [List.mem_singleton.mp hz]; exact h⟩
    refine wg_tup rfl (wgs_cons (wg_name (i := 3) rfl (.inl rfl) (wgs_cons (wg_name (i := 4) rfl (.inl rfl) (wgs_nil (?_))))))
    refine wss_cons (ws_if (wt_ww (ww_and (wt_ne (we_ix (we_var (i := 3) rfl (.inl rfl) rfl (we_int (⟨_, _, _, .inl rfl, rfl, by walk_at "s_at", we_glob rfl G_UPTO (⟨_, _, .self, .self, by walk_at "s_okd", by walk_at "s_okd", br_nk (fun h68c => ww_and (wt_ne (we_ix (we_var (i := 4) rfl (.inl rfl) rfl (we_int (⟨_, _, _, .inl rfl, rfl, by walk_at "s_at", we_glob rfl G_FROM (⟨_, _, .self, .self, by walk_at "s_okd", by walk_at "s_okd", br_nk (fun h68b => ww_and1 (wt_gt (we_call D_low (Nat.le_of_ble_eq_true rfl) rfl (wa_cons (we_fld (we_var (i := 0) rfl (.inl rfl) rfl (⟨_, _, _, ho, T, NT, rfl, wa_cons (we_lst (wa_cons (we_tail (we_var (i := 3) rfl (.inl rfl) rfl (⟨_, rfl, rfl, Nat.le_of_ble_eq_true rfl, wa_nil (⟨Nat.le_of_ble_eq_true rfl, wa_cons (we_ix (we_var (i := 4) rfl (.inl rfl) rfl (we_int (⟨_, _, _, .inl rfl, rfl, by walk_at "s_at", wa_nil ((callLow1 hn hg (by exact hs1) (by exact hf1) (we_ix (we_var (i := 4) rfl (.inl rfl) rfl (we_int (⟨_, _, _, .inl rfl, rfl, by walk_at "s_at", ⟨_, _, rfl, rfl, br_dec (fun h68 => ?_) (fun h68 => ?_)⟩⟩))))))⟩))))⟩)⟩)))))⟩))))))) (fun h68b => br_f (?_))⟩)⟩)))))) (fun h68c => br_f (?_))⟩)⟩))))))))
    · refine wss_cons (ws_ret (we_bl (?_)))
      have h : aprt1 n s t = true := by
        unfold aprt1 nsP nbP
        rw [h68c, h68b]
        exact decide_eq_true h68
      have : apart n a b = true := by
        simp only [List.mem_cons, List.not_mem_nil, or_false, Prod.mk.injEq] at hm
        unfold apart
        rcases hm with ⟨rfl, rfl⟩ | ⟨rfl, rfl⟩
        · rw [h]; rfl
        · rw [h, Bool.or_true]
      rw [this] at q
      exact q
    · refine wss_nil (wss_nil (fin ?_))
      unfold aprt1 nsP nbP
      rw [h68c, h68b]
      exact decide_eq_false h68
    · refine wss_nil (wss_nil (fin ?_))
      unfold aprt1 nsP nbP
      rw [h68c, h68b]
      rfl
    · refine wss_nil (wss_nil (fin ?_))
      unfold aprt1 nsP
      rw [h68c]
      rfl
  · rintro Γ2 M2 ⟨c3, c4, rfl, rfl, hp⟩
    refine wss_cons (ws_ret (we_bl (?_)))
    have : apart n a b = false := by
      unfold apart
      rw [hp (a, b) (by simp), hp (b, a) (by simp)]
      rfl
    rw [this] at q
    exact q
def pfFa (C : Addr) : PF := fun ds M R _ => ∃ (d : D) (n : Int) (L : List Look) (l : Look), ds = [d, lkD l] ∧ ObjAt M d C (dkF n L) ∧ 0 < n ∧ Bs n ∧ BgL l ∧ (∀ z ∈ L, BgL z) ∧ L.length < 1000000 ∧ R (optL (L.find? fun z => apart n l z)) M
theorem ok_fa {f fd f1 fd1} (F : Fun K "first_apart" "Dark.first_apart" s_fa f fd) (T : Cls K C) (NH : NoAttr K C "heard") (D_ap : MDef P w K mg base C "is_apart" f1 fd1 ["self", "one", "other"] 2 (pfAp C)) : FnOk P w K mg base (L2.CX P w) 3 f fd ["self", "look"] (liftF K (pfFa C)) := by
  refine fn_mk F sc_fa (fun ds M R Z ⟨d, n, L, l, e, _⟩ => by subst e; rfl) ?_
  rintro ds M R Z ⟨d, n, L, l, rfl, ho, hn, hg, hb, hL, hl, q⟩
  refine wss_cons (ws_forL L lkD (fun pre Γ1 M1 => ∃ c2 : Option D, Γ1 = [some d, some (lkD l), c2] ∧ M1 = M ∧ ∀ z ∈ pre, apart n l z = false) (we_fld (we_var (i := 0) rfl (.inl rfl) rfl (⟨_, _, _, ho, T, NH, rfl, ?_⟩))))
  refine ⟨rfl, ⟨_, rfl, rfl, fun z hz => by cases hz⟩, ?_, ?_⟩
  · rintro pre z post Γ2 M2 e ⟨c2, rfl, rfl, hp⟩
    have hz : z ∈ L := by rw [e]; simp
    refine wg_name (i := 2) rfl (.inl rfl) (?_)
    refine wss_cons (ws_if (wt_val (we_meth D_ap (Nat.le_of_ble_eq_true rfl) (we_var (i := 0) rfl (.inl rfl) rfl (⟨_, ho, rfl, wa_cons (we_var (i := 1) rfl (.inl rfl) rfl (wa_cons (we_var (i := 2) rfl (.inl rfl) rfl (wa_nil ((callee0 fun R Z hR hZ => ⟨_, n, L, l, z, rfl, ho, hn, hg, hb, hL _ hz, hR _ _ (⟨_, rfl, ⟨fun h74 => ?_, fun h74 => ?_⟩⟩)⟩))))))⟩)))))
    · refine wss_cons (ws_ret (we_var (i := 2) rfl (.inl rfl) rfl (?_)))
      have : (L.find? fun z => apart n l z) = some z := by
        rw [e, List.find?_append, List.find?_eq_none.mpr (fun y hy => by simp [hp y hy]), Option.none_or, List.find?_cons_of_pos h74]
      rw [this] at q
      exact q
    · exact wss_nil (wss_nil ⟨_, rfl, rfl, fun y hy => by
        rcases List.mem_append.mp hy with hy | hy
        · exact hp y hy
        · rw [List.mem_singleton.mp hy]; exact h74⟩)
  · rintro Γ2 M2 ⟨c2, rfl, rfl, hp⟩
    refine wss_cons (ws_ret (we_non (?_)))
    have : (L.find? fun z => apart n l z) = none := List.find?_eq_none.mpr fun y hy => by simp [hp y hy]
    rw [this] at q
    exact q
def pfHear (C CX : Addr) : PF := fun ds M R Z => ∃ (p : Addr) (n : Int) (L : List Look) (l : Look), ds = [.ptr p, .str l.1, .int l.2.1, .int l.2.2] ∧ M = darkM p C n L ∧ 0 < n ∧ Bs n ∧ isWord l.1 ∧ BsL l ∧ (∀ z ∈ L, BgL z) ∧ L.length < 1000000 ∧ (∀ z, (L.find? fun z => apart n (home n l) z) = some z → Z CX (.tup [lkD (home n l), lkD z]) M) ∧ ((L.find? fun z => apart n (home n l) z) = none → R .non (darkM p C n (hearL n L l)))
theorem ok_hear {CX : Addr} {f fd f1 fd1 f2 fd2} (F : Fun K "hear" "Dark.hear" s_hear f fd) (T : Cls K C) (NH : NoAttr K C "heard") (m_sorted : mg "sorted" = none) (X_Clash : XDef P w K mg base "Clash" CX)
    (D_home : MDef P w K mg base C "home" f1 fd1 ["self", "word", "x", "y"] 2 (pfHome C)) (D_fa : MDef P w K mg base C "first_apart" f2 fd2 ["self", "look"] 3 (pfFa C)) : FnOk P w K mg base (L2.CX P w) 4 f fd ["self", "word", "x", "y"] (liftF K (pfHear C CX)) := by
  refine fn_mk F sc_hear (fun ds M R Z ⟨p, n, L, l, e, _⟩ => by subst e; rfl) ?_
  rintro ds M R Z ⟨p, n, L, l, rfl, rfl, hn, hg, hw, hb, hL, hl, qz, q⟩
  have ho : ObjAt (darkM p C n L) (.ptr p) C (dkF n L) := .cell (i := 0) rfl
  refine wss_cons (ws_asg (i := 4) rfl (.inl rfl) (we_meth D_home (Nat.le_of_ble_eq_true rfl) (we_var (i := 0) rfl (.inl rfl) rfl (⟨_, ho, rfl, wa_cons (we_var (i := 1) rfl (.inl rfl) rfl (wa_cons (we_var (i := 2) rfl (.inl rfl) rfl (wa_cons (we_var (i := 3) rfl (.inl rfl) rfl (wa_nil ((callee0 fun R Z hR hZ => ⟨_, n, L, l, rfl, ho, hn, hg, hw, hb, hR _ _ (?_)⟩))))))))⟩))))
  refine wss_cons (ws_asg (i := 5) rfl (.inl rfl) (we_meth D_fa (Nat.le_of_ble_eq_true rfl) (we_var (i := 0) rfl (.inl rfl) rfl (⟨_, ho, rfl, wa_cons (we_var (i := 4) rfl (.inl rfl) rfl (wa_nil ((callee0 fun R Z hR hZ => ⟨_, n, L, home n l, rfl, ho, hn, hg, home_bg hn hg hb, hL, hl, hR _ _ (?_)⟩))))⟩))))
  cases hnf : L.find? fun z => apart n (home n l) z with
  | some z =>
    refine wss_cons (ws_if (wt_notN (we_var (i := 5) rfl (.inl rfl) rfl (br_t (?_)))))
    refine wss_cons (ws_raise X_Clash (Nat.le_of_ble_eq_true rfl) rfl (we_tup (wa_cons (we_var (i := 4) rfl (.inl rfl) rfl (wa_cons (we_var (i := 5) rfl (.inl rfl) rfl (wa_nil (⟨Nat.le_of_ble_eq_true rfl, ?_⟩))))))))
    exact qz z hnf
  | none =>
    have q := q hnf
    clear qz
    refine wss_cons (ws_if (wt_notN (we_var (i := 5) rfl (.inl rfl) rfl (br_f (?_)))))
    refine wss_nil ?_
    by_cases hm : home n l ∈ L
    · refine wss_cons (ws_if (wt_nin (we_var (i := 4) rfl (.inl rfl) rfl (we_fld (we_var (i := 0) rfl (.inl rfl) rfl (⟨_, _, _, ho, T, NH, rfl, ⟨_, _, .self, .inl .self, by walk_at "s_okd", by walk_at "s_okd", br_nkF (by rw [any_lk]; exact decide_eq_true hm) (?_)⟩⟩))))))
      refine wss_nil (wss_nil ?_)
      unfold hearL at q
      rw [if_pos hm] at q
      exact q
    · refine wss_cons (ws_if (wt_nin (we_var (i := 4) rfl (.inl rfl) rfl (we_fld (we_var (i := 0) rfl (.inl rfl) rfl (⟨_, _, _, ho, T, NH, rfl, ⟨_, _, .self, .inl .self, by walk_at "s_okd", by walk_at "s_okd", br_nkT (by rw [any_lk]; exact decide_eq_false hm) (?_)⟩⟩))))))
      have hl2 : L.length < 10000000 := by omega
      refine wss_cons (ws_fld (we_sortedD rfl (by walk_at "s_mg") (we_addL (we_fld (we_var (i := 0) rfl (.inl rfl) rfl (⟨_, _, _, ho, T, NH, rfl, we_lst (wa_cons (we_var (i := 4) rfl (.inl rfl) rfl (wa_nil (⟨Nat.le_of_ble_eq_true rfl, ⟨_, _, .self, .self, by walk_at "s_len2", ⟨_, .self, by walk_at "s_okd", by walk_at "s_alike", by walk_at "s_sortable", we_var (i := 0) rfl (.inl rfl) rfl (⟨_, 0, _, _, rfl, rfl, T, NH, Nat.le_of_ble_eq_true rfl, ?_⟩)⟩⟩⟩))))⟩))))))
      unfold hearL at q
      rw [if_neg hm] at q
      refine wss_nil (wss_nil ?_)
      rw [sort_lk]
      exact q
def pfLooks (C : Addr) : PF := fun ds M R _ => ∃ (d : D) (n : Int) (L : List Look), ds = [d] ∧ ObjAt M d C (dkF n L) ∧ R (.lst (L.map lkD)) M
theorem ok_looks {f fd k} (F : Fun K "looks" "Dark.looks" s_looks f fd) (T : Cls K C) (NH : NoAttr K C "heard") (m_list : mg "list" = none) : FnOk P w K mg base (L2.CX P w) (k + 1) f fd ["self"] (liftF K (pfLooks C)) := by
  refine fn_mk F sc_looks (fun ds M R Z ⟨d, n, L, e, _⟩ => by subst e; rfl) ?_
  rintro ds M R Z ⟨d, n, L, rfl, ho, q⟩
  refine wss_cons (ws_ret (we_listOf rfl (by walk_at "s_mg") (we_fld (we_var (i := 0) rfl (.inl rfl) rfl (⟨_, _, _, ho, T, NH, rfl, ⟨_, .inl .self, ?_⟩⟩)))))
  exact q
def pfLeast (C : Addr) : PF := fun ds M R _ => ∃ (d : D) (n : Int) (L : List Look) (x : Int), ds = [d, .int x] ∧ ObjAt M d C (dkF n L) ∧ 0 < n ∧ Bg n ∧ Bg x ∧ (∀ z ∈ L, BgL z) ∧ L.length < 1000000 ∧ ∀ o, IsMax ((notShort L).map (lowv n x)) o → R (optD o) M
theorem ok_least {f fd f1 fd1 f2 fd2} (F : Fun K "least" "Dark.least" s_least f fd) (T : Cls K C) (NT : NoAttr K C "turn") (NH : NoAttr K C "heard") (D_low : Def P w K mg base "low" f1 fd1 ["length", "steps", "x"] 1 pfLow) (D_ns : Def P w K mg base "not_short" f2 fd2 ["looks"] 1 pfNs) : FnOk P w K mg base (L2.CX P w) 2 f fd ["self", "x"] (liftF K (pfLeast C)) := by
  refine fn_mk F sc_least (fun ds M R Z ⟨d, n, L, x, e, _⟩ => by subst e; rfl) ?_
  rintro ds M R Z ⟨d, n, L, x, rfl, ho, hn, hg, hx, hL, hl, q⟩
  refine wss_cons (ws_ret (we_call D_low (Nat.le_of_ble_eq_true rfl) rfl (wa_cons (we_fld (we_var (i := 0) rfl (.inl rfl) rfl (⟨_, _, _, ho, T, NT, rfl, wa_cons (we_call D_ns (Nat.le_of_ble_eq_true rfl) rfl (wa_cons (we_fld (we_var (i := 0) rfl (.inl rfl) rfl (⟨_, _, _, ho, T, NH, rfl, wa_nil ((callee0 fun R Z hR hZ => ⟨L, rfl, hl, hR _ _ (wa_cons (we_var (i := 1) rfl (.inl rfl) rfl (wa_nil ((callLow rfl hn hg hx (bg_short hL) (len_short hl) fun o ho => ?_)))))⟩))⟩)))))⟩))))))
  exact q o ho
def pfGreatest (C : Addr) : PF := fun ds M R _ => ∃ (d : D) (n : Int) (L : List Look) (x : Int), ds = [d, .int x] ∧ ObjAt M d C (dkF n L) ∧ 0 < n ∧ Bg n ∧ Bg x ∧ (∀ z ∈ L, BgL z) ∧ L.length < 1000000 ∧ ∀ o, IsMin ((notBeyond L).map (highv n x)) o → R (optD o) M
theorem ok_greatest {f fd f1 fd1 f2 fd2} (F : Fun K "greatest" "Dark.greatest" s_greatest f fd) (T : Cls K C) (NT : NoAttr K C "turn") (NH : NoAttr K C "heard") (D_high : Def P w K mg base "high" f1 fd1 ["length", "steps", "x"] 1 pfHigh) (D_nb : Def P w K mg base "not_beyond" f2 fd2 ["looks"] 1 pfNb) : FnOk P w K mg base (L2.CX P w) 2 f fd ["self", "x"] (liftF K (pfGreatest C)) := by
  refine fn_mk F sc_greatest (fun ds M R Z ⟨d, n, L, x, e, _⟩ => by subst e; rfl) ?_
  rintro ds M R Z ⟨d, n, L, x, rfl, ho, hn, hg, hx, hL, hl, q⟩
  refine wss_cons (ws_ret (we_call D_high (Nat.le_of_ble_eq_true rfl) rfl (wa_cons (we_fld (we_var (i := 0) rfl (.inl rfl) rfl (⟨_, _, _, ho, T, NT, rfl, wa_cons (we_call D_nb (Nat.le_of_ble_eq_true rfl) rfl (wa_cons (we_fld (we_var (i := 0) rfl (.inl rfl) rfl (⟨_, _, _, ho, T, NH, rfl, wa_nil ((callee0 fun R Z hR hZ => ⟨L, rfl, hl, hR _ _ (wa_cons (we_var (i := 1) rfl (.inl rfl) rfl (wa_nil ((callHigh rfl hn hg hx (bg_beyond hL) (len_beyond hl) fun o ho => ?_)))))⟩))⟩)))))⟩))))))
  exact q o ho
end
end


theorem bound_lead {n x : Int} {p : Int × Int} (hn : 0 < n) : p.2 + x - p.1 - n < lowv n x p ∧ lowv n x p ≤ p.2 + x - p.1 := by
  have := floor_in (x := x - p.1) hn
  unfold lowv
  omega
abbrev s_len : Stmt := topS 24
theorem sc_len : FnScope ["tray", "lot"] ["tray"] (defScope s_len) := ⟨rfl, rfl, rfl, by decide +kernel, rfl, by decide +kernel, by decide +kernel⟩
abbrev s_lead : Stmt := topS 25
theorem sc_lead : FnScope ["size", "steps", "spot", "here", "there"] ["size", "steps", "spot"] (defScope s_lead) := ⟨rfl, rfl, rfl, by decide +kernel, rfl, by decide +kernel, by decide +kernel⟩
abbrev s_secret : Stmt := topS 26
theorem sc_secret : FnScope ["tray", "size", "spots", "rises", "lot", "base", "k", "spot"] ["tray", "size"] (defScope s_secret) := ⟨rfl, rfl, rfl, by decide +kernel, rfl, by decide +kernel, by decide +kernel⟩
abbrev s_look : Stmt := topS 27
theorem sc_look : FnScope ["tray", "size", "steps", "spot", "off", "said", "sign", "turn"] ["tray", "size", "steps"] (defScope s_look) := ⟨rfl, rfl, rfl, by decide +kernel, rfl, by decide +kernel, by decide +kernel⟩

section
variable {P : Program} {w : World} {K : PySem.W.Frag} {mg : Str → Option Value} {base : Heap}
def pfLen : PF := fun ds M R _ => ∃ (a : Addr) (T : Int), ds = [.ptr a] ∧ IsTray T a M ∧ (0 ≤ T ∧ T < 800000000) ∧ ∀ (r : Int) M', 0 < r → r < 10000000000000000000000000000000 → IsTray (T + 5) a M' → R (.int r) M'
theorem ok_len {f fd f1 fd1 f2 fd2} (F : Fun K "_law_length" "_law_length" s_len f fd) (m_max : mg "max" = none) (D_draw : Def P w K mg base "_law_draw" f1 fd1 ["tray", "many"] 1 pfDraw) (D_great : Def P w K mg base "_law_great" f2 fd2 ["tray"] 2 pfGreat) : FnOk P w K mg base (L2.CX P w) 3 f fd ["tray"] (liftF K pfLen) := by
  refine fn_mk F sc_len (fun ds M R Z ⟨a, T, e, _⟩ => by subst e; rfl) ?_
  rintro ds M R Z ⟨a, T, rfl, hB0, hT, q⟩
  refine wss_cons (ws_asg (i := 1) rfl (.inl rfl) (we_call D_draw (Nat.le_of_ble_eq_true rfl) rfl (wa_cons (we_var (i := 0) rfl (.inl rfl) rfl (wa_cons (we_int (wa_nil ((callDraw (kept := []) hB0 (by omega) (by walk_at "s_sm") (by first | omega | (have eyl := congrArg List.length ey; simp only [List.length_append, List.length_cons, List.length_range, List.length_map] at *; omega)) fun r1 M1 hr1 hs1 hB1 => ?_)))))))))
  refine wss_cons (ws_if (wt_eqI (we_var (i := 1) rfl (.inl rfl) rfl (we_int (⟨_, _, rfl, rfl, br_dec (fun h133 => ?_) (fun h133 => ?_)⟩)))))
  · refine wss_cons (ws_ret (we_max2 rfl (by walk_at "s_mg") (we_int (we_div (we_call D_great (Nat.le_of_ble_eq_true rfl) rfl (wa_cons (we_var (i := 0) rfl (.inl rfl) rfl (wa_nil ((callGreat (kept := []) hB1 (by first | omega | (have eyl := congrArg List.length ey; simp only [List.length_append, List.length_cons, List.length_range, List.length_map] at *; omega)) fun r2 M2 hr2 hs2 hB2 => we_powK (v := 100000000000000000000000000000) ⟨by decide, by decide, by decide⟩ (by decide +kernel) (⟨_, _, rfl, rfl, (by walk_at "s_div"), ⟨_, _, rfl, rfl, ?_⟩⟩)))))))))))
    refine q _ _ ?_ ?_ (hB2.mono (by omega))
    · omega
    · omega
  · refine wss_nil ?_
    refine wss_cons (ws_ret (we_add (we_int (we_call D_draw (Nat.le_of_ble_eq_true rfl) rfl (wa_cons (we_var (i := 0) rfl (.inl rfl) rfl (wa_cons (we_ixJ (P := fun v => 0 < v ∧ v ≤ 400) (we_lst (wa_cons (we_int (wa_cons (we_int (wa_cons (we_int (wa_cons (we_int (wa_cons (we_int (wa_nil (⟨Nat.le_of_ble_eq_true rfl, we_var (i := 1) rfl (.inl rfl) rfl (⟨[_, _, _, _, _], _, rfl, rfl, by simp only [List.length_cons, List.length_nil]; omega, by walk_at "s_mem", fun v901 hv901 => wa_nil ((callDraw (kept := []) hB1 (by omega) (by walk_at "s_sm") (by first | omega | (have eyl := congrArg List.length ey; simp only [List.length_append, List.length_cons, List.length_range, List.length_map] at *; omega)) fun r2 M2 hr2 hs2 hB2 => ⟨_, _, rfl, rfl, ?_⟩))⟩)⟩)))))))))))))))))))))
    exact q _ _ (by omega) (by omega) (hB2.mono (by omega))
def pfLead : PF := fun ds M R _ => ∃ (n : Int) (ps : List (Int × Int)) (x : Int), ds = [.int n, .lst (ps.map prD), .int x] ∧ 0 < n ∧ Bg n ∧ Bg x ∧ (∀ p ∈ ps, Bg p.1) ∧ ps ≠ [] ∧ ps.length < 1000000 ∧ R (.int (leadF n ps x)) M
theorem ok_lead {f fd k} (F : Fun K "_law_lead" "_law_lead" s_lead f fd) (m_max : mg "max" = none) : FnOk P w K mg base (L2.CX P w) (k + 1) f fd ["size", "steps", "spot"] (liftF K pfLead) := by
  refine fn_mk F sc_lead (fun ds M R Z ⟨n, ps, x, e, _⟩ => by subst e; rfl) ?_
  rintro ds M R Z ⟨n, ps, x, rfl, hn, hg, hx, hb, hne, hl, q⟩
  have hl : ps.length < 10000000 := by omega
  have hpos : 0 < ps.length := List.length_pos_iff.mpr hne
  refine wss_cons (ws_ret (we_maxM ps (lowv n x) rfl (by walk_at "s_mg") (we_lcL [("here", 3), ("there", 4)] rfl (ps) (prD) _ (we_var (i := 1) rfl (.inl rfl) rfl (⟨rfl, lcq_map (fun p => D.int (lowv n x p)) (lenB' hl) (fun y hy => ⟨_, _, .tup rfl (fun _ => rfl) (fun _ => rfl) (.cons (fun _ => rfl) (.name (i := 3) rfl (.inl rfl)) (.cons (fun _ => rfl) (.name (i := 4) rfl (.inl rfl)) (.nil))), rfl, wis_nil (br_t (we_add (we_var (i := 4) rfl (.inl rfl) rfl (we_mul (we_div (we_sub (we_var (i := 2) rfl (.inr (.inl rfl)) rfl (we_var (i := 3) rfl (.inl rfl) rfl (⟨_, _, rfl, rfl, we_var (i := 0) rfl (.inr (.inl rfl)) rfl (⟨_, _, rfl, rfl, (by walk_at "s_div"), we_var (i := 0) rfl (.inr (.inl rfl)) rfl (⟨_, _, rfl, rfl, (cmulDiv hn (by have := hb _ hy; simp only [Sm, Bg] at *; omega) (by walk_at "s_sm")), ⟨_, _, rfl, rfl, ⟨rfl, rfl⟩⟩⟩)⟩)⟩)))))))))⟩) (⟨rfl, by walk_at "s_pos", fun mx hmx hxx => ?_⟩)⟩)))))
  rw [leadF_eq hne hmx hxx]
  exact q
theorem callLead {c : PL.Ctx} {Γ : Gam} {n x : Int} {ps : List (Int × Int)} {dl : D} {M : Cells} {Q : D → Cells → Prop} (e : dl = .lst (ps.map prD)) (hn : 0 < n) (hg : Bg n) (hx : Bg x) (hb : ∀ p ∈ ps, Bg p.1) (hne : ps ≠ []) (hl : ps.length < 1000000) (q : Q (.int (leadF n ps x)) M) : Callee c pfLead Γ [.int n, dl, .int x] M Q :=
  callee0 fun R Z hR _ => ⟨n, ps, x, by rw [e], hn, hg, hx, hb, hne, hl, hR _ _ q⟩
/-- a hand's steps -/
structure Steps (n : Int) (ps : List (Int × Int)) : Prop where
  ne : ps ≠ []
  len : ps.length < 100
  at_ : ∀ p ∈ ps, 0 ≤ p.1 ∧ p.1 < n
  own : ∀ p q, ps.head? = some p → q ∈ ps → lowv n p.1 q ≤ p.2
  to : ∀ p ∈ ps, -1000000000000000000000000000000000000000000000000000000000000 < p.2 ∧ p.2 < 1000000000000000000000000000000000000000000000000000000000000
def pfSecret : PF := fun ds M R _ => ∃ (a : Addr) (n T : Int), ds = [.ptr a, .int n] ∧ IsTray T a M ∧ (0 ≤ T ∧ T < 700000000) ∧ (0 < n ∧ n < 10000000000000000000000000000000) ∧ ∀ ps M', Steps n ps → IsTray (T + 100) a M' → R (.lst (ps.map prD)) M'
theorem ok_secret {f fd f1 fd1 f2 fd2} (F : Fun K "_law_secret" "_law_secret" s_secret f fd) (m_range : mg "range" = none) (m_sorted : mg "sorted" = none) (m_set : mg "set" = none) (m_len : mg "len" = none)
    (D_draw : Def P w K mg base "_law_draw" f1 fd1 ["tray", "many"] 1 pfDraw) (D_great : Def P w K mg base "_law_great" f2 fd2 ["tray"] 2 pfGreat) : FnOk P w K mg base (L2.CX P w) 3 f fd ["tray", "size"] (liftF K pfSecret) := by
  refine fn_mk F sc_secret (fun ds M R Z ⟨a, n, T, e, _⟩ => by subst e; rfl) ?_
  rintro ds M R Z ⟨a, n, T, rfl, hB0, hT, hn, q⟩
  refine wss_cons (ws_asg (i := 2) rfl (.inr ⟨rfl, rfl⟩) (we_sortSetI rfl (by walk_at "s_mg") rfl (by walk_at "s_mg") (we_lcR [("k", 6)] rfl rfl (by walk_at "s_mg") _ (we_add (we_int (we_call D_draw (Nat.le_of_ble_eq_true rfl) rfl (wa_cons (we_var (i := 0) rfl (.inr (.inl rfl)) rfl (wa_cons (we_int (wa_nil ((callDraw (kept := []) hB0 (by omega) (by walk_at "s_sm") (by first | omega | (have eyl := congrArg List.length ey; simp only [List.length_append, List.length_cons, List.length_range, List.length_map] at *; omega)) fun r1 M1 hr1 hs1 hB1 => ⟨_, _, rfl, rfl, ⟨_, rfl, by walk_at "s_rg", by walk_at "s_rg", lcq_B D.int (fun pre ns M2 => ns.length = pre.length ∧ (∀ v ∈ ns, 0 ≤ v ∧ v < n) ∧ IsTray ((T + 1) + pre.length) a M2) (by walk_at "s_len") (⟨rfl, (fun v hv => by cases hv), hB1.mono (by simp only [List.length_range, List.length_nil, List.length_map] at *; omega)⟩) (fun pre y post ns M2 ey hlen ⟨hnl, hnx, hB2⟩ => ⟨_, _, .name (i := 6) rfl (.inl rfl), rfl, wis_nil (br_t (we_call D_draw (Nat.le_of_ble_eq_true rfl) rfl (wa_cons (we_var (i := 0) rfl (.inr (.inl rfl)) rfl (wa_cons (we_var (i := 1) rfl (.inr (.inl rfl)) rfl (wa_nil ((callDraw (kept := []) hB2 (by omega) (by walk_at "s_sm") (by first | omega | (have eyl := congrArg List.length ey; simp only [List.length_append, List.length_cons, List.length_range, List.length_map] at *; omega)) fun r3 M3 hr3 hs3 hB3 => ⟨r3, rfl, by simp [hnl], fun v hv => (List.mem_append.mp hv).elim (hnx v) fun hv => by rw [List.mem_singleton.mp hv]; exact ⟨hr3, hs3⟩, hB3.mono (by simp only [List.length_append, List.length_cons, List.length_nil]; omega)⟩)))))))))⟩) (fun acc4 M3 hal4 ⟨hnl4, hnx4, hB4⟩ => ⟨_, .self, by walk_at "s_few", fun ns901 hsns901 hmns901 => ?_⟩)⟩⟩)))))))))))))
  have hl1 : ns901.length ≤ acc4.length := nodup_len hsns901 fun v hv => (hmns901 v).mp hv
  have hx1 : ∀ v ∈ ns901, 0 ≤ v ∧ v < n := fun v hv => hnx4 v ((hmns901 v).mp hv)
  have hal : acc4.length = (1 + r1).toNat := by rw [hnl4, List.length_range]
  have hp1 : 0 < ns901.length := by
    cases e : acc4 with
    | nil => rw [e] at hal; simp only [List.length_nil] at hal; omega
    | cons v vs => exact List.length_pos_of_mem ((hmns901 v).mpr (by rw [e]; exact List.mem_cons_self))
  have hB4 : IsTray (T + 7) a M3 := hB4.mono (by simp only [List.length_range] at *; omega)
  clear hal4 hnl4
  refine wss_cons (ws_asg (i := 3) rfl (.inr ⟨rfl, rfl⟩) (we_sortedI rfl (by walk_at "s_mg") (we_lcL [("spot", 7)] rfl (ns901) (D.int) _ (we_var (i := 2) rfl (.inr (.inl rfl)) rfl (⟨rfl, lcq_B D.int (fun pre ns M2 => ns.length = pre.length ∧ (∀ v ∈ ns, 0 ≤ v ∧ v < (n + 1)) ∧ IsTray ((T + 7) + pre.length) a M2) (by walk_at "s_len") (⟨rfl, (fun v hv => by cases hv), hB4.mono (by simp only [List.length_range, List.length_nil, List.length_map] at *; omega)⟩) (fun pre y post ns M2 ey hlen ⟨hnl, hnx, hB5⟩ => ⟨_, _, .name (i := 7) rfl (.inl rfl), rfl, wis_nil (br_t (we_call D_draw (Nat.le_of_ble_eq_true rfl) rfl (wa_cons (we_var (i := 0) rfl (.inr (.inl rfl)) rfl (wa_cons (we_add (we_var (i := 1) rfl (.inr (.inl rfl)) rfl (we_int (⟨_, _, rfl, rfl, wa_nil ((callDraw (kept := []) hB5 (by omega) (by walk_at "s_sm") (by first | omega | (have eyl := congrArg List.length ey; simp only [List.length_append, List.length_cons, List.length_range, List.length_map] at *; omega)) fun r6 M6 hr6 hs6 hB6 => ⟨r6, rfl, by simp [hnl], fun v hv => (List.mem_append.mp hv).elim (hnx v) fun hv => by rw [List.mem_singleton.mp hv]; exact ⟨hr6, hs6⟩, hB6.mono (by simp only [List.length_append, List.length_cons, List.length_nil]; omega)⟩))⟩)))))))))⟩) (fun acc7 M3 hal7 ⟨hnl7, hnx7, hB7⟩ => ⟨_, .self, fun ns902 hpns902 hsns902 => ?_⟩)⟩)))))
  have hl2 : ns902.length = ns901.length := by rw [hpns902.length_eq, hnl7]
  have hx2 : ∀ v ∈ ns902, 0 ≤ v ∧ v < n + 1 := fun v hv => hnx7 v (hpns902.mem_iff.mp hv)
  have hB7 := hB7.mono (T' := T + 13) (by omega)
  clear hal7 hnl7
  refine wss_cons (ws_asg (i := 4) rfl (.inl rfl) (we_call D_draw (Nat.le_of_ble_eq_true rfl) rfl (wa_cons (we_var (i := 0) rfl (.inr (.inl rfl)) rfl (wa_cons (we_int (wa_nil ((callDraw (kept := []) hB7 (by omega) (by walk_at "s_sm") (by first | omega | (have eyl := congrArg List.length ey; simp only [List.length_append, List.length_cons, List.length_range, List.length_map] at *; omega)) fun r8 M8 hr8 hs8 hB8 => ?_)))))))))
  refine wss_cons (ws_asg (i := 5) rfl (.inr ⟨rfl, rfl⟩) (we_ixJ (P := fun v => -(3 * n) ≤ v ∧ v ≤ 3 * n) (we_lst (wa_cons (we_int (wa_cons (we_call D_draw (Nat.le_of_ble_eq_true rfl) rfl (wa_cons (we_var (i := 0) rfl (.inr (.inl rfl)) rfl (wa_cons (we_add (we_var (i := 1) rfl (.inr (.inl rfl)) rfl (we_int (⟨_, _, rfl, rfl, wa_nil ((callDraw (kept := []) hB8 (by omega) (by walk_at "s_sm") (by first | omega | (have eyl := congrArg List.length ey; simp only [List.length_append, List.length_cons, List.length_range, List.length_map] at *; omega)) fun r9 M9 hr9 hs9 hB9 => wa_cons (we_sub (we_call D_draw (Nat.le_of_ble_eq_true rfl) rfl (wa_cons (we_var (i := 0) rfl (.inr (.inl rfl)) rfl (wa_cons (we_add (we_mul (we_int (we_var (i := 1) rfl (.inr (.inl rfl)) rfl (⟨_, _, rfl, rfl, (by walk_at "s_mul"), we_int (⟨_, _, rfl, rfl, wa_nil ((callDraw (kept := []) hB9 (by omega) (by walk_at "s_sm") (by first | omega | (have eyl := congrArg List.length ey; simp only [List.length_append, List.length_cons, List.length_range, List.length_map] at *; omega)) fun r10 M10 hr10 hs10 hB10 => we_mul (we_int (we_var (i := 1) rfl (.inr (.inl rfl)) rfl (⟨_, _, rfl, rfl, (by walk_at "s_mul"), ⟨_, _, rfl, rfl, wa_nil (⟨Nat.le_of_ble_eq_true rfl, we_mod (we_var (i := 4) rfl (.inl rfl) rfl (we_int (⟨_, _, rfl, rfl, (by walk_at "s_mod"), ⟨[_, _, _], _, rfl, rfl, by simp only [List.length_cons, List.length_nil]; omega, by walk_at "s_mem", fun v903 hv903 => ?_⟩⟩)))⟩)⟩⟩)))))⟩)⟩))))))))))))⟩))))))))))))))
  refine wss_cut (fun Γ1 M1 => ∃ (b : Int) (c4 : Option D), Γ1 = [some (.ptr a), some (.int n), some (.lst (ns901.map D.int)), some (.lst (ns902.map D.int)), c4, some (.int b), none, none] ∧ (-100000000000000000000000000000000000000000000000000000000000 < b ∧ b < 100000000000000000000000000000000000000000000000000000000000) ∧ IsTray (T + 100) a M1) (ws_if (wt_eqI (we_var (i := 4) rfl (.inl rfl) rfl (we_int (⟨_, _, rfl, rfl, br_dec (fun h143 => ?_) (fun h143 => ?_)⟩))))) ?_
  · refine wss_cons (ws_asg (i := 5) rfl (.inr ⟨rfl, rfl⟩) (we_sub (we_div (we_call D_great (Nat.le_of_ble_eq_true rfl) rfl (wa_cons (we_var (i := 0) rfl (.inr (.inl rfl)) rfl (wa_nil ((callGreat (kept := []) hB10 (by first | omega | (have eyl := congrArg List.length ey; simp only [List.length_append, List.length_cons, List.length_range, List.length_map] at *; omega)) fun r11 M11 hr11 hs11 hB11 => we_int (⟨_, _, rfl, rfl, (by walk_at "s_div"), we_powK (v := 1000000000000000000000000000000000000000000000000000000000) ⟨by decide, by decide, by decide⟩ (by decide +kernel) (⟨_, _, rfl, rfl, ?_⟩)⟩))))))))))
    exact wss_nil ⟨_, _, rfl, ⟨by omega, by omega⟩, hB11.mono (by omega)⟩
  · exact wss_nil ⟨_, _, rfl, ⟨by omega, by omega⟩, hB10.mono (by omega)⟩
  · rintro Γ1 M1 ⟨b, c4, rfl, hb, hB⟩
    have hlt : ns901.length < 10 := by omega
    refine wss_cons (ws_ret (we_lcR [("k", 6)] rfl rfl (by walk_at "s_mg") _ (we_len rfl (by walk_at "s_mg") (we_var (i := 2) rfl (.inr (.inl rfl)) rfl (⟨_, .inl .self, ⟨_, rfl, by walk_at "s_rg", by walk_at "s_rg", lcq_map (fun (k : Nat) => prD (ns901.getD (0 + (k : Int)).toNat 0, b + ns902.getD (0 + (k : Int)).toNat 0)) (by walk_at "s_len") (fun y hy => ⟨_, _, .name (i := 6) rfl (.inl rfl), rfl, wis_nil (br_t (we_tup (wa_cons (we_ixG ns901 D.int 0 (we_var (i := 2) rfl (.inr (.inl rfl)) rfl (we_var (i := 6) rfl (.inl rfl) rfl (⟨_, rfl, rfl, by have := List.mem_range.mp hy; simp only [List.length_map] at *; omega, wa_cons (we_add (we_var (i := 5) rfl (.inr (.inl rfl)) rfl (we_ixG ns902 D.int 0 (we_var (i := 3) rfl (.inr (.inl rfl)) rfl (we_var (i := 6) rfl (.inl rfl) rfl (⟨_, rfl, rfl, by have := List.mem_range.mp hy; simp only [List.length_map] at *; omega, ⟨_, _, rfl, rfl, wa_nil (⟨Nat.le_of_ble_eq_true rfl, ⟨rfl, rfl⟩⟩)⟩⟩))))))⟩)))))))⟩) (?_)⟩⟩)))))
    have e : (List.range ((List.map D.int ns901).length : Int).toNat).map (fun (k : Nat) => prD (ns901.getD (0 + (k : Int)).toNat 0, b + ns902.getD (0 + (k : Int)).toNat 0)) = ((List.range ((List.map D.int ns901).length : Int).toNat).map (fun (k : Nat) => (ns901.getD (0 + (k : Int)).toNat 0, b + ns902.getD (0 + (k : Int)).toNat 0))).map prD := by rw [List.map_map]; rfl
    rw [e]
    have get : ∀ (xs : List Int) (k : Nat) (lo hi : Int), k < xs.length → (∀ v ∈ xs, lo ≤ v ∧ v < hi) → lo ≤ xs.getD (0 + (k : Int)).toNat 0 ∧ xs.getD (0 + (k : Int)).toNat 0 < hi := fun xs k lo hi hk h => by
      rw [Int.zero_add, Int.toNat_natCast, List.getD_eq_getElem?_getD, List.getElem?_eq_getElem hk]
      exact h _ (List.getElem_mem hk)
    refine q _ _ ⟨?_, ?_, ?_, ?_, ?_⟩ hB
    · intro z
      have := congrArg List.length z
      simp only [List.length_map, List.length_range, List.length_nil, Int.toNat_natCast] at this
      omega
    · simp only [List.length_map, List.length_range, Int.toNat_natCast]
      omega
    · intro p hp
      obtain ⟨k, hk, rfl⟩ := List.mem_map.mp hp
      have hk := List.mem_range.mp hk
      simp only [List.length_map, Int.toNat_natCast] at hk
      exact get ns901 k 0 n hk hx1
    · intro p q hp hq
      obtain ⟨k, hk, rfl⟩ := List.mem_map.mp hq
      have hk := List.mem_range.mp hk
      simp only [List.length_map, Int.toNat_natCast] at hk hp
      have e0 : ∃ m, ns901.length = m + 1 := ⟨ns901.length - 1, by omega⟩
      obtain ⟨m, em⟩ := e0
      rw [em, List.range_succ_eq_map, List.map_cons] at hp
      have hp := Option.some.inj hp
      have g0 := get ns901 0 0 n (by omega) hx1
      have gk := get ns901 k 0 n hk hx1
      have r0 := get ns902 0 0 (n + 1) (by omega) hx2
      have rk := get ns902 k 0 (n + 1) (by omega) hx2
      have f0 : p = (ns901.getD (0 + ((0 : Nat) : Int)).toNat 0, b + ns902.getD (0 + ((0 : Nat) : Int)).toNat 0) := hp.symm
      rw [f0]
      unfold lowv
      by_cases c : k = 0
      · subst c
        show b + _ + (_ - _) / n * n ≤ b + _
        rw [Int.sub_self, Int.zero_ediv, Int.zero_mul, Int.add_zero]
        exact Int.le_refl _
      · have lt : ns901.getD (0 + ((0 : Nat) : Int)).toNat 0 < ns901.getD (0 + (k : Int)).toNat 0 := by
          have := List.pairwise_iff_getElem.mp hsns901 0 k (by omega) hk (by omega)
          rw [Int.zero_add, Int.zero_add, Int.toNat_natCast, Int.toNat_natCast, List.getD_eq_getElem?_getD, List.getD_eq_getElem?_getD, List.getElem?_eq_getElem hk, List.getElem?_eq_getElem (show 0 < ns901.length by omega)]
          exact this
        have : (ns901.getD (0 + ((0 : Nat) : Int)).toNat 0 - ns901.getD (0 + (k : Int)).toNat 0) / n = -1 := by
          have h1 : (ns901.getD (0 + ((0 : Nat) : Int)).toNat 0 - ns901.getD (0 + (k : Int)).toNat 0 + n) / n = 0 := Int.ediv_eq_zero_of_lt (by omega) (by omega)
          have h2 : (ns901.getD (0 + ((0 : Nat) : Int)).toNat 0 - ns901.getD (0 + (k : Int)).toNat 0 + n) = (ns901.getD (0 + ((0 : Nat) : Int)).toNat 0 - ns901.getD (0 + (k : Int)).toNat 0) + 1 * n := by omega
          rw [h2, Int.add_mul_ediv_right _ _ (by omega)] at h1
          omega
        show b + ns902.getD (0 + (k : Int)).toNat 0 + (ns901.getD (0 + ((0 : Nat) : Int)).toNat 0 - ns901.getD (0 + (k : Int)).toNat 0) / n * n ≤ b + ns902.getD (0 + ((0 : Nat) : Int)).toNat 0
        rw [this]
        omega
    · intro p hp
      obtain ⟨k, hk, rfl⟩ := List.mem_map.mp hp
      have hk := List.mem_range.mp hk
      simp only [List.length_map, Int.toNat_natCast] at hk
      have := get ns902 k 0 (n + 1) (by omega) hx2
      show _ < b + _ ∧ b + _ < _
      omega
/-- sixty-three figures -/
abbrev Bt (i : Int) : Prop := -1000000000000000000000000000000000000000000000000000000000000000 < i ∧ i < 1000000000000000000000000000000000000000000000000000000000000000
def BtL (l : Look) : Prop := Bt l.2.1 ∧ Bt l.2.2
def TrueL (n : Int) (F : Int → Int) (l : Look) : Prop := Ok F l ∧ isWord l.1 ∧ BsL l
/-- a true look -/
def TrueT (n : Int) (F : Int → Int) (l : Look) : Prop := Ok F l ∧ isWord l.1 ∧ BtL l
def pfLook : PF := fun ds M R _ => ∃ (a : Addr) (n T : Int) (ps : List (Int × Int)), ds = [.ptr a, .int n, .lst (ps.map prD)] ∧ IsTray T a M ∧ (0 ≤ T ∧ T < 700000000) ∧ (0 < n ∧ n < 10000000000000000000000000000000) ∧ Steps n ps ∧ ∀ l M', TrueT n (leadF n ps) l → IsTray (T + 40) a M' → R (lkD l) M'
set_option hygiene false in
local macro_rules | `(tactic| walk_at "s_mem") => `(tactic| first | (intro v hv; simp only [List.mem_cons, List.not_mem_nil, or_false] at hv; omega) | (intro v hv; simp only [List.mem_cons, List.not_mem_nil, or_false] at hv; have hza := hst.at_ _ hzz902; omega))
theorem ok_look {f fd f1 fd1 f2 fd2 f3 fd3} (F : Fun K "_law_true_look" "_law_true_look" s_look f fd) (m_len : mg "len" = none) (D_draw : Def P w K mg base "_law_draw" f1 fd1 ["tray", "many"] 1 pfDraw) (D_great : Def P w K mg base "_law_great" f2 fd2 ["tray"] 2 pfGreat)
    (D_lead : Def P w K mg base "_law_lead" f3 fd3 ["size", "steps", "spot"] 1 pfLead) : FnOk P w K mg base (L2.CX P w) 3 f fd ["tray", "size", "steps"] (liftF K pfLook) := by
  refine fn_mk F sc_look (fun ds M R Z ⟨a, n, T, ps, e, _⟩ => by subst e; rfl) ?_
  rintro ds M R Z ⟨a, n, T, ps, rfl, hB0, hT, ⟨hn, hn2⟩, hst, q⟩
  have hpl : 0 < (ps.map prD).length := by rw [List.length_map]; exact List.length_pos_iff.mpr hst.ne
  have hpu : (ps.map prD).length < 100 := by rw [List.length_map]; exact hst.len
  have hg : Bg n := by simp only [Bg]; omega
  have hbp : ∀ p ∈ ps, Bg p.1 := fun p hp => by have := hst.at_ p hp; simp only [Bg]; omega
  have hne := hst.ne
  have hl : ps.length < 1000000 := by have := hst.len; omega
  refine wss_cons (ws_asg (i := 3) rfl (.inl rfl) (we_ixJ (P := fun v => 0 ≤ v ∧ v < n) (we_lst (wa_cons (we_ix (we_ixA ps prD (we_var (i := 2) rfl (.inl rfl) rfl (we_call D_draw (Nat.le_of_ble_eq_true rfl) rfl (wa_cons (we_var (i := 0) rfl (.inl rfl) rfl (wa_cons (we_len rfl (by walk_at "s_mg") (we_var (i := 2) rfl (.inl rfl) rfl (⟨_, .inl .self, wa_nil ((callDraw (kept := []) hB0 (by omega) (by walk_at "s_sm") (by first | omega | (have eyl := congrArg List.length ey; simp only [List.length_append, List.length_cons, List.length_range, List.length_map] at *; omega)) fun r1 M1 hr1 hs1 hB1 => ⟨_, .inl rfl, rfl, by simp only [List.length_map] at *; omega, fun z902 hzz902 hgz902 => we_int (⟨_, _, _, .inl rfl, rfl, by walk_at "s_at", wa_cons (we_call D_draw (Nat.le_of_ble_eq_true rfl) rfl (wa_cons (we_var (i := 0) rfl (.inl rfl) rfl (wa_cons (we_var (i := 1) rfl (.inl rfl) rfl (wa_nil ((callDraw (kept := []) hB1 (by omega) (by walk_at "s_sm") (by first | omega | (have eyl := congrArg List.length ey; simp only [List.length_append, List.length_cons, List.length_range, List.length_map] at *; omega)) fun r2 M2 hr2 hs2 hB2 => wa_nil (⟨Nat.le_of_ble_eq_true rfl, we_call D_draw (Nat.le_of_ble_eq_true rfl) rfl (wa_cons (we_var (i := 0) rfl (.inl rfl) rfl (wa_cons (we_int (wa_nil ((callDraw (kept := []) hB2 (by omega) (by walk_at "s_sm") (by first | omega | (have eyl := congrArg List.length ey; simp only [List.length_append, List.length_cons, List.length_range, List.length_map] at *; omega)) fun r3 M3 hr3 hs3 hB3 => ⟨[_, _], _, rfl, rfl, by simp only [List.length_cons, List.length_nil]; omega, by walk_at "s_mem", fun v901 hv901 => ?_⟩)))))))⟩)))))))))⟩)⟩))⟩))))))))))))))
  refine wss_cons (ws_asg (i := 4) rfl (.inl rfl) (we_ixJ (P := fun v => 0 ≤ v ∧ v ≤ n + 3) (we_lst (wa_cons (we_int (wa_cons (we_call D_draw (Nat.le_of_ble_eq_true rfl) rfl (wa_cons (we_var (i := 0) rfl (.inl rfl) rfl (wa_cons (we_int (wa_nil ((callDraw (kept := []) hB3 (by omega) (by walk_at "s_sm") (by first | omega | (have eyl := congrArg List.length ey; simp only [List.length_append, List.length_cons, List.length_range, List.length_map] at *; omega)) fun r4 M4 hr4 hs4 hB4 => wa_cons (we_call D_draw (Nat.le_of_ble_eq_true rfl) rfl (wa_cons (we_var (i := 0) rfl (.inl rfl) rfl (wa_cons (we_add (we_var (i := 1) rfl (.inl rfl) rfl (we_int (⟨_, _, rfl, rfl, wa_nil ((callDraw (kept := []) hB4 (by omega) (by walk_at "s_sm") (by first | omega | (have eyl := congrArg List.length ey; simp only [List.length_append, List.length_cons, List.length_range, List.length_map] at *; omega)) fun r5 M5 hr5 hs5 hB5 => wa_nil (⟨Nat.le_of_ble_eq_true rfl, we_call D_draw (Nat.le_of_ble_eq_true rfl) rfl (wa_cons (we_var (i := 0) rfl (.inl rfl) rfl (wa_cons (we_int (wa_nil ((callDraw (kept := []) hB5 (by omega) (by walk_at "s_sm") (by first | omega | (have eyl := congrArg List.length ey; simp only [List.length_append, List.length_cons, List.length_range, List.length_map] at *; omega)) fun r6 M6 hr6 hs6 hB6 => ⟨[_, _, _], _, rfl, rfl, by simp only [List.length_cons, List.length_nil]; omega, by walk_at "s_mem", fun v903 hv903 => ?_⟩)))))))⟩)))⟩))))))))))))))))))))))
  refine wss_cons (ws_asgG (we_ixA ([("at", 0), ("from", -1), ("upto", 1)] : List (Str × Int)) (fun z => D.tup [.str z.1, .int z.2]) (we_lst (wa_cons (we_tup (wa_cons (we_str (wa_cons (we_int (wa_nil (⟨Nat.le_of_ble_eq_true rfl, wa_cons (we_tup (wa_cons (we_str (wa_cons (we_neg (we_int (⟨_, rfl, wa_nil (⟨Nat.le_of_ble_eq_true rfl, wa_cons (we_tup (wa_cons (we_str (wa_cons (we_int (wa_nil (⟨Nat.le_of_ble_eq_true rfl, wa_nil (⟨Nat.le_of_ble_eq_true rfl, we_call D_draw (Nat.le_of_ble_eq_true rfl) rfl (wa_cons (we_var (i := 0) rfl (.inl rfl) rfl (wa_cons (we_int (wa_nil ((callDraw (kept := []) hB6 (by omega) (by walk_at "s_sm") (by first | omega | (have eyl := congrArg List.length ey; simp only [List.length_append, List.length_cons, List.length_range, List.length_map] at *; omega)) fun r7 M7 hr7 hs7 hB7 => ⟨_, .inl rfl, rfl, by simp only [List.length_cons, List.length_nil]; omega, fun z904 hzz904 hgz904 => wg_tup rfl (wgs_cons (wg_name (i := 5) rfl (.inl rfl) (wgs_cons (wg_name (i := 6) rfl (.inl rfl) (wgs_nil (?_))))))⟩)))))))⟩)⟩)))))))⟩)⟩)))))))⟩)))))))))))
  have hzz904 : z904 = (("at" : Str), (0 : Int)) ∨ z904 = (("from" : Str), (-1 : Int)) ∨ z904 = (("upto" : Str), (1 : Int)) := by simpa using hzz904
  clear hgz904
  have w1 : isWord z904.1 := by rcases hzz904 with rfl | rfl | rfl <;> simp [isWord]
  have w2 : -1 ≤ z904.2 ∧ z904.2 ≤ 1 := by rcases hzz904 with rfl | rfl | rfl <;> simp
  have w3 : nsP (z904.1, (0 : Int), (0 : Int)) = true → z904.2 ≤ 0 := by rcases hzz904 with rfl | rfl | rfl <;> simp [nsP, eqv_str]
  have w4 : nbP (z904.1, (0 : Int), (0 : Int)) = true → 0 ≤ z904.2 := by rcases hzz904 with rfl | rfl | rfl <;> simp [nbP, eqv_str]
  clear hzz904
  refine wss_cons (ws_asg (i := 7) rfl (.inl rfl) (we_lst (wa_cons (we_int (wa_cons (we_sub (we_call D_draw (Nat.le_of_ble_eq_true rfl) rfl (wa_cons (we_var (i := 0) rfl (.inl rfl) rfl (wa_cons (we_int (wa_nil ((callDraw (kept := []) hB7 (by omega) (by walk_at "s_sm") (by first | omega | (have eyl := congrArg List.length ey; simp only [List.length_append, List.length_cons, List.length_range, List.length_map] at *; omega)) fun r8 M8 hr8 hs8 hB8 => we_int (⟨_, _, rfl, rfl, wa_cons (we_div (we_call D_great (Nat.le_of_ble_eq_true rfl) rfl (wa_cons (we_var (i := 0) rfl (.inl rfl) rfl (wa_nil ((callGreat (kept := []) hB8 (by first | omega | (have eyl := congrArg List.length ey; simp only [List.length_append, List.length_cons, List.length_range, List.length_map] at *; omega)) fun r9 M9 hr9 hs9 hB9 => we_powK (v := 10000000000000000000000000000000) ⟨by decide, by decide, by decide⟩ (by decide +kernel) (⟨_, _, rfl, rfl, (by walk_at "s_div"), wa_nil (⟨Nat.le_of_ble_eq_true rfl, ?_⟩)⟩))))))))⟩)))))))))))))))
  refine wss_cons (ws_asg (i := 7) rfl (.inl rfl) (we_mul (we_ixJ (P := fun v => -2 ≤ v ∧ v < 10000000000000000000000000000) (we_var (i := 7) rfl (.inl rfl) rfl (we_ixJ (P := fun v => 0 ≤ v ∧ v ≤ 2) (we_lst (wa_cons (we_int (wa_cons (we_int (wa_cons (we_int (wa_cons (we_int (wa_cons (we_int (wa_nil (⟨Nat.le_of_ble_eq_true rfl, we_call D_draw (Nat.le_of_ble_eq_true rfl) rfl (wa_cons (we_var (i := 0) rfl (.inl rfl) rfl (wa_cons (we_int (wa_nil ((callDraw (kept := []) hB9 (by omega) (by walk_at "s_sm") (by first | omega | (have eyl := congrArg List.length ey; simp only [List.length_append, List.length_cons, List.length_range, List.length_map] at *; omega)) fun r10 M10 hr10 hs10 hB10 => ⟨[_, _, _, _, _], _, rfl, rfl, by simp only [List.length_cons, List.length_nil]; omega, by walk_at "s_mem", fun v906 hv906 => ⟨[_, _, _], _, rfl, rfl, by simp only [List.length_cons, List.length_nil]; omega, by walk_at "s_mem", fun v905 hv905 => we_var (i := 1) rfl (.inl rfl) rfl (⟨_, _, rfl, rfl, (by walk_at "s_mul"), ?_⟩)⟩⟩)))))))⟩))))))))))))))))))
  refine wss_cons (ws_ret (we_tup (wa_cons (we_var (i := 5) rfl (.inl rfl) rfl (wa_cons (we_add (we_var (i := 3) rfl (.inl rfl) rfl (we_var (i := 7) rfl (.inl rfl) rfl (⟨_, _, rfl, rfl, wa_cons (we_add (we_add (we_call D_lead (Nat.le_of_ble_eq_true rfl) rfl (wa_cons (we_var (i := 1) rfl (.inl rfl) rfl (wa_cons (we_var (i := 2) rfl (.inl rfl) rfl (wa_cons (we_var (i := 3) rfl (.inl rfl) rfl (wa_nil ((callLead rfl hn hg (by simp only [Bg, Bs] at *; omega) hbp hne hl (we_mul (we_var (i := 6) rfl (.inl rfl) rfl (we_var (i := 4) rfl (.inl rfl) rfl (⟨_, _, rfl, rfl, (by walk_at "s_mul"), ⟨_, _, rfl, rfl, we_var (i := 7) rfl (.inl rfl) rfl (⟨_, _, rfl, rfl, wa_nil (⟨Nat.le_of_ble_eq_true rfl, ?_⟩)⟩)⟩⟩))))))))))))))))⟩)))))))))
  have hF := leadF_hand hn hne
  have b1 := (leadF_ok hne v901 (n := n)).1
  obtain ⟨p, hp, e⟩ := b1
  have b2 := bound_lead (x := v901) (p := p) hn
  have b3 := hst.at_ p hp
  have b4 := hst.to p hp
  have b5 := mulB (a := v905) (b := n) (A := 10000000000000000000000000000) (B := 10000000000000000000000000000000) (by omega) (by omega)
  have b6 := mulB (a := z904.2) (b := v903) (A := 1) (B := 10000000000000000000000000000010) (by omega) (by omega)
  have b7 := hF.turn v901 v905
  refine q (z904.1, v901 + v905 * n, leadF n ps v901 + z904.2 * v903 + v905 * n) _ ⟨⟨fun h => ?_, fun h => ?_⟩, w1, ?_, ?_⟩ (IsTray.mono ‹IsTray _ _ M10› (by omega))
  · show leadF n ps v901 + z904.2 * v903 + v905 * n ≤ leadF n ps (v901 + v905 * n)
    have := Int.mul_nonpos_of_nonpos_of_nonneg (w3 h) hv903.1
    rw [b7]
    omega
  · show leadF n ps (v901 + v905 * n) ≤ leadF n ps v901 + z904.2 * v903 + v905 * n
    have := Int.mul_nonneg (w4 h) hv903.1
    rw [b7]
    omega
  · show Bt (v901 + v905 * n)
    simp only [Bt]
    omega
  · show Bt (leadF n ps v901 + z904.2 * v903 + v905 * n)
    simp only [Bt]
    omega
theorem callLook {c : PL.Ctx} {Γ : Gam} {a : Addr} {n T : Int} {ps : List (Int × Int)} {kept M : Cells} {Q : D → Cells → Prop} (hB : IsTray T a M) (hT : 0 ≤ T ∧ T < 700000000) (hn : 0 < n ∧ n < 10000000000000000000000000000000) (hst : Steps n ps)
    (h : ∀ l M', TrueT n (leadF n ps) l → IsTray (T + 40) a M' → Q (lkD l) (kept ++ M')) : Callee c pfLook Γ [.ptr a, .int n, .lst (ps.map prD)] (kept ++ M) Q :=
  ⟨kept, M, rfl, fun R Z hR _ => ⟨a, n, T, ps, rfl, hB, hT, hn, hst, fun l M' h1 h2 => hR _ _ (h l M' h1 h2)⟩⟩
end

/-! ### looks of any kind, looks that clash -/
abbrev s_apart : Stmt := topS 29
theorem sc_apart : FnScope ["size", "one", "other", "under", "above"] ["size", "one", "other"] (defScope s_apart) := ⟨rfl, rfl, rfl, by decide +kernel, rfl, by decide +kernel, by decide +kernel⟩
abbrev s_any : Stmt := topS 30
theorem sc_any : FnScope ["tray", "size", "said", "spot", "off"] ["tray", "size"] (defScope s_any) := ⟨rfl, rfl, rfl, by decide +kernel, rfl, by decide +kernel, by decide +kernel⟩

section
variable {P : Program} {w : World} {K : PySem.W.Frag} {mg : Str → Option Value} {base : Heap} {C : Addr}
structure AnyB (n : Int) (l : Look) : Prop where
  word : isWord l.1
  x : -n ≤ l.2.1 ∧ l.2.1 < 2 * n
  y : -(3 * n) ≤ l.2.2 ∧ l.2.2 ≤ 4 * n
def pfApart : PF := fun ds M R _ => ∃ (n : Int) (a b : Look), ds = [.int n, lkD a, lkD b] ∧ 0 < n ∧ Bg n ∧ BgL a ∧ BgL b ∧ R (.bl (apart n a b)) M
theorem ok_apart {f fd k} (F : Fun K "_law_apart" "_law_apart" s_apart f fd) : FnOk P w K mg base (L2.CX P w) (k + 1) f fd ["size", "one", "other"] (liftF K pfApart) := by
  refine fn_mk F sc_apart (fun ds M R Z ⟨n, a, b, e, _⟩ => by subst e; rfl) ?_
  rintro ds M R Z ⟨n, a, b, rfl, hn, hg, ha, hb, q⟩
  refine wss_cons (ws_forL [(a, b), (b, a)] (fun z => .tup [lkD z.1, lkD z.2]) (fun pre Γ1 M1 => ∃ c3 c4 : Option D, Γ1 = [some (.int n), some (lkD a), some (lkD b), c3, c4] ∧ M1 = M ∧ ∀ z ∈ pre, aprt1 n z.1 z.2 = false)
    (we_lst (wa_cons (we_tup (wa_cons (we_var (i := 1) rfl (.inl rfl) rfl (wa_cons (we_var (i := 2) rfl (.inl rfl) rfl (wa_nil (⟨Nat.le_of_ble_eq_true rfl, wa_cons (we_tup (wa_cons (we_var (i := 2) rfl (.inl rfl) rfl (wa_cons (we_var (i := 1) rfl (.inl rfl) rfl (wa_nil (⟨Nat.le_of_ble_eq_true rfl, wa_nil (⟨Nat.le_of_ble_eq_true rfl, ?_⟩)⟩)))))))⟩))))))))))
  refine ⟨rfl, ⟨_, _, rfl, rfl, fun z hz => by cases hz⟩, ?_, ?_⟩
  · rintro pre ⟨s, t⟩ post Γ2 M2 e ⟨c3, c4, rfl, rfl, hp⟩
    have hm : (s, t) ∈ [(a, b), (b, a)] := by rw [e]; simp
    have hst : BgL s ∧ BgL t := by
      simp only [List.mem_cons, List.not_mem_nil, or_false, Prod.mk.injEq] at hm
      rcases hm with ⟨rfl, rfl⟩ | ⟨rfl, rfl⟩
      · exact ⟨ha, hb⟩
      · exact ⟨hb, ha⟩
    obtain ⟨⟨h1, h2⟩, h3, h4⟩ := hst
    have fin : aprt1 n s t = false → ∃ c3 c4 : Option D, [some (.int n), some (lkD a), some (lkD b), some (lkD s), some (lkD t)] = [some (.int n), some (lkD a), some (lkD b), c3, c4] ∧ M2 = M2 ∧ ∀ z ∈ pre ++ [(s, t)], aprt1 n z.1 z.2 = false := fun h =>
      ⟨_, _, rfl, rfl, fun z hz => by
        rcases List.mem_append.mp hz with hz | hz
        · exact hp z hz
        · rw [List.mem_singleton.mp hz]; exact h⟩
    refine wg_tup rfl (wgs_cons (wg_name (i := 3) rfl (.inl rfl) (wgs_cons (wg_name (i := 4) rfl (.inl rfl) (wgs_nil (?_))))))
    refine wss_cons (ws_if (wt_ww (ww_and (wt_ne (we_ix (we_var (i := 3) rfl (.inl rfl) rfl (we_int (⟨_, _, _, .inl rfl, rfl, by walk_at "s_at", we_str (⟨_, _, .self, .self, by walk_at "s_okd", by walk_at "s_okd", br_nk (fun h158b => ww_and1 (wt_ne (we_ix (we_var (i := 4) rfl (.inl rfl) rfl (we_int (⟨_, _, _, .inl rfl, rfl, by walk_at "s_at", we_str (⟨_, _, .self, .self, by walk_at "s_okd", by walk_at "s_okd", br_nk (fun h158 => ?_) (fun h158 => ?_)⟩)⟩)))))) (fun h158b => br_f (?_))⟩)⟩))))))))
    · refine wss_cons (ws_if (wt_gt (we_add (we_ix (we_var (i := 3) rfl (.inl rfl) rfl (we_int (⟨_, _, _, .inl rfl, rfl, by walk_at "s_at", we_mul (we_div (we_sub (we_ix (we_var (i := 4) rfl (.inl rfl) rfl (we_int (⟨_, _, _, .inl rfl, rfl, by walk_at "s_at", we_ix (we_var (i := 3) rfl (.inl rfl) rfl (we_int (⟨_, _, _, .inl rfl, rfl, by walk_at "s_at", ⟨_, _, rfl, rfl, we_var (i := 0) rfl (.inl rfl) rfl (⟨_, _, rfl, rfl, (by walk_at "s_div"), we_var (i := 0) rfl (.inl rfl) rfl (⟨_, _, rfl, rfl, (by walk_at "s_mul"), ⟨_, _, rfl, rfl, we_ix (we_var (i := 4) rfl (.inl rfl) rfl (we_int (⟨_, _, _, .inl rfl, rfl, by walk_at "s_at", ⟨_, _, rfl, rfl, br_dec (fun h159 => ?_) (fun h159 => ?_)⟩⟩)))⟩⟩)⟩)⟩⟩)))⟩))))))⟩)))))))
      · refine wss_cons (ws_ret (we_bl (?_)))
        have h : aprt1 n s t = true := by
          unfold aprt1 nsP nbP
          rw [h158b, h158]
          exact decide_eq_true h159
        have : apart n a b = true := by
          simp only [List.mem_cons, List.not_mem_nil, or_false, Prod.mk.injEq] at hm
          unfold apart
          rcases hm with ⟨rfl, rfl⟩ | ⟨rfl, rfl⟩
          · rw [h]; rfl
          · rw [h, Bool.or_true]
        rw [this] at q
        exact q
      · refine wss_nil (wss_nil (wss_nil (fin ?_)))
        unfold aprt1 nsP nbP
        rw [h158b, h158]
        exact decide_eq_false h159
    · refine wss_nil (wss_nil (fin ?_))
      unfold aprt1 nsP nbP
      rw [h158b, h158]
      rfl
    · refine wss_nil (wss_nil (fin ?_))
      unfold aprt1 nsP
      rw [h158b]
      rfl
  · rintro Γ2 M2 ⟨c3, c4, rfl, rfl, hp⟩
    refine wss_cons (ws_ret (we_bl (?_)))
    have e : apart n a b = false := by
      unfold apart
      rw [hp (a, b) (by simp), hp (b, a) (by simp)]
      rfl
    rw [e] at q
    exact q
def pfAny : PF := fun ds M R _ => ∃ (a : Addr) (n T : Int), ds = [.ptr a, .int n] ∧ IsTray T a M ∧ (0 ≤ T ∧ T < 600000000) ∧ (0 < n ∧ n < 10000000000000000000000000000000) ∧ ∀ l M', AnyB n l → IsTray (T + 10) a M' → R (lkD l) M'
theorem ok_any {f fd f1 fd1} (F : Fun K "_law_any_look" "_law_any_look" s_any f fd) (D_draw : Def P w K mg base "_law_draw" f1 fd1 ["tray", "many"] 1 pfDraw) : FnOk P w K mg base (L2.CX P w) 2 f fd ["tray", "size"] (liftF K pfAny) := by
  refine fn_mk F sc_any (fun ds M R Z ⟨a, n, T, e, _⟩ => by subst e; rfl) ?_
  rintro ds M R Z ⟨a, n, T, rfl, hB0, hT, hn, q⟩
  refine wss_cons (ws_asg (i := 2) rfl (.inl rfl) (we_ixA (["at", "from", "upto"] : List Str) D.str (we_lst (wa_cons (we_str (wa_cons (we_str (wa_cons (we_str (wa_nil (⟨Nat.le_of_ble_eq_true rfl, we_call D_draw (Nat.le_of_ble_eq_true rfl) rfl (wa_cons (we_var (i := 0) rfl (.inl rfl) rfl (wa_cons (we_int (wa_nil ((callDraw (kept := []) hB0 (by omega) (by walk_at "s_sm") (by first | omega | (have eyl := congrArg List.length ey; simp only [List.length_append, List.length_cons, List.length_range, List.length_map] at *; omega)) fun r1 M1 hr1 hs1 hB1 => ⟨_, .inl rfl, rfl, by simp only [List.length_cons, List.length_nil]; omega, fun z901 hzz901 hgz901 => ?_⟩)))))))⟩)))))))))))
  refine wss_cons (ws_asg (i := 3) rfl (.inl rfl) (we_sub (we_call D_draw (Nat.le_of_ble_eq_true rfl) rfl (wa_cons (we_var (i := 0) rfl (.inl rfl) rfl (wa_cons (we_mul (we_int (we_var (i := 1) rfl (.inl rfl) rfl (⟨_, _, rfl, rfl, (by walk_at "s_mul"), wa_nil ((callDraw (kept := []) hB1 (by omega) (by walk_at "s_sm") (by first | omega | (have eyl := congrArg List.length ey; simp only [List.length_append, List.length_cons, List.length_range, List.length_map] at *; omega)) fun r2 M2 hr2 hs2 hB2 => we_var (i := 1) rfl (.inl rfl) rfl (⟨_, _, rfl, rfl, ?_⟩)))⟩))))))))))
  refine wss_cons (ws_asg (i := 4) rfl (.inl rfl) (we_ixJ (P := fun v => -(2 * n) ≤ v ∧ v ≤ 2 * n) (we_lst (wa_cons (we_int (wa_cons (we_sub (we_call D_draw (Nat.le_of_ble_eq_true rfl) rfl (wa_cons (we_var (i := 0) rfl (.inl rfl) rfl (wa_cons (we_int (wa_nil ((callDraw (kept := []) hB2 (by omega) (by walk_at "s_sm") (by first | omega | (have eyl := congrArg List.length ey; simp only [List.length_append, List.length_cons, List.length_range, List.length_map] at *; omega)) fun r3 M3 hr3 hs3 hB3 => we_int (⟨_, _, rfl, rfl, wa_cons (we_sub (we_call D_draw (Nat.le_of_ble_eq_true rfl) rfl (wa_cons (we_var (i := 0) rfl (.inl rfl) rfl (wa_cons (we_mul (we_int (we_var (i := 1) rfl (.inl rfl) rfl (⟨_, _, rfl, rfl, (by walk_at "s_mul"), wa_nil ((callDraw (kept := []) hB3 (by omega) (by walk_at "s_sm") (by first | omega | (have eyl := congrArg List.length ey; simp only [List.length_append, List.length_cons, List.length_range, List.length_map] at *; omega)) fun r4 M4 hr4 hs4 hB4 => we_mul (we_int (we_var (i := 1) rfl (.inl rfl) rfl (⟨_, _, rfl, rfl, (by walk_at "s_mul"), ⟨_, _, rfl, rfl, wa_nil (⟨Nat.le_of_ble_eq_true rfl, we_call D_draw (Nat.le_of_ble_eq_true rfl) rfl (wa_cons (we_var (i := 0) rfl (.inl rfl) rfl (wa_cons (we_int (wa_nil ((callDraw (kept := []) hB4 (by omega) (by walk_at "s_sm") (by first | omega | (have eyl := congrArg List.length ey; simp only [List.length_append, List.length_cons, List.length_range, List.length_map] at *; omega)) fun r5 M5 hr5 hs5 hB5 => ⟨[_, _, _], _, rfl, rfl, by simp only [List.length_cons, List.length_nil]; omega, by walk_at "s_mem", fun v902 hv902 => ?_⟩)))))))⟩)⟩⟩)))))⟩)))))))))⟩))))))))))))))))
  refine wss_cons (ws_ret (we_tup (wa_cons (we_var (i := 2) rfl (.inl rfl) rfl (wa_cons (we_var (i := 3) rfl (.inl rfl) rfl (wa_cons (we_add (we_var (i := 3) rfl (.inl rfl) rfl (we_var (i := 4) rfl (.inl rfl) rfl (⟨_, _, rfl, rfl, wa_nil (⟨Nat.le_of_ble_eq_true rfl, ?_⟩)⟩)))))))))))
  have hw : isWord z901 := by
    simp only [List.mem_cons, List.not_mem_nil, or_false] at hzz901
    exact hzz901
  exact q (z901, r2 - n, r2 - n + v902) _ ⟨hw, by show -n ≤ r2 - n ∧ r2 - n < 2 * n; omega, by show -(3 * n) ≤ r2 - n + v902 ∧ r2 - n + v902 ≤ 4 * n; omega⟩ (IsTray.mono ‹IsTray _ _ M5› (by omega))
end

abbrev s_mixed : Stmt := topS 33
theorem sc_mixed : FnScope ["tray", "things", "left", "k"] ["tray", "things"] (defScope s_mixed) := ⟨rfl, rfl, rfl, by decide +kernel, rfl, by decide +kernel, by decide +kernel⟩

section
variable {P : Program} {w : World} {K : PySem.W.Frag} {mg : Str → Option Value} {base : Heap}
theorem mix_ix {r : Int} {n : Nat} (h : 0 ≤ r ∧ r < n) : seqIndex? r n = some r.toNat := by
  unfold seqIndex?
  simp only [show ¬ r < 0 by omega, if_false]
  simp
  omega
theorem mix_get {rest : List Look} {n : Nat} (h : n < rest.length) : (rest.map lkD)[n]? = some (lkD (rest.getD n ("", 0, 0))) := by
  rw [List.getElem?_map, List.getElem?_eq_getElem h, List.getD_eq_getElem?_getD, List.getElem?_eq_getElem h]
  rfl
theorem mix_erase {rest : List Look} {p : Addr} {M : Cells} : ∀ {n : Nat}, ((p, MO.lst (rest.map lkD)) :: M).set 0 (p, .lst ((rest.map lkD).eraseIdx n)) = (p, .lst ((rest.eraseIdx n).map lkD)) :: M := by
  intro n
  have go : ∀ (rest : List Look) (n : Nat), (rest.map lkD).eraseIdx n = (rest.eraseIdx n).map lkD := by
    intro rest
    induction rest with
    | nil => intro n; rfl
    | cons x rest ih =>
      intro n
      cases n with
      | zero => rfl
      | succ n => exact congrArg _ (ih n)
  rw [go]
  rfl
theorem mix_perm {rest L xs : List Look} {n : Nat} (h : n < rest.length) (p : (L ++ rest).Perm xs) : ((L ++ [rest.getD n ("", 0, 0)]) ++ rest.eraseIdx n).Perm xs := by
  refine List.Perm.trans ?_ p
  rw [List.append_assoc]
  refine List.Perm.append_left L ?_
  have e : rest[n]? = some (rest.getD n ("", 0, 0)) := by rw [List.getD_eq_getElem?_getD, List.getElem?_eq_getElem h]; rfl
  exact (List.perm_append_comm.trans (perm_pick e).symm)
def pfMixed : PF := fun ds M R _ => ∃ (a : Addr) (T : Int) (xs : List Look), ds = [.ptr a, .lst (xs.map lkD)] ∧ IsTray T a M ∧ (0 ≤ T ∧ T < 500000000) ∧ xs.length ≤ 60 ∧ ∀ (ys : List Look) M', ys.Perm xs → IsTray (T + 60) a M' → R (.lst (ys.map lkD)) M'
theorem ok_mixed {f fd f1 fd1} (F : Fun K "_law_mixed" "_law_mixed" s_mixed f fd) (m_range : mg "range" = none) (m_len : mg "len" = none) (m_list : mg "list" = none) (D_draw : Def P w K mg base "_law_draw" f1 fd1 ["tray", "many"] 1 pfDraw) : FnOk P w K mg base (L2.CX P w) 2 f fd ["tray", "things"] (liftF K pfMixed) := by
  refine fn_mk F sc_mixed (fun ds M R Z ⟨a, T, xs, e, _⟩ => by subst e; rfl) ?_
  rintro ds M R Z ⟨a, T, xs, rfl, hB0, hT, hl, q⟩
  refine wss_cons (ws_asg (i := 2) rfl (.inr ⟨rfl, rfl⟩) (we_listOfC rfl (by walk_at "s_mg") (we_var (i := 1) rfl (.inl rfl) rfl (⟨_, .inl .self, fun p901 => ?_⟩))))
  generalize p901 = p at *
  refine wss_cons (ws_ret (we_dropC (we_lcR [("k", 3)] rfl rfl (by walk_at "s_mg") _ (we_len rfl (by walk_at "s_mg") (we_var (i := 2) rfl (.inr (.inl rfl)) rfl (⟨_, .inl (.cell (i := 0) rfl), ⟨_, rfl, by walk_at "s_rg", by walk_at "s_rg", lcq_B lkD (fun pre L M2 => ∃ rest Mt, (L ++ rest).Perm xs ∧ pre.length + rest.length = xs.length ∧ M2 = (p, .lst (rest.map lkD)) :: Mt ∧ IsTray (T + pre.length) a Mt) (by walk_at "s_len") (⟨xs, M, List.Perm.refl _, by simp, rfl, hB0.mono (by simp)⟩) (fun pre y post L M2 ey hlen hI => (by obtain ⟨rest, Mt, hpm, hrl, rfl, hB1⟩ := hI; have eyl := congrArg List.length ey; simp only [List.length_append, List.length_cons, List.length_range, List.length_map, Int.toNat_natCast] at eyl; have hrm : (rest.map lkD).length = rest.length := List.length_map ..; have hpos : 0 < rest.length := (by omega); exact ⟨_, _, .name (i := 3) rfl (.inl rfl), rfl, wis_nil (br_t (we_popAt (we_var (i := 2) rfl (.inr (.inl rfl)) rfl (⟨_, 0, _, rfl, rfl, we_call D_draw (Nat.le_of_ble_eq_true rfl) rfl (wa_cons (we_var (i := 0) rfl (.inr (.inl rfl)) rfl (wa_cons (we_len rfl (by walk_at "s_mg") (we_var (i := 2) rfl (.inr (.inl rfl)) rfl (⟨_, .inl (.cell (i := 0) rfl), wa_nil ((callDraw (kept := [(p, .lst (rest.map lkD))]) hB1 (by omega) (by walk_at "s_sm") (by first | omega | (have eyl := congrArg List.length ey; simp only [List.length_append, List.length_cons, List.length_range, List.length_map] at *; omega)) fun r2 M2 hr2 hs2 hB2 => ⟨0, _, _, r2.toNat, lkD (rest.getD r2.toNat ("", 0, 0)), rfl, rfl, by omega, by omega, mix_ix (by simp only [List.length_map] at *; omega), mix_get (by simp only [List.length_map] at *; omega), ⟨rest.getD r2.toNat ("", 0, 0), rfl, rest.eraseIdx r2.toNat, M2, mix_perm (by simp only [List.length_map] at *; omega) hpm, by rw [List.length_append, List.length_eraseIdx_of_lt (by simp only [List.length_map] at *; omega)]; simp only [List.length_map, List.length_cons, List.length_nil] at *; omega, mix_erase, hB2.mono (by simp only [List.length_append, List.length_cons, List.length_nil]; omega)⟩⟩))⟩))))))⟩))))⟩)) (fun L M3 hal ⟨rest, Mt, hpm, hrl, eM, hBe⟩ => ⟨Mt, (by rw [eM]; exact List.sublist_cons_self _ _), ?_⟩)⟩⟩))))))
  have e : rest = [] := List.length_eq_zero_iff.mp (by simp only [List.length_range, List.length_map, Int.toNat_natCast] at hrl; omega)
  subst e
  rw [List.append_nil] at hpm
  exact q L Mt hpm (hBe.mono (by simp only [List.length_range, List.length_map, Int.toNat_natCast]; omega))
end


abbrev s_spot : Stmt := topS 32
theorem sc_spot : FnScope ["tray", "size", "known", "lot", "spot"] ["tray", "size", "known"] (defScope s_spot) := ⟨rfl, rfl, rfl, by decide +kernel, rfl, by decide +kernel, by decide +kernel⟩

section
variable {P : Program} {w : World} {K : PySem.W.Frag} {mg : Str → Option Value} {base : Heap}
def pfSpot : PF := fun ds M R _ => ∃ (a : Addr) (n T B : Int) (ks : List Look), ds = [.ptr a, .int n, .lst (ks.map lkD)] ∧ IsTray T a M ∧ (0 ≤ T ∧ T < 600000000) ∧ (0 < n ∧ n < 10000000000000000000000000000000) ∧ (100000000000000000000000000000000000000000000000000000000000000 ≤ B ∧ B ≤ 100000000000000000000000000000000000000000000000000000000000000000000000000) ∧ (∀ l ∈ ks, -B < l.2.1 ∧ l.2.1 < B) ∧ ks.length ≤ 60 ∧ ∀ x M', (-(3 * B) < x ∧ x < 3 * B) → IsTray (T + 20) a M' → R (.int x) M'
theorem ok_spot {f fd f1 fd1 f2 fd2} (F : Fun K "_law_spot" "_law_spot" s_spot f fd) (m_len : mg "len" = none) (D_draw : Def P w K mg base "_law_draw" f1 fd1 ["tray", "many"] 1 pfDraw) (D_great : Def P w K mg base "_law_great" f2 fd2 ["tray"] 2 pfGreat) : FnOk P w K mg base (L2.CX P w) 3 f fd ["tray", "size", "known"] (liftF K pfSpot) := by
  refine fn_mk F sc_spot (fun ds M R Z ⟨a, n, T, B, ks, e, _⟩ => by subst e; rfl) ?_
  rintro ds M R Z ⟨a, n, T, B, ks, rfl, hB0, hT, ⟨hn, hn2⟩, hBb, hb, hl, q⟩
  refine wss_cons (ws_asg (i := 3) rfl (.inl rfl) (we_call D_draw (Nat.le_of_ble_eq_true rfl) rfl (wa_cons (we_var (i := 0) rfl (.inl rfl) rfl (wa_cons (we_int (wa_nil ((callDraw (kept := []) hB0 (by omega) (by walk_at "s_sm") (by first | omega | (have eyl := congrArg List.length ey; simp only [List.length_append, List.length_cons, List.length_range, List.length_map] at *; omega)) fun r1 M1 hr1 hs1 hB1 => ?_)))))))))
  refine wss_cons (ws_asg (i := 4) rfl (.inl rfl) (we_call D_draw (Nat.le_of_ble_eq_true rfl) rfl (wa_cons (we_var (i := 0) rfl (.inl rfl) rfl (wa_cons (we_var (i := 1) rfl (.inl rfl) rfl (wa_nil ((callDraw (kept := []) hB1 (by omega) (by walk_at "s_sm") (by first | omega | (have eyl := congrArg List.length ey; simp only [List.length_append, List.length_cons, List.length_range, List.length_map] at *; omega)) fun r2 M2 hr2 hs2 hB2 => ?_)))))))))
  refine wss_cut (fun Γ1 M1 => ∃ (s : Int), Γ1 = [some (.ptr a), some (.int n), some (.lst (ks.map lkD)), some (.int r1), some (.int s)] ∧ (-(2 * B) < s ∧ s < 2 * B) ∧ IsTray (T + 3) a M1) ?_ ?_
  · cases ks with
    | nil =>
      refine ws_if (wt_ww (ww_and (wt_ne (we_var (i := 2) rfl (.inl rfl) rfl (we_lst (wa_nil (⟨Nat.le_of_ble_eq_true rfl, ⟨_, _, .self, .self, by walk_at "s_okd", by walk_at "s_okd", br_nkF (eqv_nil_nil) (br_f (?_))⟩⟩)))))))
      exact wss_nil ⟨r2, rfl, ⟨by omega, by omega⟩, hB2.mono (by omega)⟩
    | cons l ls =>
      have hpl : 0 < (List.map lkD (l :: ls)).length := by simp
      have hpu : (List.map lkD (l :: ls)).length ≤ 60 := by rw [List.length_map]; exact hl
      refine ws_if (wt_ww (ww_and (wt_ne (we_var (i := 2) rfl (.inl rfl) rfl (we_lst (wa_nil (⟨Nat.le_of_ble_eq_true rfl, ⟨_, _, .self, .self, by walk_at "s_okd", by walk_at "s_okd", br_nkT (eqv_nil_cons _ _) (ww_and1 (wt_lt (we_var (i := 3) rfl (.inl rfl) rfl (we_int (⟨_, _, rfl, rfl, br_dec (fun h175 => ?_) (fun h175 => ?_)⟩)))))⟩⟩)))))))
      · refine wss_cons (ws_asg (i := 4) rfl (.inl rfl) (we_add (we_ix (we_ixA (l :: ls) lkD (we_var (i := 2) rfl (.inl rfl) rfl (we_call D_draw (Nat.le_of_ble_eq_true rfl) rfl (wa_cons (we_var (i := 0) rfl (.inl rfl) rfl (wa_cons (we_len rfl (by walk_at "s_mg") (we_var (i := 2) rfl (.inl rfl) rfl (⟨_, .inl .self, wa_nil ((callDraw (kept := []) hB2 (by omega) (by walk_at "s_sm") (by first | omega | (have eyl := congrArg List.length ey; simp only [List.length_append, List.length_cons, List.length_range, List.length_map] at *; omega)) fun r3 M3 hr3 hs3 hB3 => ⟨_, .inl rfl, rfl, by simp only [List.length_map] at *; omega, fun z901 hzz901 hgz901 => we_int (⟨_, _, _, .inl rfl, rfl, by walk_at "s_at", we_ixJ (P := fun v => -1 ≤ v ∧ v ≤ 1) (we_lst (wa_cons (we_int (wa_cons (we_int (wa_cons (we_neg (we_int (⟨_, rfl, wa_nil (⟨Nat.le_of_ble_eq_true rfl, we_var (i := 3) rfl (.inl rfl) rfl (⟨[_, _, _], _, rfl, rfl, by simp only [List.length_cons, List.length_nil]; omega, by walk_at "s_mem", fun v902 hv902 => ⟨_, _, rfl, rfl, ?_⟩⟩)⟩)⟩)))))))))⟩)⟩))⟩))))))))))))
        have hz := hb _ hzz901
        exact wss_nil ⟨_, rfl, ⟨by omega, by omega⟩, hB3.mono (by omega)⟩
      · exact wss_nil ⟨r2, rfl, ⟨by omega, by omega⟩, hB2.mono (by omega)⟩
  · rintro Γ1 M1 ⟨s, rfl, hs, hB3⟩
    refine wss_cons (ws_ret (we_add (we_var (i := 4) rfl (.inl rfl) rfl (we_mul (we_ixJ (P := fun v => -2 ≤ v ∧ v < 10000000000000000000000000000) (we_lst (wa_cons (we_int (wa_cons (we_sub (we_call D_draw (Nat.le_of_ble_eq_true rfl) rfl (wa_cons (we_var (i := 0) rfl (.inl rfl) rfl (wa_cons (we_int (wa_nil ((callDraw (kept := []) hB3 (by omega) (by walk_at "s_sm") (by first | omega | (have eyl := congrArg List.length ey; simp only [List.length_append, List.length_cons, List.length_range, List.length_map] at *; omega)) fun r4 M4 hr4 hs4 hB4 => we_int (⟨_, _, rfl, rfl, wa_cons (we_div (we_call D_great (Nat.le_of_ble_eq_true rfl) rfl (wa_cons (we_var (i := 0) rfl (.inl rfl) rfl (wa_nil ((callGreat (kept := []) hB4 (by first | omega | (have eyl := congrArg List.length ey; simp only [List.length_append, List.length_cons, List.length_range, List.length_map] at *; omega)) fun r5 M5 hr5 hs5 hB5 => we_powK (v := 10000000000000000000000000000000) ⟨by decide, by decide, by decide⟩ (by decide +kernel) (⟨_, _, rfl, rfl, (by walk_at "s_div"), wa_nil (⟨Nat.le_of_ble_eq_true rfl, we_call D_draw (Nat.le_of_ble_eq_true rfl) rfl (wa_cons (we_var (i := 0) rfl (.inl rfl) rfl (wa_cons (we_int (wa_nil ((callDraw (kept := []) hB5 (by omega) (by walk_at "s_sm") (by first | omega | (have eyl := congrArg List.length ey; simp only [List.length_append, List.length_cons, List.length_range, List.length_map] at *; omega)) fun r6 M6 hr6 hs6 hB6 => ⟨[_, _, _], _, rfl, rfl, by simp only [List.length_cons, List.length_nil]; omega, by walk_at "s_mem", fun v921 hv921 => we_var (i := 1) rfl (.inl rfl) rfl (⟨_, _, rfl, rfl, (by walk_at "s_mul"), ⟨_, _, rfl, rfl, ?_⟩⟩)⟩)))))))⟩)⟩))))))))⟩)))))))))))))))))))
    have b5 := mulB (a := v921) (b := n) (A := 10000000000000000000000000000) (B := 10000000000000000000000000000000) (by omega) (by omega)
    exact q _ _ ⟨by omega, by omega⟩ (IsTray.mono ‹IsTray _ _ M6› (by omega))
end



abbrev s_eqm : Stmt := inClass (topS 19) 1
theorem sc_eqm : FnScope ["self", "other"] ["self", "other"] (defScope s_eqm) := ⟨rfl, rfl, rfl, by decide +kernel, rfl, by decide +kernel, by decide +kernel⟩
abbrev s_length : Stmt := inClass (topS 19) 2
theorem sc_length : FnScope ["self"] ["self"] (defScope s_length) := ⟨rfl, rfl, rfl, by decide +kernel, rfl, by decide +kernel, by decide +kernel⟩
abbrev s_drop : Stmt := inClass (topS 19) 8
theorem sc_drop : FnScope ["self", "word", "x", "y", "look", "one"] ["self", "word", "x", "y"] (defScope s_drop) := ⟨rfl, rfl, rfl, by decide +kernel, rfl, by decide +kernel, by decide +kernel⟩
abbrev s_xNoLook : Stmt := inClass (topS 6) 0
theorem sc_xNoLook : FnScope ["self", "what"] ["self", "what"] (defScope s_xNoLook) := ⟨rfl, rfl, rfl, by decide +kernel, rfl, by decide +kernel, by decide +kernel⟩

section
variable {P : Program} {w : World} {K : PySem.W.Frag} {mg : Str → Option Value} {base : Heap} {C CN : Addr}
def pfLength (C : Addr) : PF := fun ds M R _ => ∃ (d : D) (n : Int) (L : List Look), ds = [d] ∧ ObjAt M d C (dkF n L) ∧ R (.int n) M
theorem ok_length {f fd k} (F : Fun K "length" "Dark.length" s_length f fd) (T : Cls K C) (NT : NoAttr K C "turn") : FnOk P w K mg base (L2.CX P w) (k + 1) f fd ["self"] (liftF K (pfLength C)) := by
  refine fn_mk F sc_length (fun ds M R Z ⟨d, n, L, e, _⟩ => by subst e; rfl) ?_
  rintro ds M R Z ⟨d, n, L, rfl, ho, q⟩
  refine wss_cons (ws_ret (we_fld (we_var (i := 0) rfl (.inl rfl) rfl (⟨_, _, _, ho, T, NT, rfl, ?_⟩))))
  exact q
def pfEq (C : Addr) : PF := fun ds M R _ => ∃ (d e : D) (n n' : Int) (L L' : List Look), ds = [d, e] ∧ ObjAt M d C (dkF n L) ∧ ObjAt M e C (dkF n' L') ∧ L.length < 1000000 ∧ L'.length < 1000000 ∧ (n = n' ∧ L = L' → R (.bl true) M) ∧ (¬ (n = n' ∧ L = L') → R (.bl false) M)
theorem ok_eqm {f fd k} (F : Fun K "__eq__" "Dark.__eq__" s_eqm f fd) (T : Cls K C) (NT : NoAttr K C "turn") (NH : NoAttr K C "heard") (m_isinstance : mg "isinstance" = none) (mgC : mg "Dark" = some (.ref C)) (IC : C8.InsC K C) : FnOk P w K mg base (L2.CX P w) (k + 1) f fd ["self", "other"] (liftF K (pfEq C)) := by
  refine fn_mk F sc_eqm (fun ds M R Z ⟨d, e, n, n', L, L', h, _⟩ => by subst h; rfl) ?_
  rintro ds M R Z ⟨d, e, n, n', L, L', rfl, ho, ho2, hl, hl2, q, q2⟩
  refine wss_cons (ws_ret (we_and (we_isiO rfl (by walk_at "s_mg") rfl mgC IC (we_var (i := 1) rfl (.inl rfl) rfl (⟨_, ho2, ⟨_, rfl, br_t (we_and (we_eq (we_fld (we_var (i := 0) rfl (.inl rfl) rfl (⟨_, _, _, ho, T, NT, rfl, we_fld (we_var (i := 1) rfl (.inl rfl) rfl (⟨_, _, _, ho2, T, NT, rfl, ⟨_, _, .self, .self, by walk_at "s_okd", by walk_at "s_okd", ⟨_, rfl, ⟨fun h53 => we_one (we_eq (we_fld (we_var (i := 0) rfl (.inl rfl) rfl (⟨_, _, _, ho, T, NH, rfl, we_fld (we_var (i := 1) rfl (.inl rfl) rfl (⟨_, _, _, ho2, T, NH, rfl, ⟨_, _, .self, .self, by walk_at "s_okd", by walk_at "s_okd", ?_⟩⟩))⟩)))), fun h53 => ?_⟩⟩⟩⟩))⟩)))))⟩⟩)))))
  · rw [eqv_int, decide_eq_true_eq] at h53
    subst h53
    rw [eqv_lks2]
    by_cases h : L = L'
    · rw [decide_eq_true h]
      exact q ⟨rfl, h⟩
    · rw [decide_eq_false h]
      exact q2 fun z => h z.2
  · rw [eqv_int, decide_eq_false_iff_not] at h53
    exact q2 fun h => h53 h.1
/-- what a drop leaves -/
def dropL (n : Int) (L : List Look) (l : Look) : List Look := L.filter fun z => !(lkD z).eqv (lkD (home n l))
theorem mem_dropL {n : Int} {L : List Look} {l z : Look} : z ∈ dropL n L l ↔ z ∈ L ∧ z ≠ home n l := by
  unfold dropL
  rw [List.mem_filter, eqv_lk]
  simp
/-- what is left behind drops -/
def remL (L pre : List Look) : List Look := L.filter fun z => decide (z ∉ pre)
theorem rem_nil (L : List Look) : remL L [] = L := List.filter_eq_self.mpr fun z _ => by simp
theorem rem_all (L : List Look) : remL L L = [] := List.filter_eq_nil_iff.mpr fun z hz => by simp [hz]
theorem rem_step {n : Int} {L pre post : List Look} {z : Look} (e : L = pre ++ z :: post) (nd : L.Nodup) (hz : home n z = z) : home n z ∈ remL L pre ∧ dropL n (remL L pre) z = remL L (pre ++ [z]) := by
  rw [hz]
  constructor
  · refine List.mem_filter.mpr ⟨by rw [e]; simp, ?_⟩
    rw [e, List.nodup_append] at nd
    exact decide_eq_true fun h => nd.2.2 z h z List.mem_cons_self rfl
  · unfold dropL remL
    rw [List.filter_filter]
    refine List.filter_congr fun y _ => ?_
    rw [eqv_lk, hz]
    simp [List.mem_append]
    by_cases h1 : y ∈ pre <;> by_cases h2 : y = z <;> simp [h1, h2]
theorem home_home {n : Int} (hn : 0 < n) (l : Look) : home n (home n l) = home n l := home_turn hn l.1 l.2.1 l.2.2 (l.2.1 / n)
def pfDrop (C CN : Addr) : PF := fun ds M R Z => ∃ (p : Addr) (n : Int) (L : List Look) (l : Look), ds = [.ptr p, .str l.1, .int l.2.1, .int l.2.2] ∧ M = darkM p C n L ∧ 0 < n ∧ Bs n ∧ isWord l.1 ∧ BsL l ∧ L.length < 1000000 ∧ (home n l ∉ L → Z CN (lkD (home n l)) M) ∧ (home n l ∈ L → R .non (darkM p C n (dropL n L l)))
theorem ok_drop {f fd f1 fd1} (F : Fun K "drop" "Dark.drop" s_drop f fd) (T : Cls K C) (NH : NoAttr K C "heard") (X_NoLook : XDef P w K mg base "NoLook" CN)
    (D_home : MDef P w K mg base C "home" f1 fd1 ["self", "word", "x", "y"] 2 (pfHome C)) : FnOk P w K mg base (L2.CX P w) 3 f fd ["self", "word", "x", "y"] (liftF K (pfDrop C CN)) := by
  refine fn_mk F sc_drop (fun ds M R Z ⟨p, n, L, l, e, _⟩ => by subst e; rfl) ?_
  rintro ds M R Z ⟨p, n, L, l, rfl, rfl, hn, hg, hw, hb, hl, qz, q⟩
  have ho : ObjAt (darkM p C n L) (.ptr p) C (dkF n L) := .cell (i := 0) rfl
  have hl2 : L.length < 10000000 := by omega
  refine wss_cons (ws_asg (i := 4) rfl (.inr ⟨rfl, rfl⟩) (we_meth D_home (Nat.le_of_ble_eq_true rfl) (we_var (i := 0) rfl (.inl rfl) rfl (⟨_, ho, rfl, wa_cons (we_var (i := 1) rfl (.inl rfl) rfl (wa_cons (we_var (i := 2) rfl (.inl rfl) rfl (wa_cons (we_var (i := 3) rfl (.inl rfl) rfl (wa_nil ((callee0 fun R Z hR hZ => ⟨_, n, L, l, rfl, ho, hn, hg, hw, hb, hR _ _ (?_)⟩))))))))⟩))))
  by_cases hm : home n l ∈ L
  · refine wss_cons (ws_if (wt_nin (we_var (i := 4) rfl (.inr (.inl rfl)) rfl (we_fld (we_var (i := 0) rfl (.inl rfl) rfl (⟨_, _, _, ho, T, NH, rfl, ⟨_, _, .self, .inl .self, by walk_at "s_okd", by walk_at "s_okd", br_nkF (by rw [any_lk]; exact decide_eq_true hm) (?_)⟩⟩))))))
    refine wss_nil ?_
    refine wss_cons (ws_fld (we_lcL [("one", 5)] rfl (L) (lkD) _ (we_fld (we_var (i := 0) rfl (.inl rfl) rfl (⟨_, _, _, ho, T, NH, rfl, ⟨rfl, lcq_filter (fun z => !(lkD z).eqv (lkD (home n l))) lkD (lenB' hl2) (fun y hy => ⟨_, _, .name (i := 5) rfl (.inl rfl), rfl, wis_one (wt_ne (we_var (i := 5) rfl (.inl rfl) rfl (we_var (i := 4) rfl (.inr (.inl rfl)) rfl (⟨_, _, .self, .self, by walk_at "s_okd", by walk_at "s_okd", br_nk (fun hw => we_var (i := 5) rfl (.inl rfl) rfl (⟨(by show (!_) = true; rw [hw]; rfl), rfl, rfl⟩)) (fun hw => ⟨(by show (!_) = false; rw [hw]; rfl), rfl⟩)⟩))))⟩) (we_var (i := 0) rfl (.inl rfl) rfl (⟨_, 0, _, _, rfl, rfl, T, NH, Nat.le_of_ble_eq_true rfl, ?_⟩))⟩⟩)))))
    exact wss_nil (q hm)
  · refine wss_cons (ws_if (wt_nin (we_var (i := 4) rfl (.inr (.inl rfl)) rfl (we_fld (we_var (i := 0) rfl (.inl rfl) rfl (⟨_, _, _, ho, T, NH, rfl, ⟨_, _, .self, .inl .self, by walk_at "s_okd", by walk_at "s_okd", br_nkT (by rw [any_lk]; exact decide_eq_false hm) (?_)⟩⟩))))))
    refine wss_cons (ws_raise X_NoLook (Nat.le_of_ble_eq_true rfl) rfl (we_var (i := 4) rfl (.inr (.inl rfl)) rfl (?_)))
    exact qz hm
end


abbrev s_made : Stmt := topS 31
theorem sc_made : FnScope ["size", "known", "made", "look"] ["size", "known"] (defScope s_made) := ⟨rfl, rfl, rfl, by decide +kernel, rfl, by decide +kernel, by decide +kernel⟩
abbrev s_lhome : Stmt := topS 28
theorem sc_lhome : FnScope ["size", "look", "back"] ["size", "look"] (defScope s_lhome) := ⟨rfl, rfl, rfl, by decide +kernel, rfl, by decide +kernel, by decide +kernel⟩
abbrev s_done : Stmt := topS 34
theorem sc_done : FnScope ["made", "look", "drops", "named", "done", "told"] ["made", "look", "drops", "named"] (defScope s_done) := ⟨rfl, rfl, rfl, by decide +kernel, rfl, by decide +kernel, by decide +kernel⟩
abbrev s_stands : Stmt := topS 35
theorem sc_stands : FnScope ["tray", "size", "made", "known", "new", "spots", "turn", "spot"] ["tray", "size", "made", "known"] (defScope s_stands) := ⟨rfl, rfl, rfl, by decide +kernel, rfl, by decide +kernel, by decide +kernel⟩
abbrev s_law : Stmt := topS 36
theorem sc_law : FnScope ["script", "tray", "k", "size", "steps", "made", "known", "turn", "drops", "look", "said", "here", "there", "turned", "apart", "due", "one"] ["script"] (defScope s_law) := ⟨rfl, rfl, rfl, by decide +kernel, rfl, by decide +kernel, by decide +kernel⟩

section
variable {P : Program} {w : World} {K : PySem.W.Frag} {mg : Str → Option Value} {base : Heap} {C CX CN : Addr}
/-- places of a kept look -/
abbrev By (i : Int) : Prop := -10000000000000000000000000000000000000000000000000000000000000000 < i ∧ i < 10000000000000000000000000000000000000000000000000000000000000000
/-- looks that go with one another, brought home, each once -/
structure Kp (n : Int) (ks : List Look) : Prop where
  len : ks.length ≤ 24
  word : ∀ l ∈ ks, isWord l.1
  big : ∀ l ∈ ks, (0 ≤ l.2.1 ∧ l.2.1 < n) ∧ By l.2.2
  hm : ∀ l ∈ ks, home n l = l
  once : ks.Nodup
  go : ∀ a ∈ ks, ∀ b ∈ ks, apart n a b = false
theorem apart_comm (n : Int) (a b : Look) : apart n a b = apart n b a := Bool.or_comm _ _
theorem apart_self (n : Int) (a : Look) : apart n a a = false := by
  have e : aprt1 n a a = false := by
    unfold aprt1 lowv
    rw [Int.sub_self, Int.zero_ediv, Int.zero_mul, Int.add_zero]
    simp
  unfold apart
  rw [e]
  rfl
theorem Kp.nil (n : Int) : Kp n [] := ⟨by simp, fun l h => (by cases h), fun l h => (by cases h), fun l h => (by cases h), List.nodup_nil, fun l h => (by cases h)⟩
theorem Kp.bs {n : Int} {ks : List Look} (h : Kp n ks) (hn2 : n < 10000000000000000000000000000000) : ∀ l ∈ ks, BsL l := fun l hl => by
  obtain ⟨⟨h1, h2⟩, h3, h4⟩ := h.big l hl
  exact ⟨by simp only [Bs]; omega, by simp only [Bs, By] at *; omega⟩
theorem Kp.perm {n : Int} {ks ys : List Look} (h : Kp n ks) (p : ys.Perm ks) : Kp n ys :=
  ⟨by rw [p.length_eq]; exact h.len, fun l hl => h.word l (p.mem_iff.mp hl), fun l hl => h.big l (p.mem_iff.mp hl), fun l hl => h.hm l (p.mem_iff.mp hl), p.nodup_iff.mpr h.once, fun a ha b hb => h.go a (p.mem_iff.mp ha) b (p.mem_iff.mp hb)⟩
theorem Kp.filter {n : Int} {ks : List Look} (h : Kp n ks) (f : Look → Bool) : Kp n (ks.filter f) :=
  ⟨Nat.le_trans (List.length_filter_le _ _) h.len, fun l hl => h.word l (List.mem_filter.mp hl).1, fun l hl => h.big l (List.mem_filter.mp hl).1, fun l hl => h.hm l (List.mem_filter.mp hl).1, h.once.filter _, fun a ha b hb => h.go a (List.mem_filter.mp ha).1 b (List.mem_filter.mp hb).1⟩
theorem Kp.mem {n : Int} {ks : List Look} (h : Kp n ks) {z : Look} : z ∈ hearAll n ks ↔ z ∈ ks := by
  rw [mem_hearAll]
  exact ⟨fun ⟨l, hl, e⟩ => by rw [e, h.hm l hl]; exact hl, fun hz => ⟨z, hz, (h.hm z hz).symm⟩⟩
theorem Kp.heard {n : Int} {ks : List Look} (hn2 : n < 10000000000000000000000000000000) (h : Kp n ks) : (∀ z ∈ hearAll n ks, BgL z) ∧ (hearAll n ks).length < 1000000 := by
  refine ⟨fun z hz => ?_, ?_⟩
  · have := h.bs hn2 z (h.mem.mp hz)
    obtain ⟨h1, h2⟩ := this
    exact ⟨by simp only [Bs, Bg] at *; omega, by simp only [Bs, Bg] at *; omega⟩
  · have h1 := length_hearAll (n := n) ks
    have h2 := h.len
    omega
theorem Kp.same {n : Int} {ks ys : List Look} (p : ys.Perm ks) : hearAll n ys = hearAll n ks := srt_uniq (srt_hearAll _ _) (srt_hearAll _ _) fun z => by
  rw [mem_hearAll, mem_hearAll]
  exact ⟨fun ⟨l, h, e⟩ => ⟨l, p.mem_iff.mp h, e⟩, fun ⟨l, h, e⟩ => ⟨l, p.mem_iff.mpr h, e⟩⟩
theorem Kp.sort {n : Int} {ks : List Look} (h : Kp n ks) : (ks.map lkD).mergeSort leD = (hearAll n ks).map lkD := by
  have e : ks.mergeSort lkLe = hearAll n ks := srt_uniq (srt_sort h.once) (srt_hearAll _ _) fun z => by
    rw [h.mem]
    exact (List.mergeSort_perm ks lkLe).mem_iff
  rw [← e, sort_lkm]
/-- what a deed tells and leaves -/
def deed (b : Bool) (n : Int) (L : List Look) (l : Look) : Bool × List Look :=
  if b then (if home n l ∈ L then (true, dropL n L l) else (false, L)) else (if (L.find? fun z => apart n (home n l) z) = none then (true, hearL n L l) else (false, L))
theorem deed_dt {n : Int} {L : List Look} {l : Look} (h : home n l ∈ L) : deed true n L l = (true, dropL n L l) := by unfold deed; rw [if_pos rfl, if_pos h]
theorem deed_df {n : Int} {L : List Look} {l : Look} (h : home n l ∉ L) : deed true n L l = (false, L) := by unfold deed; rw [if_pos rfl, if_neg h]
theorem deed_ht {n : Int} {L : List Look} {l : Look} (h : (L.find? fun z => apart n (home n l) z) = none) : deed false n L l = (true, hearL n L l) := by unfold deed; rw [if_neg Bool.false_ne_true, if_pos h]
theorem deed_hf {n : Int} {L : List Look} {l z : Look} (h : (L.find? fun z => apart n (home n l) z) = some z) : deed false n L l = (false, L) := by unfold deed; rw [if_neg Bool.false_ne_true, if_neg (by rw [h]; exact fun e => (by cases e))]
/-- the law's reckoning -/
def dueB (b : Bool) (n : Int) (ks : List Look) (h : Look) : Bool := if b then decide (h ∈ ks) else (ks.filter fun one => apart n h one).isEmpty
def keptL (b : Bool) (n : Int) (ks : List Look) (h : Look) : List Look := if b then ks.filter (fun z => !(lkD z).eqv (lkD h)) else if dueB false n ks h = true ∧ h ∉ ks then ks ++ [h] else ks
theorem filt_eq {ks : List Look} {h : Look} (hk : h ∉ ks) : ks.filter (fun z => !(lkD z).eqv (lkD h)) = ks := List.filter_eq_self.mpr fun z hz => by
  rw [eqv_lk]
  simp only [Bool.not_eq_true', decide_eq_false_iff_not]
  exact fun e => hk (e ▸ hz)
theorem deed_eq {n : Int} (hn : 0 < n) {ks : List Look} (k : Kp n ks) (b : Bool) (l : Look) : deed b n (hearAll n ks) l = (dueB b n ks (home n l), hearAll n (keptL b n ks (home n l))) := by
  have hh : home n (home n l) = home n l := home_home hn l
  cases b with
  | true =>
    unfold dueB keptL
    rw [if_pos rfl, if_pos rfl]
    by_cases h : home n l ∈ ks
    · rw [deed_dt (k.mem.mpr h), decide_eq_true h]
      refine Prod.ext rfl (srt_uniq (srt_filter (srt_hearAll _ _) _) (srt_hearAll _ _) fun z => ?_)
      show z ∈ dropL n (hearAll n ks) l ↔ z ∈ hearAll n _
      rw [mem_dropL, k.mem, (k.filter _).mem, List.mem_filter, eqv_lk]
      simp
    · rw [deed_df (fun z => h (k.mem.mp z)), decide_eq_false h, filt_eq h]
  | false =>
    unfold keptL dueB
    simp only [Bool.false_eq_true, if_false]
    cases hf : (hearAll n ks).find? fun z => apart n (home n l) z with
    | some z =>
      rw [deed_hf hf]
      have hz := List.mem_of_find?_eq_some hf
      have ha : apart n (home n l) z = true := by simpa using List.find?_some hf
      have ne : (ks.filter fun one => apart n (home n l) one).isEmpty = false := by
        rw [List.isEmpty_eq_false_iff_exists_mem]
        exact ⟨z, List.mem_filter.mpr ⟨k.mem.mp hz, ha⟩⟩
      rw [ne, if_neg (fun z => by cases z.1)]
    | none =>
      rw [deed_ht hf]
      have all := List.find?_eq_none.mp hf
      have em : (ks.filter fun one => apart n (home n l) one).isEmpty = true := by
        rw [List.isEmpty_iff]
        exact List.filter_eq_nil_iff.mpr fun z hz => all z (k.mem.mpr hz)
      rw [em]
      refine Prod.ext rfl (srt_uniq (srt_hearL (srt_hearAll _ _) l) (srt_hearAll _ _) fun z => ?_)
      rw [mem_hearL, k.mem, mem_hearAll]
      by_cases h : home n l ∈ ks
      · rw [if_neg (fun z => z.2 h)]
        constructor
        · rintro (hz | rfl)
          · exact ⟨z, hz, (k.hm z hz).symm⟩
          · exact ⟨_, h, hh.symm⟩
        · rintro ⟨y, hy, rfl⟩
          rw [k.hm y hy]
          exact .inl hy
      · rw [if_pos ⟨rfl, h⟩]
        constructor
        · rintro (hz | rfl)
          · exact ⟨z, List.mem_append_left _ hz, (k.hm z hz).symm⟩
          · exact ⟨_, List.mem_append_right _ List.mem_cons_self, hh.symm⟩
        · rintro ⟨y, hy, rfl⟩
          rcases List.mem_append.mp hy with hy | hy
          · rw [k.hm y hy]
            exact .inl hy
          · rw [List.mem_singleton.mp hy, hh]
            exact .inr rfl
/-- what is kept goes on as such -/
theorem kept_kp {n : Int} (hn : 0 < n) {ks : List Look} (k : Kp n ks) {b : Bool} {h : Look} (hb : b = false → ks.length ≤ 23) (hw : isWord h.1) (hbig : (0 ≤ h.2.1 ∧ h.2.1 < n) ∧ By h.2.2) (hh : home n h = h) : Kp n (keptL b n ks h) := by
  unfold keptL
  split
  · exact k.filter _
  · rename_i hb0
    split
    · rename_i hd
      obtain ⟨hd, hm⟩ := hd
      unfold dueB at hd
      rw [if_neg Bool.false_ne_true, List.isEmpty_iff] at hd
      have none : ∀ z ∈ ks, apart n h z = false := fun z hz => by
        have := List.filter_eq_nil_iff.mp hd z hz
        simpa using this
      have bf : b = false := by simpa using hb0
      refine ⟨by rw [List.length_append]; have := hb bf; simp only [List.length_cons, List.length_nil]; omega, ?_, ?_, ?_, ?_, ?_⟩
      · intro l hl
        rcases List.mem_append.mp hl with hl | hl
        · exact k.word l hl
        · rw [List.mem_singleton.mp hl]; exact hw
      · intro l hl
        rcases List.mem_append.mp hl with hl | hl
        · exact k.big l hl
        · rw [List.mem_singleton.mp hl]; exact hbig
      · intro l hl
        rcases List.mem_append.mp hl with hl | hl
        · exact k.hm l hl
        · rw [List.mem_singleton.mp hl]; exact hh
      · rw [List.nodup_append]
        exact ⟨k.once, by simp, fun a ha b hb e => hm (by rw [List.mem_singleton.mp hb] at e; exact e ▸ ha)⟩
      · intro x hx y hy
        rcases List.mem_append.mp hx with hx | hx <;> rcases List.mem_append.mp hy with hy | hy
        · exact k.go x hx y hy
        · rw [List.mem_singleton.mp hy, apart_comm]; exact none x hx
        · rw [List.mem_singleton.mp hx]; exact none y hy
        · rw [List.mem_singleton.mp hx, List.mem_singleton.mp hy]; exact apart_self n h
    · exact k
theorem find_no {n : Int} {y : Look} {L : List Look} (hno : ∀ z ∈ L, apart n (home n y) z = false) : (L.find? fun z => apart n (home n y) z) = none := List.find?_eq_none.mpr fun z hz => by simp [hno z hz]
def pfMade (C : Addr) : PF := fun ds M R _ => ∃ (n : Int) (ks : List Look), ds = [.int n, .lst (ks.map lkD)] ∧ M = [] ∧ 0 < n ∧ n < 10000000000000000000000000000000 ∧ Kp n ks ∧ R (.obj C (dkF n (hearAll n ks))) []
theorem ok_made {f fd f1 fd1 f2 fd2} (F : Fun K "_law_made" "_law_made" s_made f fd) (D_init : CDef P w K mg base "Dark" C f1 fd1 ["self", "length"] 2 (pfInit C)) (D_hear : MDef P w K mg base C "hear" f2 fd2 ["self", "word", "x", "y"] 4 (pfHear C CX)) : FnOk P w K mg base (L2.CX P w) 5 f fd ["size", "known"] (liftF K (pfMade C)) := by
  refine fn_mk F sc_made (fun ds M R Z ⟨n, ks, e, _⟩ => by subst e; rfl) ?_
  rintro ds M R Z ⟨n, ks, rfl, rfl, hn, hn2, hk, q⟩
  have hg : Bs n := by simp only [Bs]; omega
  refine wss_cons (ws_asg (i := 2) rfl (.inl rfl) (we_make D_init (Nat.le_of_ble_eq_true rfl) rfl (wa_cons (we_var (i := 0) rfl (.inl rfl) rfl (wa_nil (fun q901 => ⟨_, [(q901, _)], rfl, fun R Z hR hZ => ⟨q901, n, rfl, hn, rfl, hR _ _ ⟨rfl, ?_⟩⟩⟩))))))
  refine wss_cons (ws_forL ks lkD (fun pre Γ1 M1 => ∃ c3 : Option D, Γ1 = [some (.int n), some (.lst (ks.map lkD)), some (.ptr q901), c3] ∧ M1 = darkM q901 C n (hearAll n pre)) (we_var (i := 1) rfl (.inl rfl) rfl (?_)))
  refine ⟨rfl, ⟨_, rfl, rfl⟩, ?_, ?_⟩
  · rintro pre y post Γ2 M2 e ⟨c3, rfl, rfl⟩
    generalize q901 = p at *
    have hy : y ∈ ks := by rw [e]; simp
    have hp : ∀ l ∈ pre, l ∈ ks := fun l hl => by rw [e]; simp [hl]
    have hw := hk.word y hy
    have hb := hk.bs hn2 y hy
    have hL : ∀ z ∈ hearAll n pre, BgL z := fun z hz => by
      obtain ⟨l, hl, rfl⟩ := mem_hearAll.mp hz
      exact home_bg hn hg (hk.bs hn2 l (hp l hl))
    have hlen : (hearAll n pre).length < 1000000 := by
      have h1 := length_hearAll (n := n) pre
      have h2 := hk.len
      have h3 := congrArg List.length e
      simp only [List.length_append, List.length_cons] at h3
      omega
    have hno : ∀ z ∈ hearAll n pre, apart n (home n y) z = false := fun z hz => by
      obtain ⟨l, hl, rfl⟩ := mem_hearAll.mp hz
      rw [hk.hm y hy, hk.hm l (hp l hl)]
      exact hk.go y hy l (hp l hl)
    refine wg_name (i := 3) rfl (.inl rfl) (?_)
    refine wss_cons (ws_expr (we_meth D_hear (Nat.le_of_ble_eq_true rfl) (we_var (i := 2) rfl (.inl rfl) rfl (⟨_, .cell (i := 0) rfl, rfl, wa_cons (we_ix (we_var (i := 3) rfl (.inl rfl) rfl (we_int (⟨_, _, _, .inl rfl, rfl, by walk_at "s_at", wa_cons (we_ix (we_var (i := 3) rfl (.inl rfl) rfl (we_int (⟨_, _, _, .inl rfl, rfl, by walk_at "s_at", wa_cons (we_ix (we_var (i := 3) rfl (.inl rfl) rfl (we_int (⟨_, _, _, .inl rfl, rfl, by walk_at "s_at", wa_nil ((callee0 fun R Z hR hZ => ⟨p, n, hearAll n pre, y, rfl, rfl, hn, hg, hw, hb, hL, hlen, fun z hz => absurd hz (by rw [find_no hno]; exact fun e => (by cases e)), fun _ => hR _ _ (?_)⟩))⟩))))⟩))))⟩))))⟩))))
    refine wss_nil ⟨_, rfl, ?_⟩
    unfold hearAll
    rw [List.foldl_append]
    rfl
  · rintro Γ2 M2 ⟨c3, rfl, rfl⟩
    refine wss_freezeO (j := 2) (i := 0) rfl rfl ?_
    refine wss_cons (ws_ret (we_var (i := 2) rfl (.inl rfl) rfl (?_)))
    exact q
def pfLhome : PF := fun ds M R _ => ∃ (n : Int) (l : Look), ds = [.int n, lkD l] ∧ 0 < n ∧ Bg n ∧ BgL l ∧ R (lkD (home n l)) M
theorem ok_lhome {f fd k} (F : Fun K "_law_home" "_law_home" s_lhome f fd) : FnOk P w K mg base (L2.CX P w) (k + 1) f fd ["size", "look"] (liftF K pfLhome) := by
  refine fn_mk F sc_lhome (fun ds M R Z ⟨n, l, e, _⟩ => by subst e; rfl) ?_
  rintro ds M R Z ⟨n, l, rfl, hn, hg, ⟨hb1, hb2⟩, q⟩
  refine wss_cons (ws_asg (i := 2) rfl (.inl rfl) (we_mul (we_div (we_ix (we_var (i := 1) rfl (.inl rfl) rfl (we_int (⟨_, _, _, .inl rfl, rfl, by walk_at "s_at", we_var (i := 0) rfl (.inl rfl) rfl (⟨_, _, rfl, rfl, (by walk_at "s_div"), we_var (i := 0) rfl (.inl rfl) rfl (⟨_, _, rfl, rfl, (by walk_at "s_mul"), ?_⟩)⟩)⟩)))))))
  refine wss_cons (ws_ret (we_tup (wa_cons (we_ix (we_var (i := 1) rfl (.inl rfl) rfl (we_int (⟨_, _, _, .inl rfl, rfl, by walk_at "s_at", wa_cons (we_sub (we_ix (we_var (i := 1) rfl (.inl rfl) rfl (we_int (⟨_, _, _, .inl rfl, rfl, by walk_at "s_at", we_var (i := 2) rfl (.inl rfl) rfl (⟨_, _, rfl, rfl, wa_cons (we_sub (we_ix (we_var (i := 1) rfl (.inl rfl) rfl (we_int (⟨_, _, _, .inl rfl, rfl, by walk_at "s_at", we_var (i := 2) rfl (.inl rfl) rfl (⟨_, _, rfl, rfl, wa_nil (⟨Nat.le_of_ble_eq_true rfl, ?_⟩)⟩)⟩)))))⟩)⟩)))))⟩)))))))
  exact q
def pfDone (C : Addr) : PF := fun ds M R _ => ∃ (p : Addr) (n : Int) (L : List Look) (l : Look) (b nm : Bool), ds = [.ptr p, lkD l, .bl b, .bl nm] ∧ M = darkM p C n L ∧ 0 < n ∧ Bs n ∧ isWord l.1 ∧ BsL l ∧ (∀ z ∈ L, BgL z) ∧ L.length < 1000000 ∧ R (.bl (deed b n L l).1) (darkM p C n (deed b n L l).2)
theorem ok_done {f fd f1 fd1 f2 fd2} (F : Fun K "_law_done" "_law_done" s_done f fd) (X_Clash : XDef P w K mg base "Clash" CX) (X_NoLook : XDef P w K mg base "NoLook" CN)
    (XA_Clash : PySem.W.exmAny K (.ref CX) [.ref CX, .ref CN] = some true) (XA_NoLook : PySem.W.exmAny K (.ref CN) [.ref CX, .ref CN] = some true)
    (D_drop : MDef P w K mg base C "drop" f1 fd1 ["self", "word", "x", "y"] 3 (pfDrop C CN)) (B_drop : KwN K fd1 ["self", "word", "x", "y"] ["y", "x", "word"] [2, 1, 0] 1) (D_hear : MDef P w K mg base C "hear" f2 fd2 ["self", "word", "x", "y"] 4 (pfHear C CX)) :
    FnOk P w K mg base (L2.CX P w) 5 f fd ["made", "look", "drops", "named"] (liftF K (pfDone C)) := by
  refine fn_mk F sc_done (fun ds M R Z ⟨p, n, L, l, b, nm, e, _⟩ => by subst e; rfl) ?_
  rintro ds M R Z ⟨p, n, L, l, b, nm, rfl, rfl, hn, hg, hw, hb, hL, hl, q⟩
  refine wss_cons (ws_asg (i := 4) rfl (.inl rfl) (we_bl (?_)))
  refine wss_cons (ws_asg (i := 5) rfl (.inl rfl) (we_non (?_)))
  refine wss_cut (fun Γ1 M1 => Γ1 = [some (.ptr p), some (lkD l), some (.bl b), some (.bl nm), some (.bl (deed b n L l).1), some .non] ∧ M1 = darkM p C n (deed b n L l).2) ?_ ?_
  · refine ws_tryT (i := 4) rfl rfl X_Clash.mgx rfl X_NoLook.mgx rfl (.inl rfl) ?_
    cases b with
    | true =>
      cases nm with
      | true =>
        refine wss_cons (ws_if (wt_ww (ww_and (wt_val (we_var (i := 2) rfl (.inl rfl) rfl (⟨_, rfl, br_t (ww_and1 (wt_val (we_var (i := 3) rfl (.inl rfl) rfl (⟨_, rfl, br_t (?_)⟩))))⟩))))))
        refine wss_cons (ws_asg (i := 5) rfl (.inl rfl) (we_methK D_drop B_drop (Nat.le_of_ble_eq_true rfl) (we_var (i := 0) rfl (.inl rfl) rfl (⟨_, .cell (i := 0) rfl, rfl, wk_cons (we_ix (we_var (i := 1) rfl (.inl rfl) rfl (we_int (⟨_, _, _, .inl rfl, rfl, by walk_at "s_at", wk_cons (we_ix (we_var (i := 1) rfl (.inl rfl) rfl (we_int (⟨_, _, _, .inl rfl, rfl, by walk_at "s_at", wk_cons (we_ix (we_var (i := 1) rfl (.inl rfl) rfl (we_int (⟨_, _, _, .inl rfl, rfl, by walk_at "s_at", wk_nil (⟨rfl, (callee0 fun R Z hR hZ => ⟨p, n, L, l, rfl, rfl, hn, hg, hw, hb, hl, fun hz => hZ _ _ _ (.inl ⟨XA_NoLook, ⟨by rw [deed_df hz]; rfl, by rw [deed_df hz]⟩⟩), fun hz => hR _ _ (?_)⟩)⟩)⟩))))⟩))))⟩))))⟩))))
        exact wss_nil (wss_nil ⟨by rw [deed_dt hz]; rfl, by rw [deed_dt hz]⟩)
      | false =>
        refine wss_cons (ws_if (wt_ww (ww_and (wt_val (we_var (i := 2) rfl (.inl rfl) rfl (⟨_, rfl, br_t (ww_and1 (wt_val (we_var (i := 3) rfl (.inl rfl) rfl (⟨_, rfl, br_f (?_)⟩))))⟩))))))
        refine wss_cons (ws_if (wt_val (we_var (i := 2) rfl (.inl rfl) rfl (⟨_, rfl, br_t (?_)⟩))))
        refine wss_cons (ws_asg (i := 5) rfl (.inl rfl) (we_meth D_drop (Nat.le_of_ble_eq_true rfl) (we_var (i := 0) rfl (.inl rfl) rfl (⟨_, .cell (i := 0) rfl, rfl, wa_cons (we_ix (we_var (i := 1) rfl (.inl rfl) rfl (we_int (⟨_, _, _, .inl rfl, rfl, by walk_at "s_at", wa_cons (we_ix (we_var (i := 1) rfl (.inl rfl) rfl (we_int (⟨_, _, _, .inl rfl, rfl, by walk_at "s_at", wa_cons (we_ix (we_var (i := 1) rfl (.inl rfl) rfl (we_int (⟨_, _, _, .inl rfl, rfl, by walk_at "s_at", wa_nil ((callee0 fun R Z hR hZ => ⟨p, n, L, l, rfl, rfl, hn, hg, hw, hb, hl, fun hz => hZ _ _ _ (.inl ⟨XA_NoLook, ⟨by rw [deed_df hz]; rfl, by rw [deed_df hz]⟩⟩), fun hz => hR _ _ (?_)⟩))⟩))))⟩))))⟩))))⟩))))
        exact wss_nil (wss_nil (wss_nil ⟨by rw [deed_dt hz]; rfl, by rw [deed_dt hz]⟩))
    | false =>
      refine wss_cons (ws_if (wt_ww (ww_and (wt_val (we_var (i := 2) rfl (.inl rfl) rfl (⟨_, rfl, br_f (br_f (?_))⟩))))))
      refine wss_cons (ws_if (wt_val (we_var (i := 2) rfl (.inl rfl) rfl (⟨_, rfl, br_f (?_)⟩))))
      refine wss_cons (ws_asg (i := 5) rfl (.inl rfl) (we_meth D_hear (Nat.le_of_ble_eq_true rfl) (we_var (i := 0) rfl (.inl rfl) rfl (⟨_, .cell (i := 0) rfl, rfl, wa_cons (we_ix (we_var (i := 1) rfl (.inl rfl) rfl (we_int (⟨_, _, _, .inl rfl, rfl, by walk_at "s_at", wa_cons (we_ix (we_var (i := 1) rfl (.inl rfl) rfl (we_int (⟨_, _, _, .inl rfl, rfl, by walk_at "s_at", wa_cons (we_ix (we_var (i := 1) rfl (.inl rfl) rfl (we_int (⟨_, _, _, .inl rfl, rfl, by walk_at "s_at", wa_nil ((callee0 fun R Z hR hZ => ⟨p, n, L, l, rfl, rfl, hn, hg, hw, hb, hL, hl, fun z hz => hZ _ _ _ (.inl ⟨XA_Clash, ⟨by rw [deed_hf hz]; rfl, by rw [deed_hf hz]⟩⟩), fun hz => hR _ _ (?_)⟩))⟩))))⟩))))⟩))))⟩))))
      exact wss_nil (wss_nil (wss_nil ⟨by rw [deed_ht hz]; rfl, by rw [deed_ht hz]⟩))
  rintro Γ1 M1 ⟨rfl, rfl⟩
  refine wss_cons (ws_ret (we_ifE (wt_isN (we_var (i := 5) rfl (.inl rfl) rfl (br_t (we_var (i := 4) rfl (.inl rfl) rfl (?_)))))))
  exact q

theorem Kp.sortL {n : Int} {ks : List Look} (h : Kp n ks) : ks.mergeSort lkLe = hearAll n ks := srt_uniq (srt_sort h.once) (srt_hearAll _ _) fun z => by
  rw [h.mem]
  exact (List.mergeSort_perm ks lkLe).mem_iff
local macro_rules | `(tactic| walk_at "s_okd") => `(tactic| first | rfl | exact okd_map _ (fun _ => rfl) | exact okd_map _ (fun _ => okd_opt _ _) | exact okds_map (fun _ => rfl) _)
def pfStands (C : Addr) : PF := fun ds M R _ => ∃ (a p : Addr) (n T : Int) (ks : List Look) (Mt : Cells), ds = [.ptr a, .int n, .ptr p, .lst (ks.map lkD)] ∧ M = darkM p C n (hearAll n ks) ++ Mt ∧ IsTray T a Mt ∧ (0 ≤ T ∧ T < 400000000) ∧ (0 < n ∧ n < 10000000000000000000000000000000) ∧ Kp n ks ∧ ∀ M', IsTray (T + 100) a M' → R (.bl true) (darkM p C n (hearAll n ks) ++ M')
set_option maxHeartbeats 0 in
theorem ok_stands {f fd f1 fd1 f2 fd2 f3 fd3 f4 fd4 f5 fd5 f6 fd6 f7 fd7} (F : Fun K "_law_stands_so" "_law_stands_so" s_stands f fd) (m_sorted : mg "sorted" = none) (m_range : mg "range" = none)
    (D_mixed : Def P w K mg base "_law_mixed" f1 fd1 ["tray", "things"] 2 pfMixed) (D_made : Def P w K mg base "_law_made" f2 fd2 ["size", "known"] 5 (pfMade C)) (D_spot : Def P w K mg base "_law_spot" f3 fd3 ["tray", "size", "known"] 3 pfSpot)
    (D_looks : MDef P w K mg base C "looks" f4 fd4 ["self"] 1 (pfLooks C)) (D_eqm : MDef P w K mg base C "__eq__" f5 fd5 ["self", "other"] 1 (pfEq C)) (NE : NeC K C)
    (D_least : MDef P w K mg base C "least" f6 fd6 ["self", "x"] 2 (pfLeast C)) (D_greatest : MDef P w K mg base C "greatest" f7 fd7 ["self", "x"] 2 (pfGreatest C)) : FnOk P w K mg base (L2.CX P w) 6 f fd ["tray", "size", "made", "known"] (liftF K (pfStands C)) := by
  refine fn_mk F sc_stands (fun ds M R Z ⟨a, p, n, T, ks, Mt, e, _⟩ => by subst e; rfl) ?_
  rintro ds M R Z ⟨a, p, n, T, ks, Mt, rfl, rfl, hB0, hT, ⟨hn, hn2⟩, hk, q⟩
  have hg : Bg n := by simp only [Bg]; omega
  have hH1 := (hk.heard hn2).1
  have hH2 := (hk.heard hn2).2
  have hkb : ∀ l ∈ ks, -100000000000000000000000000000000000000000000000000000000000000 < l.2.1 ∧ l.2.1 < 100000000000000000000000000000000000000000000000000000000000000 := fun l hl => by have := (hk.big l hl).1; omega
  have hkl : ks.length ≤ 60 := Nat.le_trans hk.len (by decide)
  refine wss_cons (ws_asg (i := 4) rfl (.inr ⟨rfl, rfl⟩) (we_call D_made (Nat.le_of_ble_eq_true rfl) rfl (wa_cons (we_var (i := 1) rfl (.inr (.inl rfl)) rfl (wa_cons (we_call D_mixed (Nat.le_of_ble_eq_true rfl) rfl (wa_cons (we_var (i := 0) rfl (.inr (.inl rfl)) rfl (wa_cons (we_var (i := 3) rfl (.inr (.inl rfl)) rfl (wa_nil (⟨darkM p C n (hearAll n ks), Mt, rfl, fun R Z hR hZ => ⟨a, _, ks, rfl, hB0, ⟨by omega, by omega⟩, Nat.le_trans hk.len (by decide), fun ys M6 hpy hB6 => hR _ _ (wa_nil ((calleeNil fun R Z hR => ⟨n, ys, rfl, rfl, hn, hn2, hk.perm hpy, hR _ (?_)⟩)))⟩⟩))))))))))))
  rw [Kp.same hpy]
  refine wss_cons (ws_if (wt_ww (ww_or (wt_ne (we_meth0 D_looks (Nat.le_of_ble_eq_true rfl) (we_var (i := 2) rfl (.inr (.inl rfl)) rfl (⟨_, .cell (i := 0) rfl, rfl, (callee0 fun R Z hR hZ => ⟨_, _, _, rfl, .cell (i := 0) rfl, hR _ _ (we_sortLk rfl (by walk_at "s_mg") (we_var (i := 3) rfl (.inr (.inl rfl)) rfl (⟨_, .self, ⟨_, _, .self, .self, by walk_at "s_okd", by walk_at "s_okd", br_nkF ((by rw [hk.sortL]; exact eqv_lks _)) (ww_or (wt_not (wt_eqO D_eqm (Nat.le_of_ble_eq_true rfl) (we_var (i := 2) rfl (.inr (.inl rfl)) rfl (we_var (i := 4) rfl (.inr (.inl rfl)) rfl (⟨_, _, .cell (i := 0) rfl, .obj, [], _, rfl, fun R Z hR => ⟨_, _, n, n, _, _, rfl, .cell (i := 0) rfl, .obj, hH2, hH2, fun _ => hR _ _ (br_not (br_t (ww_or1 (wt_neO D_eqm NE (Nat.le_of_ble_eq_true rfl) (we_var (i := 2) rfl (.inr (.inl rfl)) rfl (we_var (i := 4) rfl (.inr (.inl rfl)) rfl (⟨_, _, .cell (i := 0) rfl, .obj, [], _, rfl, fun R Z hR => ⟨_, _, n, n, _, _, rfl, .cell (i := 0) rfl, .obj, hH2, hH2, fun _ => hR _ _ (br_f (?_)), fun h => absurd ⟨rfl, rfl⟩ h⟩⟩))))))), fun h => absurd ⟨rfl, rfl⟩ h⟩⟩))))))⟩⟩)))⟩)⟩)))))))
  refine wss_nil ?_
  refine wss_cons (ws_lcR (i := 5) [("turn", 6)] rfl rfl rfl rfl (by walk_at "s_mg") _ (we_int (⟨_, rfl, by walk_at "s_rg", by walk_at "s_rg", lcq_B D.int (fun pre ns M2 => ∃ Mt, M2 = darkM p C n (hearAll n ks) ++ Mt ∧ (∀ v ∈ ns, Bg v) ∧ IsTray (T + 60 + 20 * pre.length) a Mt) (by walk_at "s_len") (⟨M6, rfl, (fun v hv => by cases hv), hB6.mono (by simp only [List.length_nil]; omega)⟩) (fun pre y post ns M2 ey hlen hI => (by obtain ⟨Mt, rfl, hnx, hB10⟩ := hI; exact ⟨_, _, .name (i := 6) rfl (.inl rfl), rfl, wis_nil (br_t (we_call D_spot (Nat.le_of_ble_eq_true rfl) rfl (wa_cons (we_var (i := 0) rfl (.inr (.inl rfl)) rfl (wa_cons (we_var (i := 1) rfl (.inr (.inl rfl)) rfl (wa_cons (we_var (i := 3) rfl (.inr (.inl rfl)) rfl (wa_nil (⟨darkM p C n (hearAll n ks), Mt, rfl, fun R Z hR hZ => ⟨a, n, _, 100000000000000000000000000000000000000000000000000000000000000, ks, rfl, hB10, (by have eyl := congrArg List.length ey; simp only [List.length_append, List.length_cons, List.length_range] at eyl; omega), ⟨hn, hn2⟩, ⟨by decide, by decide⟩, hkb, hkl, fun x M6 hx hB11 => hR _ _ (⟨x, rfl, M6, rfl, fun v hv => (List.mem_append.mp hv).elim (hnx v) fun hv => by rw [List.mem_singleton.mp hv]; simp only [Bg]; omega, hB11.mono (by simp only [List.length_append, List.length_cons, List.length_nil]; omega)⟩)⟩⟩))))))))))⟩)) (fun spots M3 hal ⟨Mt, eM, hnx, hBe⟩ => ?_)⟩)))
  subst eM
  refine wss_cons (ws_if (wt_ne (we_lcL [("spot", 7)] rfl (spots) (D.int) _ (we_var (i := 5) rfl (.inl rfl) rfl (⟨rfl, lcq_map (fun x => optD (leastO n (hearAll n ks) x)) (lenB' (by have := hal; simp only [List.length_range] at this; omega)) (fun y hy => ⟨_, _, .name (i := 7) rfl (.inl rfl), rfl, wis_nil (br_t (we_meth D_least (Nat.le_of_ble_eq_true rfl) (we_var (i := 2) rfl (.inr (.inl rfl)) rfl (⟨_, .cell (i := 0) rfl, rfl, wa_cons (we_var (i := 7) rfl (.inl rfl) rfl (wa_nil ((callee0 fun R Z hR hZ => ⟨_, n, hearAll n ks, y, rfl, .cell (i := 0) rfl, hn, hg, hnx _ hy, hH1, hH2, fun o ho => hR _ _ (by rw [leastO_eq ho]; exact ⟨rfl, rfl⟩)⟩))))⟩))))⟩) (we_lcL [("spot", 7)] rfl (spots) (D.int) _ (we_var (i := 5) rfl (.inl rfl) rfl (⟨rfl, lcq_map (fun x => optD (leastO n (hearAll n ks) x)) (lenB' (by have := hal; simp only [List.length_range] at this; omega)) (fun y hy => ⟨_, _, .name (i := 7) rfl (.inl rfl), rfl, wis_nil (br_t (we_meth D_least (Nat.le_of_ble_eq_true rfl) (we_var (i := 4) rfl (.inr (.inl rfl)) rfl (⟨_, .obj, rfl, wa_cons (we_var (i := 7) rfl (.inl rfl) rfl (wa_nil ((callee0 fun R Z hR hZ => ⟨_, n, hearAll n ks, y, rfl, .obj, hn, hg, hnx _ hy, hH1, hH2, fun o ho => hR _ _ (by rw [leastO_eq ho]; exact ⟨rfl, rfl⟩)⟩))))⟩))))⟩) (⟨_, _, .self, .self, by walk_at "s_okd", by walk_at "s_okd", br_nkF ((eqv_opts (leastO n (hearAll n ks)) spots)) (?_)⟩)⟩)))⟩)))))
  refine wss_nil ?_
  refine wss_cons (ws_ret (we_eq (we_lcL [("spot", 7)] rfl (spots) (D.int) _ (we_var (i := 5) rfl (.inl rfl) rfl (⟨rfl, lcq_map (fun x => optD (greatestO n (hearAll n ks) x)) (lenB' (by have := hal; simp only [List.length_range] at this; omega)) (fun y hy => ⟨_, _, .name (i := 7) rfl (.inl rfl), rfl, wis_nil (br_t (we_meth D_greatest (Nat.le_of_ble_eq_true rfl) (we_var (i := 2) rfl (.inr (.inl rfl)) rfl (⟨_, .cell (i := 0) rfl, rfl, wa_cons (we_var (i := 7) rfl (.inl rfl) rfl (wa_nil ((callee0 fun R Z hR hZ => ⟨_, n, hearAll n ks, y, rfl, .cell (i := 0) rfl, hn, hg, hnx _ hy, hH1, hH2, fun o ho => hR _ _ (by rw [greatestO_eq ho]; exact ⟨rfl, rfl⟩)⟩))))⟩))))⟩) (we_lcL [("spot", 7)] rfl (spots) (D.int) _ (we_var (i := 5) rfl (.inl rfl) rfl (⟨rfl, lcq_map (fun x => optD (greatestO n (hearAll n ks) x)) (lenB' (by have := hal; simp only [List.length_range] at this; omega)) (fun y hy => ⟨_, _, .name (i := 7) rfl (.inl rfl), rfl, wis_nil (br_t (we_meth D_greatest (Nat.le_of_ble_eq_true rfl) (we_var (i := 4) rfl (.inr (.inl rfl)) rfl (⟨_, .obj, rfl, wa_cons (we_var (i := 7) rfl (.inl rfl) rfl (wa_nil ((callee0 fun R Z hR hZ => ⟨_, n, hearAll n ks, y, rfl, .obj, hn, hg, hnx _ hy, hH1, hH2, fun o ho => hR _ _ (by rw [greatestO_eq ho]; exact ⟨rfl, rfl⟩)⟩))))⟩))))⟩) (⟨_, _, .self, .self, by walk_at "s_okd", by walk_at "s_okd", ?_⟩)⟩)))⟩)))))
  rw [eqv_opts (greatestO n (hearAll n ks)) spots]
  exact q _ (hBe.mono (by simp only [List.length_range]; omega))

/-- a look that is tried -/
structure Tri (n : Int) (l : Look) : Prop where
  word : isWord l.1
  x : -100000000000000000000000000000000000000000000000000000000000000000 < l.2.1 ∧ l.2.1 < 100000000000000000000000000000000000000000000000000000000000000000
  y : -100000000000000000000000000000000000000000000000000000000000000000 < l.2.2 ∧ l.2.2 < 100000000000000000000000000000000000000000000000000000000000000000
  hy : By (l.2.2 - l.2.1 / n * n)
theorem eqv_bb (b : Bool) : (D.bl b).eqv (.bl b) = true := by cases b <;> rfl
theorem nilB (xs : List Look) : (D.lst (xs.map lkD)).eqv (.lst []) = xs.isEmpty := by
  cases xs with
  | nil => exact eqv_nil_nil
  | cons x xs => exact eqv_nil_cons _ _
theorem home_in {n : Int} (hn : 0 < n) (l : Look) : 0 ≤ (home n l).2.1 ∧ (home n l).2.1 < n := by
  show 0 ≤ l.2.1 - l.2.1 / n * n ∧ l.2.1 - l.2.1 / n * n < n
  have := floor_in (x := l.2.1) hn
  omega
theorem tri_true {n : Int} (hn : 0 < n ∧ n < 10000000000000000000000000000000) {F : Int → Int} {l : Look} (h : TrueT n F l) : Tri n l := by
  obtain ⟨_, hw, b1, b2⟩ := h
  have := floor_in (x := l.2.1) hn.1
  refine ⟨hw, by simp only [Bt] at b1; omega, by simp only [Bt] at b2; omega, ?_⟩
  simp only [Bt, By] at *
  omega
theorem tri_any {n : Int} {l : Look} (hn : 0 < n ∧ n < 10000000000000000000000000000000) (h : AnyB n l) : Tri n l := by
  have h1 := h.x
  have h2 := h.y
  have := floor_in (x := l.2.1) hn.1
  refine ⟨h.word, by omega, by omega, ?_⟩
  simp only [By]
  omega
def pfLaw : PF := fun ds M R _ => ∃ ns : List Int, ds = [.lst (ns.map D.int)] ∧ ns.length ≤ 63 ∧ M = [] ∧ ∀ M', R (.bl true) M'
set_option maxHeartbeats 0 in
theorem ok_law {f fd f1 fd1 f2 fd2 f3 fd3 f4 fd4 f5 fd5 f6 fd6 f7 fd7 f8 fd8 f9 fd9 fa fda fb fdb} (F : Fun K "law" "law" s_law f fd) (m_range : mg "range" = none) (m_len : mg "len" = none) (m_int : mg "int" = none)
    (D_tray : Def P w K mg base "_law_tray" f1 fd1 ["script"] 1 pfTray) (D_len : Def P w K mg base "_law_length" f2 fd2 ["tray"] 3 pfLen) (D_secret : Def P w K mg base "_law_secret" f3 fd3 ["tray", "size"] 3 pfSecret)
    (D_init : CDef P w K mg base "Dark" C f4 fd4 ["self", "length"] 2 (pfInit C)) (D_draw : Def P w K mg base "_law_draw" f5 fd5 ["tray", "many"] 1 pfDraw) (D_look : Def P w K mg base "_law_true_look" f6 fd6 ["tray", "size", "steps"] 3 pfLook)
    (D_any : Def P w K mg base "_law_any_look" f7 fd7 ["tray", "size"] 2 pfAny) (D_lhome : Def P w K mg base "_law_home" f8 fd8 ["size", "look"] 1 pfLhome) (D_apart : Def P w K mg base "_law_apart" f9 fd9 ["size", "one", "other"] 1 pfApart)
    (D_done : Def P w K mg base "_law_done" fa fda ["made", "look", "drops", "named"] 5 (pfDone C)) (D_stands : Def P w K mg base "_law_stands_so" fb fdb ["tray", "size", "made", "known"] 6 (pfStands C)) :
    FnOk P w K mg base (L2.CX P w) 7 f fd ["script"] (liftF K pfLaw) := by
  refine fn_mk F sc_law (fun ds M R Z ⟨ns, e, _⟩ => by subst e; rfl) ?_
  rintro ds M R Z ⟨ns, rfl, hl, rfl, q⟩
  refine wss_cons (ws_asg (i := 1) rfl (.inl rfl) (we_call D_tray (Nat.le_of_ble_eq_true rfl) rfl (wa_cons (we_var (i := 0) rfl (.inl rfl) rfl (wa_nil (?_))))))
  refine callee0 fun R Z hR hZ => ⟨ns, rfl, hl, rfl, fun a M' hB => hR _ _ ?_⟩
  refine wss_cons (ws_forR (i := 2) rfl m_range rfl (.inl rfl) (fun k Γ1 M1 => ∃ (c2 c3 c4 c5 c6 c7 c8 c9 c10 c11 c12 c13 c14 c15 c16 : Option D), Γ1 = [some (.lst (ns.map D.int)), some (.ptr a), c2, c3, c4, c5, c6, c7, c8, c9, c10, c11, c12, c13, c14, c15, c16] ∧ IsTray (10000 * k) a M1)
    (we_add (we_int (we_len rfl (by walk_at "s_mg") (we_takeL (we_var (i := 0) rfl (.inl rfl) rfl (⟨_, rfl, by decide, ⟨_, .inl .self, ⟨_, _, rfl, rfl, ⟨_, rfl, ?_⟩⟩⟩⟩)))))))
  have ht : ((ns.map D.int).take (6 : Int).toNat).length ≤ 6 := by rw [List.length_take]; exact Nat.min_le_left _ _
  refine ⟨by omega, by omega, ⟨_, _, _, _, _, _, _, _, _, _, _, _, _, _, _, rfl, hB.mono (by omega)⟩, ?_, ?_⟩
  · rintro k Γ2 M2 hk ⟨c2, c3, c4, c5, c6, c7, c8, c9, c10, c11, c12, c13, c14, c15, c16, rfl, hB0⟩
    have hk' : (k : Int) < 8 := by omega
    refine wss_cons (ws_asg (i := 3) rfl (.inr ⟨rfl, rfl⟩) (we_call D_len (Nat.le_of_ble_eq_true rfl) rfl (wa_cons (we_var (i := 1) rfl (.inl rfl) rfl (wa_nil (?_))))))
    refine callee0 fun R Z hR hZ => ⟨a, _, rfl, hB0, by omega, fun n M1 hn hn2 hB0 => hR _ _ ?_⟩
    clear hR hZ
    refine wss_cons (ws_asg (i := 4) rfl (.inl rfl) (we_call D_secret (Nat.le_of_ble_eq_true rfl) rfl (wa_cons (we_var (i := 1) rfl (.inl rfl) rfl (wa_cons (we_var (i := 3) rfl (.inr (.inl rfl)) rfl (wa_nil (?_))))))))
    refine callee0 fun R Z hR hZ => ⟨a, n, _, rfl, hB0, by omega, ⟨hn, hn2⟩, fun ps M2 hst hB0 => hR _ _ ?_⟩
    clear hR hZ
    have hgs : Bs n := by simp only [Bs]; omega
    have hg : Bg n := by simp only [Bg]; omega
    refine wss_cons (ws_asg (i := 5) rfl (.inl rfl) (we_make D_init (Nat.le_of_ble_eq_true rfl) rfl (wa_cons (we_var (i := 3) rfl (.inr (.inl rfl)) rfl (wa_nil (fun q901 => ⟨_, [(q901, _)], rfl, fun R Z hR hZ => ⟨q901, n, rfl, hn, rfl, hR _ _ ⟨rfl, ?_⟩⟩⟩))))))
    refine wss_cons (ws_asg (i := 6) rfl (.inl rfl) (we_lst (wa_nil (⟨Nat.le_of_ble_eq_true rfl, ?_⟩))))
    generalize q901 = p at *
    generalize M2 = M0 at *
    refine wss_perm List.perm_append_comm ?_
    show WSs _ _ _ _ (darkM p C n [] ++ M0)
    refine wss_cons (ws_forR (i := 7) rfl m_range rfl (.inl rfl) (fun t Γ1 M1 => ∃ (ks : List Look) (c7 c8 c9 c10 c11 c12 c13 c14 c15 c16 : Option D) (Mt : Cells), Γ1 = [some (.lst (ns.map D.int)), some (.ptr a), some (.int k), some (.int n), some (.lst (ps.map prD)), some (.ptr p), some (.lst (ks.map lkD)), c7, c8, c9, c10, c11, c12, c13, c14, c15, c16] ∧ Kp n ks ∧ M1 = darkM p C n (hearAll n ks) ++ Mt ∧ IsTray (10000 * k + 106 + 250 * t) a Mt)
      (we_call D_draw (Nat.le_of_ble_eq_true rfl) rfl (wa_cons (we_var (i := 1) rfl (.inl rfl) rfl (wa_cons (we_int (wa_nil ((callDraw (kept := darkM p C n []) hB0 (by omega) (by walk_at "s_sm") (by first | omega | (have eyl := congrArg List.length ey; simp only [List.length_append, List.length_cons, List.length_range, List.length_map] at *; omega)) fun r1 M1 hr1 hs1 hB1 => ⟨_, rfl, ?_⟩)))))))))
    refine ⟨by omega, by omega, ⟨[], _, _, _, _, _, _, _, _, _, _, M1, rfl, Kp.nil n, rfl, hB1.mono (by omega)⟩, ?_, ?_⟩
    · clear q hB0 hB1 hB
      rintro t Γ2 M2 ht ⟨ks, c7, c8, c9, c10, c11, c12, c13, c14, c15, c16, Mt, rfl, hk, rfl, hB0⟩
      have ht' : (t : Int) < 31 := by omega
      have hkl := hk.len
      have hH1 := (hk.heard hn2).1
      have hH2 := (hk.heard hn2).2
      generalize Mt = M0 at *
      refine wss_cut (fun Γ1 M1 => ∃ (b : Bool) (M2 : Cells), Γ1 = [some (.lst (ns.map D.int)), some (.ptr a), some (.int k), some (.int n), some (.lst (ps.map prD)), some (.ptr p), some (.lst (ks.map lkD)), some (.int t), some (.bl b), c9, c10, c11, c12, c13, c14, c15, c16] ∧ (b = false → ks.length ≤ 23) ∧ M1 = darkM p C n (hearAll n ks) ++ M2 ∧ IsTray (10000 * k + 107 + 250 * t) a M2) ?_ ?_
      · refine ws_asg (i := 8) rfl (.inl rfl) (we_or (we_gt (we_len rfl (by walk_at "s_mg") (we_var (i := 6) rfl (.inl rfl) rfl (⟨_, .inl .self, we_int (⟨_, _, rfl, rfl, ⟨_, rfl, br_dec (fun h210 => ?_) (fun h210 => we_one (we_eq (we_call D_draw (Nat.le_of_ble_eq_true rfl) rfl (wa_cons (we_var (i := 1) rfl (.inl rfl) rfl (wa_cons (we_int (wa_nil ((callDraw (kept := darkM p C n (hearAll n ks)) hB0 (by omega) (by walk_at "s_sm") (by first | omega | (have eyl := congrArg List.length ey; simp only [List.length_append, List.length_cons, List.length_range, List.length_map] at *; omega)) fun r1 M1 hr1 hs1 hB1 => we_int (⟨_, _, .self, .self, by walk_at "s_okd", by walk_at "s_okd", ?_⟩)))))))))))⟩⟩)⟩)))))
        · exact ⟨true, M0, rfl, fun z => (by cases z), rfl, hB0.mono (by omega)⟩
        · exact ⟨_, M1, rfl, fun _ => by simp only [List.length_map] at *; omega, rfl, hB1.mono (by omega)⟩
      clear hB0
      rintro Γ1 M1 ⟨b, M0, rfl, hb, rfl, hB0⟩
      refine wss_cons (ws_asg (i := 9) rfl (.inl rfl) (we_ixX (we_lst (wa_cons (we_call D_look (Nat.le_of_ble_eq_true rfl) rfl (wa_cons (we_var (i := 1) rfl (.inl rfl) rfl (wa_cons (we_var (i := 3) rfl (.inr (.inl rfl)) rfl (wa_cons (we_var (i := 4) rfl (.inl rfl) rfl (wa_nil ((callLook (kept := darkM p C n (hearAll n ks)) hB0 (by omega) ⟨hn, hn2⟩ hst fun l1 M1 hl1 hB1 => wa_cons (we_call D_any (Nat.le_of_ble_eq_true rfl) rfl (wa_cons (we_var (i := 1) rfl (.inl rfl) rfl (wa_cons (we_var (i := 3) rfl (.inr (.inl rfl)) rfl (wa_nil (⟨darkM p C n (hearAll n ks), M1, rfl, fun R Z hR hZ => ⟨a, n, _, rfl, hB1, by omega, ⟨hn, hn2⟩, fun l2 M2 hl2 hB2 => hR _ _ (wa_nil (⟨Nat.le_of_ble_eq_true rfl, we_div (we_call D_draw (Nat.le_of_ble_eq_true rfl) rfl (wa_cons (we_var (i := 1) rfl (.inl rfl) rfl (wa_cons (we_int (wa_nil ((callDraw (kept := darkM p C n (hearAll n ks)) hB2 (by omega) (by walk_at "s_sm") (by first | omega | (have eyl := congrArg List.length ey; simp only [List.length_append, List.length_cons, List.length_range, List.length_map] at *; omega)) fun r3 M3 hr3 hs3 hB3 => we_int (⟨_, _, rfl, rfl, (by walk_at "s_div"), ⟨_, _, .inl rfl, rfl, (by simp only [List.length_cons, List.length_nil]; omega), fun z901 hgz901 => ?_⟩⟩)))))))))⟩))⟩⟩)))))))))))))))))))))
      obtain ⟨l0, ez, hl0⟩ : ∃ l0, z901 = lkD l0 ∧ Tri n l0 := by
        have hm := List.mem_of_getElem? hgz901
        simp only [List.mem_cons, List.not_mem_nil, or_false] at hm
        rcases hm with e | e
        · exact ⟨l1, e, tri_true ⟨hn, hn2⟩ hl1⟩
        · exact ⟨l2, e, tri_any ⟨hn, hn2⟩ hl2⟩
      subst ez
      have hB0 : IsTray (10000 * k + 160 + 250 * t) a M3 := hB3.mono (by omega)
      clear hgz901 hB1 hB2 hB3 hl1 hl2
      generalize M3 = M0 at *
      refine wss_cut (fun Γ1 M1 => ∃ (l : Look) (c10 c11 c12 c13 : Option D) (M2 : Cells), Γ1 = [some (.lst (ns.map D.int)), some (.ptr a), some (.int k), some (.int n), some (.lst (ps.map prD)), some (.ptr p), some (.lst (ks.map lkD)), some (.int t), some (.bl b), some (lkD l), c10, c11, c12, c13, c14, c15, c16] ∧ Tri n l ∧ M1 = darkM p C n (hearAll n ks) ++ M2 ∧ IsTray (10000 * k + 165 + 250 * t) a M2) ?_ ?_
      · cases hks : ks with
        | nil =>
          refine ws_if (wt_ww (ww_and (wt_ne (we_var (i := 6) rfl (.inl rfl) rfl (we_lst (wa_nil (⟨Nat.le_of_ble_eq_true rfl, ⟨_, _, .self, .self, by walk_at "s_okd", by walk_at "s_okd", br_nkF (eqv_nil_nil) (br_f (?_))⟩⟩)))))))
          exact wss_nil ⟨l0, _, _, _, _, M0, rfl, hl0, rfl, hB0.mono (by omega)⟩
        | cons z zs =>
          rw [← hks]
          have ne : (D.lst (ks.map lkD)).eqv (.lst []) = false := by rw [hks]; exact eqv_nil_cons _ _
          have hpos : 0 < (ks.map lkD).length := by rw [hks]; simp
          have hpu : (ks.map lkD).length ≤ 24 := by rw [List.length_map]; exact hkl
          have hib : (if b = true then (1 : Int) else 0) = 0 ∨ (if b = true then (1 : Int) else 0) = 1 := by cases b <;> simp
          have hib2 : 0 ≤ (if b = true then (1 : Int) else 0) ∧ (if b = true then (1 : Int) else 0) < 2 := by cases b <;> simp
          refine ws_if (wt_ww (ww_and (wt_ne (we_var (i := 6) rfl (.inl rfl) rfl (we_lst (wa_nil (⟨Nat.le_of_ble_eq_true rfl, ⟨_, _, .self, .self, by walk_at "s_okd", by walk_at "s_okd", br_nkT (ne) (ww_and1 (wt_eqI (we_call D_draw (Nat.le_of_ble_eq_true rfl) rfl (wa_cons (we_var (i := 1) rfl (.inl rfl) rfl (wa_cons (we_ixJ (P := fun v => 0 < v ∧ v ≤ 5) (we_lst (wa_cons (we_int (wa_cons (we_int (wa_nil (⟨Nat.le_of_ble_eq_true rfl, we_intOf rfl (by walk_at "s_mg") (we_var (i := 8) rfl (.inl rfl) rfl (.inl ⟨_, rfl, ⟨[_, _], _, rfl, rfl, by simp only [List.length_cons, List.length_nil]; omega, by walk_at "s_mem", fun v901 hv901 => wa_nil ((callDraw (kept := darkM p C n (hearAll n ks)) hB0 (by omega) (by walk_at "s_sm") (by first | omega | (have eyl := congrArg List.length ey; simp only [List.length_append, List.length_cons, List.length_range, List.length_map] at *; omega)) fun r1 M1 hr1 hs1 hB1 => we_int (⟨_, _, rfl, rfl, br_dec (fun h212 => ?_) (fun h212 => ?_)⟩)))⟩⟩))⟩))))))))))))))⟩⟩)))))))
          · refine wss_cons (ws_asgG (we_ixA ks lkD (we_var (i := 6) rfl (.inl rfl) rfl (we_call D_draw (Nat.le_of_ble_eq_true rfl) rfl (wa_cons (we_var (i := 1) rfl (.inl rfl) rfl (wa_cons (we_len rfl (by walk_at "s_mg") (we_var (i := 6) rfl (.inl rfl) rfl (⟨_, .inl .self, wa_nil ((callDraw (kept := darkM p C n (hearAll n ks)) hB1 (by omega) (by walk_at "s_sm") (by first | omega | (have eyl := congrArg List.length ey; simp only [List.length_append, List.length_cons, List.length_range, List.length_map] at *; omega)) fun r2 M2 hr2 hs2 hB2 => ⟨_, .inl rfl, rfl, by simp only [List.length_map] at *; omega, fun z902 hzz902 hgz902 => wg_tup rfl (wgs_cons (wg_name (i := 10) rfl (.inl rfl) (wgs_cons (wg_name (i := 11) rfl (.inr ⟨rfl, rfl⟩) (wgs_cons (wg_name (i := 12) rfl (.inl rfl) (wgs_nil (?_))))))))⟩))⟩))))))))))
            have hzb := hk.big _ hzz902
            have hzw := hk.word _ hzz902
            have hzh := hk.hm _ hzz902
            clear hgz902
            generalize z902 = z at *
            refine wss_cons (ws_asg (i := 13) rfl (.inl rfl) (we_mul (we_sub (we_call D_draw (Nat.le_of_ble_eq_true rfl) rfl (wa_cons (we_var (i := 1) rfl (.inl rfl) rfl (wa_cons (we_int (wa_nil ((callDraw (kept := darkM p C n (hearAll n ks)) hB2 (by omega) (by walk_at "s_sm") (by first | omega | (have eyl := congrArg List.length ey; simp only [List.length_append, List.length_cons, List.length_range, List.length_map] at *; omega)) fun r3 M3 hr3 hs3 hB3 => we_int (⟨_, _, rfl, rfl, we_var (i := 3) rfl (.inr (.inl rfl)) rfl (⟨_, _, rfl, rfl, (by walk_at "s_mul"), ?_⟩)⟩))))))))))))
            refine wss_cons (ws_asg (i := 9) rfl (.inl rfl) (we_tup (wa_cons (we_var (i := 10) rfl (.inl rfl) rfl (wa_cons (we_add (we_var (i := 11) rfl (.inr (.inl rfl)) rfl (we_var (i := 13) rfl (.inl rfl) rfl (⟨_, _, rfl, rfl, wa_cons (we_add (we_var (i := 12) rfl (.inl rfl) rfl (we_var (i := 13) rfl (.inl rfl) rfl (⟨_, _, rfl, rfl, wa_nil (⟨Nat.le_of_ble_eq_true rfl, ?_⟩)⟩))))⟩)))))))))
            have b5 := mulB (a := r3 - 2) (b := n) (A := 2) (B := 10000000000000000000000000000000) (by omega) (by omega)
            refine wss_nil ⟨(z.1, z.2.1 + (r3 - 2) * n, z.2.2 + (r3 - 2) * n), _, _, _, _, M3, rfl, ⟨hzw, by show _ < z.2.1 + _ ∧ z.2.1 + _ < _; omega, by show _ < z.2.2 + _ ∧ z.2.2 + _ < _; have := hzb.2; simp only [By] at this; omega, ?_⟩, rfl, hB3.mono (by omega)⟩
            show By (z.2.2 + (r3 - 2) * n - (z.2.1 + (r3 - 2) * n) / n * n)
            have e : z.2.1 / n = 0 := Int.ediv_eq_zero_of_lt hzb.1.1 hzb.1.2
            rw [Int.add_mul_ediv_right _ _ (by omega), e, Int.zero_add, Int.add_sub_cancel]
            exact hzb.2
          · exact wss_nil ⟨l0, _, _, _, _, M1, rfl, hl0, rfl, hB1.mono (by omega)⟩
      clear hB0 hl0
      rintro Γ1 M1 ⟨l, c10, c11, c12, c13, Mt, rfl, hl, rfl, hB4⟩
      have hlb : BsL l := ⟨by have := hl.x; simp only [Bs]; omega, by have := hl.y; simp only [Bs]; omega⟩
      have hlG : BgL l := ⟨by have := hl.x; simp only [Bg]; omega, by have := hl.y; simp only [Bg]; omega⟩
      have hhI := home_in hn l
      have hhY : By (home n l).2.2 := hl.hy
      have hhG : BgL (home n l) := home_bg hn hgs hlb
      have hyG : ∀ y ∈ ks, BgL y := fun y hy => by
        obtain ⟨h1, h2⟩ := hk.bs hn2 y hy
        exact ⟨by simp only [Bs, Bg] at *; omega, by simp only [Bs, Bg] at *; omega⟩
      have hk2 := kept_kp hn hk (b := b) (h := home n l) hb hl.word ⟨hhI, hhY⟩ (home_home hn l)
      refine wss_cons (ws_asg (i := 11) rfl (.inr ⟨rfl, rfl⟩) (we_call D_lhome (Nat.le_of_ble_eq_true rfl) rfl (wa_cons (we_var (i := 3) rfl (.inr (.inl rfl)) rfl (wa_cons (we_var (i := 9) rfl (.inl rfl) rfl (wa_nil ((callee0 fun R Z hR hZ => ⟨n, l, rfl, hn, hg, hlG, hR _ _ (?_)⟩)))))))))
      refine wss_cons (ws_lcL (i := 14) [("one", 16)] rfl rfl rfl (ks) (lkD) _ (we_var (i := 6) rfl (.inl rfl) rfl (⟨rfl, lcq_filter (fun one => apart n (home n l) one) lkD (lenB' (by omega)) (fun y hy => ⟨_, _, .name (i := 16) rfl (.inl rfl), rfl, wis_one (wt_val (we_call D_apart (Nat.le_of_ble_eq_true rfl) rfl (wa_cons (we_var (i := 3) rfl (.inr (.inl rfl)) rfl (wa_cons (we_var (i := 11) rfl (.inr (.inl rfl)) rfl (wa_cons (we_var (i := 16) rfl (.inl rfl) rfl (wa_nil ((callee0 fun R Z hR hZ => ⟨n, home n l, y, rfl, hn, hg, hhG, hyG _ hy, hR _ _ (⟨_, rfl, ⟨fun hw => we_var (i := 16) rfl (.inl rfl) rfl (⟨hw, rfl, rfl⟩), fun hw => ⟨hw, rfl⟩⟩⟩)⟩)))))))))))⟩) (?_)⟩)))
      refine wss_cut (fun Γ1 M1 => Γ1 = [some (.lst (ns.map D.int)), some (.ptr a), some (.int k), some (.int n), some (.lst (ps.map prD)), some (.ptr p), some (.lst (ks.map lkD)), some (.int t), some (.bl b), some (lkD l), c10, some (lkD (home n l)), c12, c13, some (.lst ((ks.filter fun one => apart n (home n l) one).map lkD)), some (.bl (dueB b n ks (home n l))), c16] ∧ M1 = darkM p C n (hearAll n ks) ++ Mt) ?_ ?_
      · refine ws_asg (i := 15) rfl (.inl rfl) (we_ifE (wt_val (we_var (i := 8) rfl (.inl rfl) rfl (⟨_, rfl, ⟨fun h218 => we_in (we_var (i := 11) rfl (.inr (.inl rfl)) rfl (we_var (i := 6) rfl (.inl rfl) rfl (⟨_, _, .self, .inl .self, by walk_at "s_okd", by walk_at "s_okd", ?_⟩))), fun h218 => we_eq (we_var (i := 14) rfl (.inl rfl) rfl (we_lst (wa_nil (⟨Nat.le_of_ble_eq_true rfl, ⟨_, _, .self, .self, by walk_at "s_okd", by walk_at "s_okd", ?_⟩⟩))))⟩⟩))))
        · rw [any_lk]
          have e : dueB b n ks (home n l) = decide (home n l ∈ ks) := by unfold dueB; rw [if_pos h218]
          rw [e]
          exact ⟨rfl, rfl⟩
        · rw [nilB]
          have e : dueB b n ks (home n l) = (ks.filter fun one => apart n (home n l) one).isEmpty := by unfold dueB; rw [if_neg (by rw [h218]; exact Bool.false_ne_true)]
          rw [e]
          exact ⟨rfl, rfl⟩
      rintro Γ1 M1 ⟨rfl, rfl⟩
      have hd1 : (D.bl (deed b n (hearAll n ks) l).1).eqv (.bl (dueB b n ks (home n l))) = true := by rw [deed_eq hn hk]; exact eqv_bb _
      have hd2 : (deed b n (hearAll n ks) l).2 = hearAll n (keptL b n ks (home n l)) := by rw [deed_eq hn hk]
      refine wss_cons (ws_if (wt_ne (we_perm List.perm_append_comm (we_call D_done (Nat.le_of_ble_eq_true rfl) rfl (wa_cons (we_var (i := 5) rfl (.inl rfl) rfl (wa_cons (we_var (i := 9) rfl (.inl rfl) rfl (wa_cons (we_var (i := 8) rfl (.inl rfl) rfl (wa_cons (we_eq (we_mod (we_var (i := 7) rfl (.inl rfl) rfl (we_int (⟨_, _, rfl, rfl, (by walk_at "s_mod"), we_int (⟨_, _, .self, .self, by walk_at "s_okd", by walk_at "s_okd", wa_nil (⟨Mt, darkM p C n (hearAll n ks), rfl, fun R Z hR hZ => ⟨p, n, hearAll n ks, l, b, _, rfl, rfl, hn, hgs, hl.word, hlb, hH1, hH2, hR _ _ ⟨_, List.perm_append_comm, we_var (i := 15) rfl (.inl rfl) rfl (⟨_, _, .self, .self, by walk_at "s_okd", by walk_at "s_okd", br_nkF (hd1) (?_)⟩)⟩⟩⟩)⟩)⟩))))))))))))))))
      rw [hd2]
      refine wss_nil ?_
      refine wss_cut (fun Γ1 M1 => ∃ c16, Γ1 = [some (.lst (ns.map D.int)), some (.ptr a), some (.int k), some (.int n), some (.lst (ps.map prD)), some (.ptr p), some (.lst ((keptL b n ks (home n l)).map lkD)), some (.int t), some (.bl b), some (lkD l), c10, some (lkD (home n l)), c12, c13, some (.lst ((ks.filter fun one => apart n (home n l) one).map lkD)), some (.bl (dueB b n ks (home n l))), c16] ∧ M1 = darkM p C n (hearAll n (keptL b n ks (home n l))) ++ Mt) ?_ ?_
      · cases b with
        | true =>
          refine ws_if (wt_val (we_var (i := 8) rfl (.inl rfl) rfl (⟨_, rfl, br_t (?_)⟩)))
          refine wss_cons (ws_lcL (i := 6) [("one", 16)] rfl rfl rfl (ks) (lkD) _ (we_var (i := 6) rfl (.inl rfl) rfl (⟨rfl, lcq_filter (fun z => !(lkD z).eqv (lkD (home n l))) lkD (lenB' (by omega)) (fun y hy => ⟨_, _, .name (i := 16) rfl (.inl rfl), rfl, wis_one (wt_ne (we_var (i := 16) rfl (.inl rfl) rfl (we_var (i := 11) rfl (.inr (.inl rfl)) rfl (⟨_, _, .self, .self, by walk_at "s_okd", by walk_at "s_okd", br_nk (fun hw => we_var (i := 16) rfl (.inl rfl) rfl (⟨(by show (!_) = true; rw [hw]; rfl), rfl, rfl⟩)) (fun hw => ⟨(by show (!_) = false; rw [hw]; rfl), rfl⟩)⟩))))⟩) (?_)⟩)))
          exact wss_nil ⟨_, rfl, rfl⟩
        | false =>
          refine ws_if (wt_val (we_var (i := 8) rfl (.inl rfl) rfl (⟨_, rfl, br_f (?_)⟩)))
          by_cases hd : dueB false n ks (home n l) = true
          · by_cases hm : home n l ∈ ks
            · refine wss_cons (ws_if (wt_ww (ww_and (wt_val (we_var (i := 15) rfl (.inl rfl) rfl (⟨_, rfl, br_kT (hd) (ww_and1 (wt_nin (we_var (i := 11) rfl (.inr (.inl rfl)) rfl (we_var (i := 6) rfl (.inl rfl) rfl (⟨_, _, .self, .inl .self, by walk_at "s_okd", by walk_at "s_okd", br_nkF (by rw [any_lk]; exact decide_eq_true hm) (?_)⟩)))))⟩))))))
              have e : keptL false n ks (home n l) = ks := by unfold keptL; rw [if_neg Bool.false_ne_true, if_neg (fun z => z.2 hm)]
              rw [e]
              exact wss_nil (wss_nil ⟨_, rfl, rfl⟩)
            · refine wss_cons (ws_if (wt_ww (ww_and (wt_val (we_var (i := 15) rfl (.inl rfl) rfl (⟨_, rfl, br_kT (hd) (ww_and1 (wt_nin (we_var (i := 11) rfl (.inr (.inl rfl)) rfl (we_var (i := 6) rfl (.inl rfl) rfl (⟨_, _, .self, .inl .self, by walk_at "s_okd", by walk_at "s_okd", br_nkT (by rw [any_lk]; exact decide_eq_false hm) (?_)⟩)))))⟩))))))
              have e : keptL false n ks (home n l) = ks ++ [home n l] := by unfold keptL; rw [if_neg Bool.false_ne_true, if_pos ⟨hd, hm⟩]
              have e2 : (ks ++ [home n l]).map lkD = ks.map lkD ++ [lkD (home n l)] := by rw [List.map_append]; rfl
              refine wss_cons (ws_asg (i := 6) rfl (.inl rfl) (we_addL (we_var (i := 6) rfl (.inl rfl) rfl (we_lst (wa_cons (we_var (i := 11) rfl (.inr (.inl rfl)) rfl (wa_nil (⟨Nat.le_of_ble_eq_true rfl, ⟨_, _, .self, .self, by walk_at "s_len2", ?_⟩⟩))))))))
              rw [e, e2]
              exact wss_nil (wss_nil ⟨_, rfl, rfl⟩)
          · have hd' : dueB false n ks (home n l) = false := by simpa using hd
            refine wss_cons (ws_if (wt_ww (ww_and (wt_val (we_var (i := 15) rfl (.inl rfl) rfl (⟨_, rfl, br_kF (hd') (br_f (?_))⟩))))))
            have e : keptL false n ks (home n l) = ks := by unfold keptL; rw [if_neg Bool.false_ne_true, if_neg (fun z => hd z.1)]
            rw [e]
            exact wss_nil (wss_nil ⟨_, rfl, rfl⟩)
      rintro Γ1 M1 ⟨c16, rfl, rfl⟩
      refine wss_cons (ws_if (wt_not (wt_val (we_call D_stands (Nat.le_of_ble_eq_true rfl) rfl (wa_cons (we_var (i := 1) rfl (.inl rfl) rfl (wa_cons (we_var (i := 3) rfl (.inr (.inl rfl)) rfl (wa_cons (we_var (i := 5) rfl (.inl rfl) rfl (wa_cons (we_var (i := 6) rfl (.inl rfl) rfl (wa_nil ((callee0 fun R Z hR hZ => ⟨a, p, n, _, _, Mt, rfl, rfl, hB4, by omega, ⟨hn, hn2⟩, hk2, fun M6 hB6 => hR _ _ (⟨_, rfl, br_not (br_t (?_))⟩)⟩)))))))))))))))
      exact wss_nil (wss_nil ⟨_, _, _, _, _, _, _, _, _, _, _, M6, rfl, hk2, rfl, hB6.mono (by omega)⟩)
    · rintro Γ2 M2 ⟨ks, c7, c8, c9, c10, c11, c12, c13, c14, c15, c16, Mt, rfl, hk, rfl, hB4⟩
      exact wss_drop (i := 0) (wss_nil ⟨_, _, _, _, _, _, _, _, _, _, _, _, _, _, _, rfl, hB4.mono (by omega)⟩)
  · rintro Γ2 M2 ⟨c2, c3, c4, c5, c6, c7, c8, c9, c10, c11, c12, c13, c14, c15, c16, rfl, hB0⟩
    refine wss_cons (ws_ret (we_bl (?_)))
    exact q _
theorem law_start {H : Hp} {a : Addr} {ns : List Int} (hl : ns.length ≤ 63) (hS : SqL K H a (ns.map V.int)) : liftF K pfLaw [.ref a] H (fun v _ => v = .bl true) (fun _ _ _ => False) := by
  refine ⟨fun _ => False, [], [.lst (ns.map D.int)], ⟨fun _ z => z.elim, List.nodup_nil, fun _ z => (by cases z), fun _ z => (by cases z)⟩, .cons (.lst ?_ (Reps.of_ints ns)) .nil, ns, rfl, hl, rfl, fun M' v H' _ _ r => by cases r; rfl⟩
  rcases hS with h | h
  · exact .inl ⟨fun z => (by rcases z with z | z <;> cases z), h⟩
  · exact .inr h

end


theorem all_mk {l : PySem.W.OpenLaw} {w : World} {K : PySem.W.Frag} {h : Heap} {mg : Str → Option Value} {fa : Addr} (X : K.In h) (G : h.Ns mainGlobals mg) (hfa : mg "law" = some (.ref fa))
    {f_tray f_draw f_great f_low f_high f_nl f_nw f_ns f_nb f_init f_home f_ap f_fa f_hear f_looks f_least f_greatest f_drop f_eqm f_len f_lead f_secret f_look f_spot f_apart f_any f_made f_mixed f_lhome f_done f_stands f_law C_dark : Addr} {od_tray an_tray od_draw an_draw od_great an_great od_low an_low od_high an_high od_nl an_nl od_nw an_nw od_ns an_ns od_nb an_nb od_init an_init od_home an_home od_ap an_ap od_fa an_fa od_hear an_hear od_looks an_looks od_least an_least od_greatest an_greatest od_drop an_drop od_eqm an_eqm od_len an_len od_lead an_lead od_secret an_secret od_look an_look od_spot an_spot od_apart an_apart od_any an_any od_made an_made od_mixed an_mixed od_lhome an_lhome od_done an_done od_stands an_stands od_law an_law : Option Addr} {sl_tray sl_draw sl_great sl_low sl_high sl_nl sl_nw sl_ns sl_nb sl_init sl_home sl_ap sl_fa sl_hear sl_looks sl_least sl_greatest sl_drop sl_eqm sl_len sl_lead sl_secret sl_look sl_spot sl_apart sl_any sl_made sl_mixed sl_lhome sl_done sl_stands sl_law : Array (Option Value)} {oc_tray kV_tray dc_tray pm_tray cd_tray ct_tray oc_draw kV_draw dc_draw pm_draw cd_draw ct_draw oc_great kV_great dc_great pm_great cd_great ct_great oc_low kV_low dc_low pm_low cd_low ct_low oc_high kV_high dc_high pm_high cd_high ct_high oc_nl kV_nl dc_nl pm_nl cd_nl ct_nl oc_nw kV_nw dc_nw pm_nw cd_nw ct_nw oc_ns kV_ns dc_ns pm_ns cd_ns ct_ns oc_nb kV_nb dc_nb pm_nb cd_nb ct_nb oc_init kV_init dc_init pm_init cd_init ct_init oc_home kV_home dc_home pm_home cd_home ct_home oc_ap kV_ap dc_ap pm_ap cd_ap ct_ap oc_fa kV_fa dc_fa pm_fa cd_fa ct_fa oc_hear kV_hear dc_hear pm_hear cd_hear ct_hear oc_looks kV_looks dc_looks pm_looks cd_looks ct_looks oc_least kV_least dc_least pm_least cd_least ct_least oc_greatest kV_greatest dc_greatest pm_greatest cd_greatest ct_greatest oc_drop kV_drop dc_drop pm_drop cd_drop ct_drop oc_eqm kV_eqm dc_eqm pm_eqm cd_eqm ct_eqm oc_len kV_len dc_len pm_len cd_len ct_len oc_lead kV_lead dc_lead pm_lead cd_lead ct_lead oc_secret kV_secret dc_secret pm_secret cd_secret ct_secret oc_look kV_look dc_look pm_look cd_look ct_look oc_spot kV_spot dc_spot pm_spot cd_spot ct_spot oc_apart kV_apart dc_apart pm_apart cd_apart ct_apart oc_any kV_any dc_any pm_any cd_any ct_any oc_made kV_made dc_made pm_made cd_made ct_made oc_mixed kV_mixed dc_mixed pm_mixed cd_mixed ct_mixed oc_lhome kV_lhome dc_lhome pm_lhome cd_lhome ct_lhome oc_done kV_done dc_done pm_done cd_done ct_done oc_stands kV_stands dc_stands pm_stands cd_stands ct_stands oc_law kV_law dc_law pm_law cd_law ct_law : Value}
    {tk_UPTO : Tok} (a_UPTO : PySem.W.nsIn K mainGlobals "UPTO" = some (some (.str "upto" tk_UPTO)))
    {tk_FROM : Tok} (a_FROM : PySem.W.nsIn K mainGlobals "FROM" = some (some (.str "from" tk_FROM)))
    {W_WORDS : Addr} {od_WORDS : Option Addr} {n_WORDS : Nat} {sl_WORDS : Array (Option Value)} {tk_WORDS0 tk_WORDS1 tk_WORDS2 : Tok} (a_WORDS : PySem.W.nsIn K mainGlobals "WORDS" = some (some (.ref W_WORDS))) (l_WORDS : K.lookup W_WORDS = some ⟨.type "tuple", od_WORDS, .seq #[.str "at" tk_WORDS0, .str "from" tk_WORDS1, .str "upto" tk_WORDS2] n_WORDS, sl_WORDS⟩)
    (aC_dark : PySem.W.nsIn K mainGlobals "Dark" = some (some (.ref C_dark))) (pg_dark : PySem.W.plainGet K C_dark Str.empty = true) (hd_dark : PySem.W.hasDictIn K C_dark = true) (po_dark : PySem.W.plainOver K C_dark = true) (sa_dark : PySem.W.findIn K (.ref C_dark) "__setattr__" = some (some (.builtin "object.__setattr__"))) (mk_dark : PySem.W.makesIn K C_dark = true) (kc_dark : PySem.W.keepIn K (.ref C_dark) = true) (n_turn_dark : PySem.W.findIn K (.ref C_dark) "turn" = some none) (n_heard_dark : PySem.W.findIn K (.ref C_dark) "heard" = some none) (iha_dark : PySem.W.findIn K (.ref C_dark) "__class__" = some (some (.builtin "object.__class__"))) (ihn_dark : PySem.W.specialIn K (.builtin "object.__class__") "__get__" = some (some (.builtin "getset_descriptor.__get__"))) (iht_dark : PySem.W.takesIn K (.builtin "object.__class__") = some true) (ihm_dark : PySem.W.mroIn K C_dark (.type "object") = some true) (icl_dark : PySem.W.isClsIn K C_dark = true) (ity_dark : PySem.W.typeIn K (.ref C_dark) = some (.type "type")) (ine_dark : PySem.W.findIn K (.ref C_dark) "__ne__" = some (some (.builtin "object.__ne__")))
    {C_x0 : Addr}
    {C_Clash fx_Clash : Addr} {nm_Clash q_Clash : Str} {N_Clash : Addr} {bs_Clash : List Value} {sn_Clash : List Str} {sub_Clash : List Value} {ab_Clash : Bool} {col_Clash : Option Bool} {dd_Clash odx_Clash anx_Clash : Option Addr} {m0_Clash m1_Clash m2_Clash m3_Clash m5_Clash : Option Value} {slx_Clash : Array (Option Value)} {ocx_Clash kVx_Clash dcx_Clash pmx_Clash cdx_Clash ctx_Clash : Value}
    (xa_Clash : PySem.W.nsIn K mainGlobals "Clash" = some (some (.ref C_Clash))) (xL_Clash : K.lookup C_Clash = some (excClassObj nm_Clash q_Clash C_Clash N_Clash bs_Clash [.ref C_x0, .type "ValueError", .type "Exception", .type "BaseException", .type "object"] true sn_Clash sub_Clash ab_Clash col_Clash dd_Clash m0_Clash m1_Clash m2_Clash m3_Clash m5_Clash "ValueError.__new__")) (xs_Clash : PySem.W.findIn K (.ref C_Clash) "__setattr__" = some (some (.builtin "object.__setattr__"))) (xe_Clash : PySem.W.subIn K (.ref C_Clash) (.type "BaseException") = some true) (xt_Clash : PySem.W.typeIn K (.ref C_Clash) = some (.type "type")) (xk_Clash : PySem.W.keepIn K (.ref C_Clash) = true) (xn_Clash : PySem.W.findIn K (.ref C_Clash) "what" = some none) (xi_Clash : PySem.W.findIn K (.ref C_Clash) "__init__" = some (some (.ref fx_Clash))) (xf_Clash : PySem.W.typeIn K (.ref fx_Clash) = some (.type "function")) (xc_Clash : PySem.W.isClsIn K C_Clash = true) (xl_Clash : K.lookup fx_Clash = some ⟨ocx_Clash, odx_Clash, .func (PySem.W.fnOf "__init__" "Clash.__init__" (defArgs s_xClash) (defBody s_xClash) (defScope s_xClash) .none kVx_Clash dcx_Clash pmx_Clash anx_Clash cdx_Clash ctx_Clash), slx_Clash⟩) (xd_Clash : PySem.W.codeIn K cdx_Clash "Clash.__init__" = true) (xp_Clash : PySem.W.keepIn K (.ref fx_Clash) = true)
    {C_NoLook fx_NoLook : Addr} {nm_NoLook q_NoLook : Str} {N_NoLook : Addr} {bs_NoLook : List Value} {sn_NoLook : List Str} {sub_NoLook : List Value} {ab_NoLook : Bool} {col_NoLook : Option Bool} {dd_NoLook odx_NoLook anx_NoLook : Option Addr} {m0_NoLook m1_NoLook m2_NoLook m3_NoLook m5_NoLook : Option Value} {slx_NoLook : Array (Option Value)} {ocx_NoLook kVx_NoLook dcx_NoLook pmx_NoLook cdx_NoLook ctx_NoLook : Value}
    (xa_NoLook : PySem.W.nsIn K mainGlobals "NoLook" = some (some (.ref C_NoLook))) (xL_NoLook : K.lookup C_NoLook = some (excClassObj nm_NoLook q_NoLook C_NoLook N_NoLook bs_NoLook [.ref C_x0, .type "ValueError", .type "Exception", .type "BaseException", .type "object"] true sn_NoLook sub_NoLook ab_NoLook col_NoLook dd_NoLook m0_NoLook m1_NoLook m2_NoLook m3_NoLook m5_NoLook "ValueError.__new__")) (xs_NoLook : PySem.W.findIn K (.ref C_NoLook) "__setattr__" = some (some (.builtin "object.__setattr__"))) (xe_NoLook : PySem.W.subIn K (.ref C_NoLook) (.type "BaseException") = some true) (xt_NoLook : PySem.W.typeIn K (.ref C_NoLook) = some (.type "type")) (xk_NoLook : PySem.W.keepIn K (.ref C_NoLook) = true) (xn_NoLook : PySem.W.findIn K (.ref C_NoLook) "what" = some none) (xi_NoLook : PySem.W.findIn K (.ref C_NoLook) "__init__" = some (some (.ref fx_NoLook))) (xf_NoLook : PySem.W.typeIn K (.ref fx_NoLook) = some (.type "function")) (xc_NoLook : PySem.W.isClsIn K C_NoLook = true) (xl_NoLook : K.lookup fx_NoLook = some ⟨ocx_NoLook, odx_NoLook, .func (PySem.W.fnOf "__init__" "NoLook.__init__" (defArgs s_xNoLook) (defBody s_xNoLook) (defScope s_xNoLook) .none kVx_NoLook dcx_NoLook pmx_NoLook anx_NoLook cdx_NoLook ctx_NoLook), slx_NoLook⟩) (xd_NoLook : PySem.W.codeIn K cdx_NoLook "NoLook.__init__" = true) (xp_NoLook : PySem.W.keepIn K (.ref fx_NoLook) = true)
    (em_Clash_Clash : PySem.W.subIn K (.ref C_Clash) (.ref C_Clash) = some true)
    (em_Clash_NoLook : PySem.W.subIn K (.ref C_Clash) (.ref C_NoLook) = some false)
    (em_NoLook_Clash : PySem.W.subIn K (.ref C_NoLook) (.ref C_Clash) = some false)
    (em_NoLook_NoLook : PySem.W.subIn K (.ref C_NoLook) (.ref C_NoLook) = some true)
    (a_tray : PySem.W.nsIn K mainGlobals "_law_tray" = some (some (.ref f_tray))) (l_tray : K.lookup f_tray = some ⟨oc_tray, od_tray, .func (PySem.W.fnOf "_law_tray" "_law_tray" (defArgs s_tray) (defBody s_tray) (defScope s_tray) .none kV_tray dc_tray pm_tray an_tray cd_tray ct_tray), sl_tray⟩) (c_tray : PySem.W.codeIn K cd_tray "_law_tray" = true) (k_tray : PySem.W.keepIn K (.ref f_tray) = true)
    (a_draw : PySem.W.nsIn K mainGlobals "_law_draw" = some (some (.ref f_draw))) (l_draw : K.lookup f_draw = some ⟨oc_draw, od_draw, .func (PySem.W.fnOf "_law_draw" "_law_draw" (defArgs s_draw) (defBody s_draw) (defScope s_draw) .none kV_draw dc_draw pm_draw an_draw cd_draw ct_draw), sl_draw⟩) (c_draw : PySem.W.codeIn K cd_draw "_law_draw" = true) (k_draw : PySem.W.keepIn K (.ref f_draw) = true)
    (a_great : PySem.W.nsIn K mainGlobals "_law_great" = some (some (.ref f_great))) (l_great : K.lookup f_great = some ⟨oc_great, od_great, .func (PySem.W.fnOf "_law_great" "_law_great" (defArgs s_great) (defBody s_great) (defScope s_great) .none kV_great dc_great pm_great an_great cd_great ct_great), sl_great⟩) (c_great : PySem.W.codeIn K cd_great "_law_great" = true) (k_great : PySem.W.keepIn K (.ref f_great) = true)
    (a_low : PySem.W.nsIn K mainGlobals "low" = some (some (.ref f_low))) (l_low : K.lookup f_low = some ⟨oc_low, od_low, .func (PySem.W.fnOf "low" "low" (defArgs s_low) (defBody s_low) (defScope s_low) .none kV_low dc_low pm_low an_low cd_low ct_low), sl_low⟩) (c_low : PySem.W.codeIn K cd_low "low" = true) (k_low : PySem.W.keepIn K (.ref f_low) = true)
    (a_high : PySem.W.nsIn K mainGlobals "high" = some (some (.ref f_high))) (l_high : K.lookup f_high = some ⟨oc_high, od_high, .func (PySem.W.fnOf "high" "high" (defArgs s_high) (defBody s_high) (defScope s_high) .none kV_high dc_high pm_high an_high cd_high ct_high), sl_high⟩) (c_high : PySem.W.codeIn K cd_high "high" = true) (k_high : PySem.W.keepIn K (.ref f_high) = true)
    (a_nl : PySem.W.nsIn K mainGlobals "need_length" = some (some (.ref f_nl))) (l_nl : K.lookup f_nl = some ⟨oc_nl, od_nl, .func (PySem.W.fnOf "need_length" "need_length" (defArgs s_nl) (defBody s_nl) (defScope s_nl) .none kV_nl dc_nl pm_nl an_nl cd_nl ct_nl), sl_nl⟩) (c_nl : PySem.W.codeIn K cd_nl "need_length" = true) (k_nl : PySem.W.keepIn K (.ref f_nl) = true)
    (a_nw : PySem.W.nsIn K mainGlobals "need_word" = some (some (.ref f_nw))) (l_nw : K.lookup f_nw = some ⟨oc_nw, od_nw, .func (PySem.W.fnOf "need_word" "need_word" (defArgs s_nw) (defBody s_nw) (defScope s_nw) .none kV_nw dc_nw pm_nw an_nw cd_nw ct_nw), sl_nw⟩) (c_nw : PySem.W.codeIn K cd_nw "need_word" = true) (k_nw : PySem.W.keepIn K (.ref f_nw) = true)
    (a_ns : PySem.W.nsIn K mainGlobals "not_short" = some (some (.ref f_ns))) (l_ns : K.lookup f_ns = some ⟨oc_ns, od_ns, .func (PySem.W.fnOf "not_short" "not_short" (defArgs s_ns) (defBody s_ns) (defScope s_ns) .none kV_ns dc_ns pm_ns an_ns cd_ns ct_ns), sl_ns⟩) (c_ns : PySem.W.codeIn K cd_ns "not_short" = true) (k_ns : PySem.W.keepIn K (.ref f_ns) = true)
    (a_nb : PySem.W.nsIn K mainGlobals "not_beyond" = some (some (.ref f_nb))) (l_nb : K.lookup f_nb = some ⟨oc_nb, od_nb, .func (PySem.W.fnOf "not_beyond" "not_beyond" (defArgs s_nb) (defBody s_nb) (defScope s_nb) .none kV_nb dc_nb pm_nb an_nb cd_nb ct_nb), sl_nb⟩) (c_nb : PySem.W.codeIn K cd_nb "not_beyond" = true) (k_nb : PySem.W.keepIn K (.ref f_nb) = true)
    (a_init : PySem.W.findIn K (.ref C_dark) "__init__" = some (some (.ref f_init))) (i_init : PySem.W.isFn K (.ref f_init) = true) (l_init : K.lookup f_init = some ⟨oc_init, od_init, .func (PySem.W.fnOf "__init__" "Dark.__init__" (defArgs s_init) (defBody s_init) (defScope s_init) .none kV_init dc_init pm_init an_init cd_init ct_init), sl_init⟩) (c_init : PySem.W.codeIn K cd_init "Dark.__init__" = true) (k_init : PySem.W.keepIn K (.ref f_init) = true)
    (a_home : PySem.W.findIn K (.ref C_dark) "home" = some (some (.ref f_home))) (i_home : PySem.W.isFn K (.ref f_home) = true) (l_home : K.lookup f_home = some ⟨oc_home, od_home, .func (PySem.W.fnOf "home" "Dark.home" (defArgs s_home) (defBody s_home) (defScope s_home) .none kV_home dc_home pm_home an_home cd_home ct_home), sl_home⟩) (c_home : PySem.W.codeIn K cd_home "Dark.home" = true) (k_home : PySem.W.keepIn K (.ref f_home) = true)
    (a_ap : PySem.W.findIn K (.ref C_dark) "is_apart" = some (some (.ref f_ap))) (i_ap : PySem.W.isFn K (.ref f_ap) = true) (l_ap : K.lookup f_ap = some ⟨oc_ap, od_ap, .func (PySem.W.fnOf "is_apart" "Dark.is_apart" (defArgs s_ap) (defBody s_ap) (defScope s_ap) .none kV_ap dc_ap pm_ap an_ap cd_ap ct_ap), sl_ap⟩) (c_ap : PySem.W.codeIn K cd_ap "Dark.is_apart" = true) (k_ap : PySem.W.keepIn K (.ref f_ap) = true)
    (a_fa : PySem.W.findIn K (.ref C_dark) "first_apart" = some (some (.ref f_fa))) (i_fa : PySem.W.isFn K (.ref f_fa) = true) (l_fa : K.lookup f_fa = some ⟨oc_fa, od_fa, .func (PySem.W.fnOf "first_apart" "Dark.first_apart" (defArgs s_fa) (defBody s_fa) (defScope s_fa) .none kV_fa dc_fa pm_fa an_fa cd_fa ct_fa), sl_fa⟩) (c_fa : PySem.W.codeIn K cd_fa "Dark.first_apart" = true) (k_fa : PySem.W.keepIn K (.ref f_fa) = true)
    (a_hear : PySem.W.findIn K (.ref C_dark) "hear" = some (some (.ref f_hear))) (i_hear : PySem.W.isFn K (.ref f_hear) = true) (l_hear : K.lookup f_hear = some ⟨oc_hear, od_hear, .func (PySem.W.fnOf "hear" "Dark.hear" (defArgs s_hear) (defBody s_hear) (defScope s_hear) .none kV_hear dc_hear pm_hear an_hear cd_hear ct_hear), sl_hear⟩) (c_hear : PySem.W.codeIn K cd_hear "Dark.hear" = true) (k_hear : PySem.W.keepIn K (.ref f_hear) = true)
    (a_looks : PySem.W.findIn K (.ref C_dark) "looks" = some (some (.ref f_looks))) (i_looks : PySem.W.isFn K (.ref f_looks) = true) (l_looks : K.lookup f_looks = some ⟨oc_looks, od_looks, .func (PySem.W.fnOf "looks" "Dark.looks" (defArgs s_looks) (defBody s_looks) (defScope s_looks) .none kV_looks dc_looks pm_looks an_looks cd_looks ct_looks), sl_looks⟩) (c_looks : PySem.W.codeIn K cd_looks "Dark.looks" = true) (k_looks : PySem.W.keepIn K (.ref f_looks) = true)
    (a_least : PySem.W.findIn K (.ref C_dark) "least" = some (some (.ref f_least))) (i_least : PySem.W.isFn K (.ref f_least) = true) (l_least : K.lookup f_least = some ⟨oc_least, od_least, .func (PySem.W.fnOf "least" "Dark.least" (defArgs s_least) (defBody s_least) (defScope s_least) .none kV_least dc_least pm_least an_least cd_least ct_least), sl_least⟩) (c_least : PySem.W.codeIn K cd_least "Dark.least" = true) (k_least : PySem.W.keepIn K (.ref f_least) = true)
    (a_greatest : PySem.W.findIn K (.ref C_dark) "greatest" = some (some (.ref f_greatest))) (i_greatest : PySem.W.isFn K (.ref f_greatest) = true) (l_greatest : K.lookup f_greatest = some ⟨oc_greatest, od_greatest, .func (PySem.W.fnOf "greatest" "Dark.greatest" (defArgs s_greatest) (defBody s_greatest) (defScope s_greatest) .none kV_greatest dc_greatest pm_greatest an_greatest cd_greatest ct_greatest), sl_greatest⟩) (c_greatest : PySem.W.codeIn K cd_greatest "Dark.greatest" = true) (k_greatest : PySem.W.keepIn K (.ref f_greatest) = true)
    (a_drop : PySem.W.findIn K (.ref C_dark) "drop" = some (some (.ref f_drop))) (i_drop : PySem.W.isFn K (.ref f_drop) = true) (l_drop : K.lookup f_drop = some ⟨oc_drop, od_drop, .func (PySem.W.fnOf "drop" "Dark.drop" (defArgs s_drop) (defBody s_drop) (defScope s_drop) .none kV_drop dc_drop pm_drop an_drop cd_drop ct_drop), sl_drop⟩) (c_drop : PySem.W.codeIn K cd_drop "Dark.drop" = true) (k_drop : PySem.W.keepIn K (.ref f_drop) = true)
    (a_eqm : PySem.W.findIn K (.ref C_dark) "__eq__" = some (some (.ref f_eqm))) (i_eqm : PySem.W.isFn K (.ref f_eqm) = true) (l_eqm : K.lookup f_eqm = some ⟨oc_eqm, od_eqm, .func (PySem.W.fnOf "__eq__" "Dark.__eq__" (defArgs s_eqm) (defBody s_eqm) (defScope s_eqm) .none kV_eqm dc_eqm pm_eqm an_eqm cd_eqm ct_eqm), sl_eqm⟩) (c_eqm : PySem.W.codeIn K cd_eqm "Dark.__eq__" = true) (k_eqm : PySem.W.keepIn K (.ref f_eqm) = true)
    (a_len : PySem.W.nsIn K mainGlobals "_law_length" = some (some (.ref f_len))) (l_len : K.lookup f_len = some ⟨oc_len, od_len, .func (PySem.W.fnOf "_law_length" "_law_length" (defArgs s_len) (defBody s_len) (defScope s_len) .none kV_len dc_len pm_len an_len cd_len ct_len), sl_len⟩) (c_len : PySem.W.codeIn K cd_len "_law_length" = true) (k_len : PySem.W.keepIn K (.ref f_len) = true)
    (a_lead : PySem.W.nsIn K mainGlobals "_law_lead" = some (some (.ref f_lead))) (l_lead : K.lookup f_lead = some ⟨oc_lead, od_lead, .func (PySem.W.fnOf "_law_lead" "_law_lead" (defArgs s_lead) (defBody s_lead) (defScope s_lead) .none kV_lead dc_lead pm_lead an_lead cd_lead ct_lead), sl_lead⟩) (c_lead : PySem.W.codeIn K cd_lead "_law_lead" = true) (k_lead : PySem.W.keepIn K (.ref f_lead) = true)
    (a_secret : PySem.W.nsIn K mainGlobals "_law_secret" = some (some (.ref f_secret))) (l_secret : K.lookup f_secret = some ⟨oc_secret, od_secret, .func (PySem.W.fnOf "_law_secret" "_law_secret" (defArgs s_secret) (defBody s_secret) (defScope s_secret) .none kV_secret dc_secret pm_secret an_secret cd_secret ct_secret), sl_secret⟩) (c_secret : PySem.W.codeIn K cd_secret "_law_secret" = true) (k_secret : PySem.W.keepIn K (.ref f_secret) = true)
    (a_look : PySem.W.nsIn K mainGlobals "_law_true_look" = some (some (.ref f_look))) (l_look : K.lookup f_look = some ⟨oc_look, od_look, .func (PySem.W.fnOf "_law_true_look" "_law_true_look" (defArgs s_look) (defBody s_look) (defScope s_look) .none kV_look dc_look pm_look an_look cd_look ct_look), sl_look⟩) (c_look : PySem.W.codeIn K cd_look "_law_true_look" = true) (k_look : PySem.W.keepIn K (.ref f_look) = true)
    (a_spot : PySem.W.nsIn K mainGlobals "_law_spot" = some (some (.ref f_spot))) (l_spot : K.lookup f_spot = some ⟨oc_spot, od_spot, .func (PySem.W.fnOf "_law_spot" "_law_spot" (defArgs s_spot) (defBody s_spot) (defScope s_spot) .none kV_spot dc_spot pm_spot an_spot cd_spot ct_spot), sl_spot⟩) (c_spot : PySem.W.codeIn K cd_spot "_law_spot" = true) (k_spot : PySem.W.keepIn K (.ref f_spot) = true)
    (a_apart : PySem.W.nsIn K mainGlobals "_law_apart" = some (some (.ref f_apart))) (l_apart : K.lookup f_apart = some ⟨oc_apart, od_apart, .func (PySem.W.fnOf "_law_apart" "_law_apart" (defArgs s_apart) (defBody s_apart) (defScope s_apart) .none kV_apart dc_apart pm_apart an_apart cd_apart ct_apart), sl_apart⟩) (c_apart : PySem.W.codeIn K cd_apart "_law_apart" = true) (k_apart : PySem.W.keepIn K (.ref f_apart) = true)
    (a_any : PySem.W.nsIn K mainGlobals "_law_any_look" = some (some (.ref f_any))) (l_any : K.lookup f_any = some ⟨oc_any, od_any, .func (PySem.W.fnOf "_law_any_look" "_law_any_look" (defArgs s_any) (defBody s_any) (defScope s_any) .none kV_any dc_any pm_any an_any cd_any ct_any), sl_any⟩) (c_any : PySem.W.codeIn K cd_any "_law_any_look" = true) (k_any : PySem.W.keepIn K (.ref f_any) = true)
    (a_made : PySem.W.nsIn K mainGlobals "_law_made" = some (some (.ref f_made))) (l_made : K.lookup f_made = some ⟨oc_made, od_made, .func (PySem.W.fnOf "_law_made" "_law_made" (defArgs s_made) (defBody s_made) (defScope s_made) .none kV_made dc_made pm_made an_made cd_made ct_made), sl_made⟩) (c_made : PySem.W.codeIn K cd_made "_law_made" = true) (k_made : PySem.W.keepIn K (.ref f_made) = true)
    (a_mixed : PySem.W.nsIn K mainGlobals "_law_mixed" = some (some (.ref f_mixed))) (l_mixed : K.lookup f_mixed = some ⟨oc_mixed, od_mixed, .func (PySem.W.fnOf "_law_mixed" "_law_mixed" (defArgs s_mixed) (defBody s_mixed) (defScope s_mixed) .none kV_mixed dc_mixed pm_mixed an_mixed cd_mixed ct_mixed), sl_mixed⟩) (c_mixed : PySem.W.codeIn K cd_mixed "_law_mixed" = true) (k_mixed : PySem.W.keepIn K (.ref f_mixed) = true)
    (a_lhome : PySem.W.nsIn K mainGlobals "_law_home" = some (some (.ref f_lhome))) (l_lhome : K.lookup f_lhome = some ⟨oc_lhome, od_lhome, .func (PySem.W.fnOf "_law_home" "_law_home" (defArgs s_lhome) (defBody s_lhome) (defScope s_lhome) .none kV_lhome dc_lhome pm_lhome an_lhome cd_lhome ct_lhome), sl_lhome⟩) (c_lhome : PySem.W.codeIn K cd_lhome "_law_home" = true) (k_lhome : PySem.W.keepIn K (.ref f_lhome) = true)
    (a_done : PySem.W.nsIn K mainGlobals "_law_done" = some (some (.ref f_done))) (l_done : K.lookup f_done = some ⟨oc_done, od_done, .func (PySem.W.fnOf "_law_done" "_law_done" (defArgs s_done) (defBody s_done) (defScope s_done) .none kV_done dc_done pm_done an_done cd_done ct_done), sl_done⟩) (c_done : PySem.W.codeIn K cd_done "_law_done" = true) (k_done : PySem.W.keepIn K (.ref f_done) = true)
    (a_stands : PySem.W.nsIn K mainGlobals "_law_stands_so" = some (some (.ref f_stands))) (l_stands : K.lookup f_stands = some ⟨oc_stands, od_stands, .func (PySem.W.fnOf "_law_stands_so" "_law_stands_so" (defArgs s_stands) (defBody s_stands) (defScope s_stands) .none kV_stands dc_stands pm_stands an_stands cd_stands ct_stands), sl_stands⟩) (c_stands : PySem.W.codeIn K cd_stands "_law_stands_so" = true) (k_stands : PySem.W.keepIn K (.ref f_stands) = true)
    (a_law : PySem.W.nsIn K mainGlobals "law" = some (some (.ref f_law))) (l_law : K.lookup f_law = some ⟨oc_law, od_law, .func (PySem.W.fnOf "law" "law" (defArgs s_law) (defBody s_law) (defScope s_law) .none kV_law dc_law pm_law an_law cd_law ct_law), sl_law⟩) (c_law : PySem.W.codeIn K cd_law "law" = true) (k_law : PySem.W.keepIn K (.ref f_law) = true)
    (y_max : PySem.W.nsIn K mainGlobals "max" = some none)
    (y_min : PySem.W.nsIn K mainGlobals "min" = some none)
    (y_range : PySem.W.nsIn K mainGlobals "range" = some none)
    (y_len : PySem.W.nsIn K mainGlobals "len" = some none)
    (y_isinstance : PySem.W.nsIn K mainGlobals "isinstance" = some none)
    (y_bool : PySem.W.nsIn K mainGlobals "bool" = some none)
    (y_int : PySem.W.nsIn K mainGlobals "int" = some none)
    (y_str : PySem.W.nsIn K mainGlobals "str" = some none)
    (y_list : PySem.W.nsIn K mainGlobals "list" = some none)
    (y_tuple : PySem.W.nsIn K mainGlobals "tuple" = some none)
    (y_sorted : PySem.W.nsIn K mainGlobals "sorted" = some none)
    (y_set : PySem.W.nsIn K mainGlobals "set" = some none) :
    ∃ fd : FuncData, (∀ (s : Shared) (v : Value), BindsTo s fd ⟨[v], []⟩ [("script", v)]) ∧ ∀ base : Heap, K.In base → base.Ns mainGlobals mg → FnOk l.prog w K mg base (L2.CX l.prog w) 7 fa fd ["script"] (liftF K pfLaw) := by
  have e := hfa.symm.trans (PySem.W.mg_of X G a_law)
  cases e
  have m_max := PySem.W.mg_none_of X G y_max
  have m_min := PySem.W.mg_none_of X G y_min
  have m_range := PySem.W.mg_none_of X G y_range
  have m_len := PySem.W.mg_none_of X G y_len
  have m_isinstance := PySem.W.mg_none_of X G y_isinstance
  have m_bool := PySem.W.mg_none_of X G y_bool
  have m_int := PySem.W.mg_none_of X G y_int
  have m_str := PySem.W.mg_none_of X G y_str
  have m_list := PySem.W.mg_none_of X G y_list
  have m_tuple := PySem.W.mg_none_of X G y_tuple
  have m_sorted := PySem.W.mg_none_of X G y_sorted
  have m_set := PySem.W.mg_none_of X G y_set
  have G_UPTO : PGlob K mg "UPTO" (.str "upto") := glob_str (PySem.W.mg_of X G a_UPTO)
  have G_FROM : PGlob K mg "FROM" (.str "from") := glob_str (PySem.W.mg_of X G a_FROM)
  have G_WORDS : PGlob K mg "WORDS" (.tup ((["at", "from", "upto"] : List Str).map D.str)) := glob_strs (PySem.W.mg_of X G a_WORDS) l_WORDS rfl rfl (Nat.le_of_ble_eq_true rfl) (.cons ⟨_, rfl⟩ <| .cons ⟨_, rfl⟩ <| .cons ⟨_, rfl⟩ <| .nil)
  have T_dark : Cls K C_dark := ⟨pg_dark, hd_dark, po_dark, sa_dark⟩
  have I_Dark : C8.InsC K C_dark := ⟨T_dark, iha_dark, ihn_dark, iht_dark, ihm_dark, by unfold PySem.W.kitOne; rw [if_pos (by simp)]⟩
  have MG_Dark : mg "Dark" = some (.ref C_dark) := PySem.W.mg_of X G aC_dark
  have KN_Dark : ∀ t, t = "int" ∨ t = "NoneType" ∨ t = "list" → PySem.W.kitOne K (.type t) (.ref C_dark) = some false := kits_no icl_dark ity_dark
  have NE_Dark : NeC K C_dark := ⟨ine_dark, ihm_dark⟩
  have N_dark_turn : NoAttr K C_dark "turn" := n_turn_dark
  have N_dark_heard : NoAttr K C_dark "heard" := n_heard_dark
  have Fx_Clash := fun_mk (st := s_xClash) xl_Clash xd_Clash xp_Clash
  have Ox_Clash : L2.OexC K C_Clash := ⟨⟨_, _, _, _, _, _, _, _, _, _, _, _, _, _, _, xL_Clash, by first | rfl | decide +kernel⟩, xs_Clash, xe_Clash, xt_Clash, xk_Clash⟩
  have Fx_NoLook := fun_mk (st := s_xNoLook) xl_NoLook xd_NoLook xp_NoLook
  have Ox_NoLook : L2.OexC K C_NoLook := ⟨⟨_, _, _, _, _, _, _, _, _, _, _, _, _, _, _, xL_NoLook, by first | rfl | decide +kernel⟩, xs_NoLook, xe_NoLook, xt_NoLook, xk_NoLook⟩
  have XM_Clash_Clash : PySem.W.exmOne K (.ref C_Clash) (.ref C_Clash) = some true := PL.exm_sub xe_Clash xc_Clash xt_Clash em_Clash_Clash
  have XM_Clash_NoLook : PySem.W.exmOne K (.ref C_Clash) (.ref C_NoLook) = some false := PL.exm_subB xe_NoLook xc_NoLook xt_NoLook em_Clash_NoLook
  have XM_NoLook_Clash : PySem.W.exmOne K (.ref C_NoLook) (.ref C_Clash) = some false := PL.exm_subB xe_Clash xc_Clash xt_Clash em_NoLook_Clash
  have XM_NoLook_NoLook : PySem.W.exmOne K (.ref C_NoLook) (.ref C_NoLook) = some true := PL.exm_sub xe_NoLook xc_NoLook xt_NoLook em_NoLook_NoLook
  have F_tray := fun_mk (st := s_tray) l_tray c_tray k_tray
  have F_draw := fun_mk (st := s_draw) l_draw c_draw k_draw
  have F_great := fun_mk (st := s_great) l_great c_great k_great
  have F_low := fun_mk (st := s_low) l_low c_low k_low
  have F_high := fun_mk (st := s_high) l_high c_high k_high
  have F_nl := fun_mk (st := s_nl) l_nl c_nl k_nl
  have F_nw := fun_mk (st := s_nw) l_nw c_nw k_nw
  have F_ns := fun_mk (st := s_ns) l_ns c_ns k_ns
  have F_nb := fun_mk (st := s_nb) l_nb c_nb k_nb
  have F_init := fun_mk (st := s_init) l_init c_init k_init
  have F_home := fun_mk (st := s_home) l_home c_home k_home
  have F_ap := fun_mk (st := s_ap) l_ap c_ap k_ap
  have F_fa := fun_mk (st := s_fa) l_fa c_fa k_fa
  have F_hear := fun_mk (st := s_hear) l_hear c_hear k_hear
  have F_looks := fun_mk (st := s_looks) l_looks c_looks k_looks
  have F_least := fun_mk (st := s_least) l_least c_least k_least
  have F_greatest := fun_mk (st := s_greatest) l_greatest c_greatest k_greatest
  have F_drop := fun_mk (st := s_drop) l_drop c_drop k_drop
  have F_eqm := fun_mk (st := s_eqm) l_eqm c_eqm k_eqm
  have F_len := fun_mk (st := s_len) l_len c_len k_len
  have F_lead := fun_mk (st := s_lead) l_lead c_lead k_lead
  have F_secret := fun_mk (st := s_secret) l_secret c_secret k_secret
  have F_look := fun_mk (st := s_look) l_look c_look k_look
  have F_spot := fun_mk (st := s_spot) l_spot c_spot k_spot
  have F_apart := fun_mk (st := s_apart) l_apart c_apart k_apart
  have F_any := fun_mk (st := s_any) l_any c_any k_any
  have F_made := fun_mk (st := s_made) l_made c_made k_made
  have F_mixed := fun_mk (st := s_mixed) l_mixed c_mixed k_mixed
  have F_lhome := fun_mk (st := s_lhome) l_lhome c_lhome k_lhome
  have F_done := fun_mk (st := s_done) l_done c_done k_done
  have F_stands := fun_mk (st := s_stands) l_stands c_stands k_stands
  have F_law := fun_mk (st := s_law) l_law c_law k_law
  have b_tray := F_tray.binds (ps := ["script"]) fun _ _ _ _ _ _ us hl => match us, hl with | [_], _ => rfl
  have b_draw := F_draw.binds (ps := ["tray", "many"]) fun _ _ _ _ _ _ us hl => match us, hl with | [_, _], _ => rfl
  have b_great := F_great.binds (ps := ["tray"]) fun _ _ _ _ _ _ us hl => match us, hl with | [_], _ => rfl
  have b_low := F_low.binds (ps := ["length", "steps", "x"]) fun _ _ _ _ _ _ us hl => match us, hl with | [_, _, _], _ => rfl
  have b_high := F_high.binds (ps := ["length", "steps", "x"]) fun _ _ _ _ _ _ us hl => match us, hl with | [_, _, _], _ => rfl
  have b_nl := F_nl.binds (ps := ["length"]) fun _ _ _ _ _ _ us hl => match us, hl with | [_], _ => rfl
  have b_nw := F_nw.binds (ps := ["word"]) fun _ _ _ _ _ _ us hl => match us, hl with | [_], _ => rfl
  have b_ns := F_ns.binds (ps := ["looks"]) fun _ _ _ _ _ _ us hl => match us, hl with | [_], _ => rfl
  have b_nb := F_nb.binds (ps := ["looks"]) fun _ _ _ _ _ _ us hl => match us, hl with | [_], _ => rfl
  have b_init := F_init.binds (ps := ["self", "length"]) fun _ _ _ _ _ _ us hl => match us, hl with | [_, _], _ => rfl
  have b_home := F_home.binds (ps := ["self", "word", "x", "y"]) fun _ _ _ _ _ _ us hl => match us, hl with | [_, _, _, _], _ => rfl
  have b_ap := F_ap.binds (ps := ["self", "one", "other"]) fun _ _ _ _ _ _ us hl => match us, hl with | [_, _, _], _ => rfl
  have b_fa := F_fa.binds (ps := ["self", "look"]) fun _ _ _ _ _ _ us hl => match us, hl with | [_, _], _ => rfl
  have b_hear := F_hear.binds (ps := ["self", "word", "x", "y"]) fun _ _ _ _ _ _ us hl => match us, hl with | [_, _, _, _], _ => rfl
  have b_looks := F_looks.binds (ps := ["self"]) fun _ _ _ _ _ _ us hl => match us, hl with | [_], _ => rfl
  have b_least := F_least.binds (ps := ["self", "x"]) fun _ _ _ _ _ _ us hl => match us, hl with | [_, _], _ => rfl
  have b_greatest := F_greatest.binds (ps := ["self", "x"]) fun _ _ _ _ _ _ us hl => match us, hl with | [_, _], _ => rfl
  have b_drop := F_drop.binds (ps := ["self", "word", "x", "y"]) fun _ _ _ _ _ _ us hl => match us, hl with | [_, _, _, _], _ => rfl
  have b_eqm := F_eqm.binds (ps := ["self", "other"]) fun _ _ _ _ _ _ us hl => match us, hl with | [_, _], _ => rfl
  have b_len := F_len.binds (ps := ["tray"]) fun _ _ _ _ _ _ us hl => match us, hl with | [_], _ => rfl
  have b_lead := F_lead.binds (ps := ["size", "steps", "spot"]) fun _ _ _ _ _ _ us hl => match us, hl with | [_, _, _], _ => rfl
  have b_secret := F_secret.binds (ps := ["tray", "size"]) fun _ _ _ _ _ _ us hl => match us, hl with | [_, _], _ => rfl
  have b_look := F_look.binds (ps := ["tray", "size", "steps"]) fun _ _ _ _ _ _ us hl => match us, hl with | [_, _, _], _ => rfl
  have b_spot := F_spot.binds (ps := ["tray", "size", "known"]) fun _ _ _ _ _ _ us hl => match us, hl with | [_, _, _], _ => rfl
  have b_apart := F_apart.binds (ps := ["size", "one", "other"]) fun _ _ _ _ _ _ us hl => match us, hl with | [_, _, _], _ => rfl
  have b_any := F_any.binds (ps := ["tray", "size"]) fun _ _ _ _ _ _ us hl => match us, hl with | [_, _], _ => rfl
  have b_made := F_made.binds (ps := ["size", "known"]) fun _ _ _ _ _ _ us hl => match us, hl with | [_, _], _ => rfl
  have b_mixed := F_mixed.binds (ps := ["tray", "things"]) fun _ _ _ _ _ _ us hl => match us, hl with | [_, _], _ => rfl
  have b_lhome := F_lhome.binds (ps := ["size", "look"]) fun _ _ _ _ _ _ us hl => match us, hl with | [_, _], _ => rfl
  have b_done := F_done.binds (ps := ["made", "look", "drops", "named"]) fun _ _ _ _ _ _ us hl => match us, hl with | [_, _, _, _], _ => rfl
  have b_stands := F_stands.binds (ps := ["tray", "size", "made", "known"]) fun _ _ _ _ _ _ us hl => match us, hl with | [_, _, _, _], _ => rfl
  refine ⟨PySem.W.fnOf "law" "law" (defArgs s_law) (defBody s_law) (defScope s_law) .none kV_law dc_law pm_law an_law cd_law ct_law, fun s v => .of_eq rfl, fun base _ _ => ?_⟩
  have X_Clash : XDef l.prog w K mg base "Clash" C_Clash := ⟨PySem.W.mg_of X G xa_Clash, Ox_Clash, ⟨fx_Clash, _, xi_Clash, xf_Clash, ok_what Fx_Clash sc_xClash rfl rfl rfl Ox_Clash xn_Clash, Fx_Clash.binds (ps := ["self", "what"]) fun _ _ _ _ _ _ us hl => match us, hl with | [_, _], _ => rfl⟩⟩
  have X_NoLook : XDef l.prog w K mg base "NoLook" C_NoLook := ⟨PySem.W.mg_of X G xa_NoLook, Ox_NoLook, ⟨fx_NoLook, _, xi_NoLook, xf_NoLook, ok_what Fx_NoLook sc_xNoLook rfl rfl rfl Ox_NoLook xn_NoLook, Fx_NoLook.binds (ps := ["self", "what"]) fun _ _ _ _ _ _ us hl => match us, hl with | [_, _], _ => rfl⟩⟩
  have D_tray : Def l.prog w K mg base "_law_tray" f_tray _ ["script"] 1 (pfTray) := ⟨PySem.W.mg_of X G a_tray, k_tray, b_tray, ok_tray F_tray m_max⟩
  have D_draw : Def l.prog w K mg base "_law_draw" f_draw _ ["tray", "many"] 1 (pfDraw) := ⟨PySem.W.mg_of X G a_draw, k_draw, b_draw, ok_draw F_draw⟩
  have D_great : Def l.prog w K mg base "_law_great" f_great _ ["tray"] 2 (pfGreat) := ⟨PySem.W.mg_of X G a_great, k_great, b_great, ok_great F_great m_range D_draw⟩
  have D_low : Def l.prog w K mg base "low" f_low _ ["length", "steps", "x"] 1 (pfLow) := ⟨PySem.W.mg_of X G a_low, k_low, b_low, ok_low F_low m_max⟩
  have D_high : Def l.prog w K mg base "high" f_high _ ["length", "steps", "x"] 1 (pfHigh) := ⟨PySem.W.mg_of X G a_high, k_high, b_high, ok_high F_high m_min⟩
  have D_nl : Def l.prog w K mg base "need_length" f_nl _ ["length"] 1 (pfNl) := ⟨PySem.W.mg_of X G a_nl, k_nl, b_nl, ok_nl F_nl⟩
  have D_nw : Def l.prog w K mg base "need_word" f_nw _ ["word"] 1 (pfNw) := ⟨PySem.W.mg_of X G a_nw, k_nw, b_nw, ok_nw F_nw G_WORDS⟩
  have D_ns : Def l.prog w K mg base "not_short" f_ns _ ["looks"] 1 (pfNs) := ⟨PySem.W.mg_of X G a_ns, k_ns, b_ns, ok_ns F_ns G_UPTO⟩
  have D_nb : Def l.prog w K mg base "not_beyond" f_nb _ ["looks"] 1 (pfNb) := ⟨PySem.W.mg_of X G a_nb, k_nb, b_nb, ok_nb F_nb G_FROM⟩
  have D_init : CDef l.prog w K mg base "Dark" C_dark f_init _ ["self", "length"] 2 (pfInit C_dark) := ⟨PySem.W.mg_of X G aC_dark, T_dark, ⟨mk_dark, a_init, i_init, kc_dark⟩, b_init, ok_init F_init T_dark N_dark_turn N_dark_heard D_nl⟩
  have D_home : MDef l.prog w K mg base C_dark "home" f_home _ ["self", "word", "x", "y"] 2 (pfHome C_dark) := ⟨T_dark, ⟨a_home, i_home, k_home⟩, b_home, ok_home F_home T_dark N_dark_turn D_nw⟩
  have D_ap : MDef l.prog w K mg base C_dark "is_apart" f_ap _ ["self", "one", "other"] 2 (pfAp C_dark) := ⟨T_dark, ⟨a_ap, i_ap, k_ap⟩, b_ap, ok_ap F_ap T_dark N_dark_turn G_UPTO G_FROM D_low⟩
  have D_fa : MDef l.prog w K mg base C_dark "first_apart" f_fa _ ["self", "look"] 3 (pfFa C_dark) := ⟨T_dark, ⟨a_fa, i_fa, k_fa⟩, b_fa, ok_fa F_fa T_dark N_dark_heard D_ap⟩
  have D_hear : MDef l.prog w K mg base C_dark "hear" f_hear _ ["self", "word", "x", "y"] 4 (pfHear C_dark C_Clash) := ⟨T_dark, ⟨a_hear, i_hear, k_hear⟩, b_hear, ok_hear F_hear T_dark N_dark_heard m_sorted X_Clash D_home D_fa⟩
  have D_looks : MDef l.prog w K mg base C_dark "looks" f_looks _ ["self"] 1 (pfLooks C_dark) := ⟨T_dark, ⟨a_looks, i_looks, k_looks⟩, b_looks, ok_looks F_looks T_dark N_dark_heard m_list⟩
  have D_least : MDef l.prog w K mg base C_dark "least" f_least _ ["self", "x"] 2 (pfLeast C_dark) := ⟨T_dark, ⟨a_least, i_least, k_least⟩, b_least, ok_least F_least T_dark N_dark_turn N_dark_heard D_low D_ns⟩
  have D_greatest : MDef l.prog w K mg base C_dark "greatest" f_greatest _ ["self", "x"] 2 (pfGreatest C_dark) := ⟨T_dark, ⟨a_greatest, i_greatest, k_greatest⟩, b_greatest, ok_greatest F_greatest T_dark N_dark_turn N_dark_heard D_high D_nb⟩
  have D_drop : MDef l.prog w K mg base C_dark "drop" f_drop _ ["self", "word", "x", "y"] 3 (pfDrop C_dark C_NoLook) := ⟨T_dark, ⟨a_drop, i_drop, k_drop⟩, b_drop, ok_drop F_drop T_dark N_dark_heard X_NoLook D_home⟩
  have B_drop : KwN K _ ["self", "word", "x", "y"] ["y", "x", "word"] [2, 1, 0] 1 := kwn_of F_drop fun _ _ _ _ _ _ us ws h1 h2 => match us, ws, h1, h2 with | [_], [_, _, _], _, _ => rfl
  have XA_Clash : PySem.W.exmAny K (.ref C_Clash) [.ref C_Clash, .ref C_NoLook] = some true := PL.exm_two XM_Clash_Clash XM_Clash_NoLook
  have XA_NoLook : PySem.W.exmAny K (.ref C_NoLook) [.ref C_Clash, .ref C_NoLook] = some true := PL.exm_two XM_NoLook_Clash XM_NoLook_NoLook
  have D_eqm : MDef l.prog w K mg base C_dark "__eq__" f_eqm _ ["self", "other"] 1 (pfEq C_dark) := ⟨T_dark, ⟨a_eqm, i_eqm, k_eqm⟩, b_eqm, ok_eqm F_eqm T_dark N_dark_turn N_dark_heard m_isinstance MG_Dark I_Dark⟩
  have D_len : Def l.prog w K mg base "_law_length" f_len _ ["tray"] 3 (pfLen) := ⟨PySem.W.mg_of X G a_len, k_len, b_len, ok_len F_len m_max D_draw D_great⟩
  have D_lead : Def l.prog w K mg base "_law_lead" f_lead _ ["size", "steps", "spot"] 1 (pfLead) := ⟨PySem.W.mg_of X G a_lead, k_lead, b_lead, ok_lead F_lead m_max⟩
  have D_secret : Def l.prog w K mg base "_law_secret" f_secret _ ["tray", "size"] 3 (pfSecret) := ⟨PySem.W.mg_of X G a_secret, k_secret, b_secret, ok_secret F_secret m_range m_sorted m_set m_len D_draw D_great⟩
  have D_look : Def l.prog w K mg base "_law_true_look" f_look _ ["tray", "size", "steps"] 3 (pfLook) := ⟨PySem.W.mg_of X G a_look, k_look, b_look, ok_look F_look m_len D_draw D_great D_lead⟩
  have D_spot : Def l.prog w K mg base "_law_spot" f_spot _ ["tray", "size", "known"] 3 (pfSpot) := ⟨PySem.W.mg_of X G a_spot, k_spot, b_spot, ok_spot F_spot m_len D_draw D_great⟩
  have D_apart : Def l.prog w K mg base "_law_apart" f_apart _ ["size", "one", "other"] 1 (pfApart) := ⟨PySem.W.mg_of X G a_apart, k_apart, b_apart, ok_apart F_apart⟩
  have D_any : Def l.prog w K mg base "_law_any_look" f_any _ ["tray", "size"] 2 (pfAny) := ⟨PySem.W.mg_of X G a_any, k_any, b_any, ok_any F_any D_draw⟩
  have D_made : Def l.prog w K mg base "_law_made" f_made _ ["size", "known"] 5 (pfMade C_dark) := ⟨PySem.W.mg_of X G a_made, k_made, b_made, ok_made F_made D_init D_hear⟩
  have D_mixed : Def l.prog w K mg base "_law_mixed" f_mixed _ ["tray", "things"] 2 (pfMixed) := ⟨PySem.W.mg_of X G a_mixed, k_mixed, b_mixed, ok_mixed F_mixed m_range m_len m_list D_draw⟩
  have D_lhome : Def l.prog w K mg base "_law_home" f_lhome _ ["size", "look"] 1 (pfLhome) := ⟨PySem.W.mg_of X G a_lhome, k_lhome, b_lhome, ok_lhome F_lhome⟩
  have D_done : Def l.prog w K mg base "_law_done" f_done _ ["made", "look", "drops", "named"] 5 (pfDone C_dark) := ⟨PySem.W.mg_of X G a_done, k_done, b_done, ok_done F_done X_Clash X_NoLook XA_Clash XA_NoLook D_drop B_drop D_hear⟩
  have D_stands : Def l.prog w K mg base "_law_stands_so" f_stands _ ["tray", "size", "made", "known"] 6 (pfStands C_dark) := ⟨PySem.W.mg_of X G a_stands, k_stands, b_stands, ok_stands F_stands m_sorted m_range D_mixed D_made D_spot D_looks D_eqm NE_Dark D_least D_greatest⟩
  exact ok_law F_law m_range m_len m_int D_tray D_len D_secret D_init D_draw D_look D_any D_lhome D_apart D_done D_stands
end My
open PySem PySem.W PyProof.Rows in
set_option maxRecDepth 100000 in
set_option maxHeartbeats 0 in
theorem PySem.Challenge.cw_darkpace_k06_whole_histories_holds : PySem.Challenge.rw_darkpace_k06_whole_histories.Holds := by
  w_on; o_law; k_head; (case hw => w_witness2)
  k_fill
  refine L2.walk_of (l := PySem.Challenge.rw_darkpace_k06_whole_histories) (n := 63) (k := 7) (x := "script") (CX := fun w => L2.CX PySem.Challenge.rw_darkpace_k06_whole_histories.prog w) (sp := fun w => PL.liftF _ My.pfLaw) rfl (by decide) rfl ⟨rfl, by decide, by decide⟩ (fun w h Y => PySem.W.kIn_of Y) ?F (fun _ H a ns hl ho hS => My.law_start hl hS) (fun _ _ _ _ _ h => by obtain ⟨_, _, _, _, _, _, _, _, _, _, _, _, z⟩ := h; exact z)
  case F =>
    intro w mg fa h KX G hmg
    refine' My.all_mk KX G hmg ?a_UPTO ?a_FROM ?a_WORDS ?l_WORDS ?aC_dark ?pg_dark ?hd_dark ?po_dark ?sa_dark ?mk_dark ?kc_dark ?n_turn_dark ?n_heard_dark ?iha_dark ?ihn_dark ?iht_dark ?ihm_dark ?icl_dark ?ity_dark ?ine_dark ?xa_Clash ?xL_Clash ?xs_Clash ?xe_Clash ?xt_Clash ?xk_Clash ?xn_Clash ?xi_Clash ?xf_Clash ?xc_Clash ?xl_Clash ?xd_Clash ?xp_Clash ?xa_NoLook ?xL_NoLook ?xs_NoLook ?xe_NoLook ?xt_NoLook ?xk_NoLook ?xn_NoLook ?xi_NoLook ?xf_NoLook ?xc_NoLook ?xl_NoLook ?xd_NoLook ?xp_NoLook ?em_Clash_Clash ?em_Clash_NoLook ?em_NoLook_Clash ?em_NoLook_NoLook ?a_tray ?l_tray ?c_tray ?k_tray ?a_draw ?l_draw ?c_draw ?k_draw ?a_great ?l_great ?c_great ?k_great ?a_low ?l_low ?c_low ?k_low ?a_high ?l_high ?c_high ?k_high ?a_nl ?l_nl ?c_nl ?k_nl ?a_nw ?l_nw ?c_nw ?k_nw ?a_ns ?l_ns ?c_ns ?k_ns ?a_nb ?l_nb ?c_nb ?k_nb ?a_init ?i_init ?l_init ?c_init ?k_init ?a_home ?i_home ?l_home ?c_home ?k_home ?a_ap ?i_ap ?l_ap ?c_ap ?k_ap ?a_fa ?i_fa ?l_fa ?c_fa ?k_fa ?a_hear ?i_hear ?l_hear ?c_hear ?k_hear ?a_looks ?i_looks ?l_looks ?c_looks ?k_looks ?a_least ?i_least ?l_least ?c_least ?k_least ?a_greatest ?i_greatest ?l_greatest ?c_greatest ?k_greatest ?a_drop ?i_drop ?l_drop ?c_drop ?k_drop ?a_eqm ?i_eqm ?l_eqm ?c_eqm ?k_eqm ?a_len ?l_len ?c_len ?k_len ?a_lead ?l_lead ?c_lead ?k_lead ?a_secret ?l_secret ?c_secret ?k_secret ?a_look ?l_look ?c_look ?k_look ?a_spot ?l_spot ?c_spot ?k_spot ?a_apart ?l_apart ?c_apart ?k_apart ?a_any ?l_any ?c_any ?k_any ?a_made ?l_made ?c_made ?k_made ?a_mixed ?l_mixed ?c_mixed ?k_mixed ?a_lhome ?l_lhome ?c_lhome ?k_lhome ?a_done ?l_done ?c_done ?k_done ?a_stands ?l_stands ?c_stands ?k_stands ?a_law ?l_law ?c_law ?k_law ?y_max ?y_min ?y_range ?y_len ?y_isinstance ?y_bool ?y_int ?y_str ?y_list ?y_tuple ?y_sorted ?y_set
    (case a_UPTO => k_is)
    (case a_FROM => k_is)
    (case a_WORDS => k_is)
    (case l_WORDS => k_is)
    (case aC_dark => k_is)
    (case pg_dark => k_is)
    (case hd_dark => k_is)
    (case po_dark => k_is)
    (case sa_dark => k_is)
    (case mk_dark => k_is)
    (case kc_dark => k_is)
    (case n_turn_dark => k_is)
    (case n_heard_dark => k_is)
    (case iha_dark => k_is)
    (case ihn_dark => k_is)
    (case iht_dark => k_is)
    (case ihm_dark => k_is)
    (case icl_dark => k_is)
    (case ity_dark => k_is)
    (case ine_dark => k_is)
    (case xa_Clash => k_is)
    (case xL_Clash => k_is)
    (case xs_Clash => k_is)
    (case xe_Clash => k_is)
    (case xt_Clash => k_is)
    (case xk_Clash => k_is)
    (case xn_Clash => k_is)
    (case xi_Clash => k_is)
    (case xf_Clash => k_is)
    (case xc_Clash => k_is)
    (case xl_Clash => k_is)
    (case xd_Clash => k_is)
    (case xp_Clash => k_is)
    (case xa_NoLook => k_is)
    (case xL_NoLook => k_is)
    (case xs_NoLook => k_is)
    (case xe_NoLook => k_is)
    (case xt_NoLook => k_is)
    (case xk_NoLook => k_is)
    (case xn_NoLook => k_is)
    (case xi_NoLook => k_is)
    (case xf_NoLook => k_is)
    (case xc_NoLook => k_is)
    (case xl_NoLook => k_is)
    (case xd_NoLook => k_is)
    (case xp_NoLook => k_is)
    (case em_Clash_Clash => first | rfl | k_is)
    (case em_Clash_NoLook => first | rfl | k_is)
    (case em_NoLook_Clash => first | rfl | k_is)
    (case em_NoLook_NoLook => first | rfl | k_is)
    (case a_tray => k_is)
    (case l_tray => k_is)
    (case c_tray => k_is)
    (case k_tray => k_is)
    (case a_draw => k_is)
    (case l_draw => k_is)
    (case c_draw => k_is)
    (case k_draw => k_is)
    (case a_great => k_is)
    (case l_great => k_is)
    (case c_great => k_is)
    (case k_great => k_is)
    (case a_low => k_is)
    (case l_low => k_is)
    (case c_low => k_is)
    (case k_low => k_is)
    (case a_high => k_is)
    (case l_high => k_is)
    (case c_high => k_is)
    (case k_high => k_is)
    (case a_nl => k_is)
    (case l_nl => k_is)
    (case c_nl => k_is)
    (case k_nl => k_is)
    (case a_nw => k_is)
    (case l_nw => k_is)
    (case c_nw => k_is)
    (case k_nw => k_is)
    (case a_ns => k_is)
    (case l_ns => k_is)
    (case c_ns => k_is)
    (case k_ns => k_is)
    (case a_nb => k_is)
    (case l_nb => k_is)
    (case c_nb => k_is)
    (case k_nb => k_is)
    (case a_init => k_is)
    (case i_init => k_is)
    (case l_init => k_is)
    (case c_init => k_is)
    (case k_init => k_is)
    (case a_home => k_is)
    (case i_home => k_is)
    (case l_home => k_is)
    (case c_home => k_is)
    (case k_home => k_is)
    (case a_ap => k_is)
    (case i_ap => k_is)
    (case l_ap => k_is)
    (case c_ap => k_is)
    (case k_ap => k_is)
    (case a_fa => k_is)
    (case i_fa => k_is)
    (case l_fa => k_is)
    (case c_fa => k_is)
    (case k_fa => k_is)
    (case a_hear => k_is)
    (case i_hear => k_is)
    (case l_hear => k_is)
    (case c_hear => k_is)
    (case k_hear => k_is)
    (case a_looks => k_is)
    (case i_looks => k_is)
    (case l_looks => k_is)
    (case c_looks => k_is)
    (case k_looks => k_is)
    (case a_least => k_is)
    (case i_least => k_is)
    (case l_least => k_is)
    (case c_least => k_is)
    (case k_least => k_is)
    (case a_greatest => k_is)
    (case i_greatest => k_is)
    (case l_greatest => k_is)
    (case c_greatest => k_is)
    (case k_greatest => k_is)
    (case a_drop => k_is)
    (case i_drop => k_is)
    (case l_drop => k_is)
    (case c_drop => k_is)
    (case k_drop => k_is)
    (case a_eqm => k_is)
    (case i_eqm => k_is)
    (case l_eqm => k_is)
    (case c_eqm => k_is)
    (case k_eqm => k_is)
    (case a_len => k_is)
    (case l_len => k_is)
    (case c_len => k_is)
    (case k_len => k_is)
    (case a_lead => k_is)
    (case l_lead => k_is)
    (case c_lead => k_is)
    (case k_lead => k_is)
    (case a_secret => k_is)
    (case l_secret => k_is)
    (case c_secret => k_is)
    (case k_secret => k_is)
    (case a_look => k_is)
    (case l_look => k_is)
    (case c_look => k_is)
    (case k_look => k_is)
    (case a_spot => k_is)
    (case l_spot => k_is)
    (case c_spot => k_is)
    (case k_spot => k_is)
    (case a_apart => k_is)
    (case l_apart => k_is)
    (case c_apart => k_is)
    (case k_apart => k_is)
    (case a_any => k_is)
    (case l_any => k_is)
    (case c_any => k_is)
    (case k_any => k_is)
    (case a_made => k_is)
    (case l_made => k_is)
    (case c_made => k_is)
    (case k_made => k_is)
    (case a_mixed => k_is)
    (case l_mixed => k_is)
    (case c_mixed => k_is)
    (case k_mixed => k_is)
    (case a_lhome => k_is)
    (case l_lhome => k_is)
    (case c_lhome => k_is)
    (case k_lhome => k_is)
    (case a_done => k_is)
    (case l_done => k_is)
    (case c_done => k_is)
    (case k_done => k_is)
    (case a_stands => k_is)
    (case l_stands => k_is)
    (case c_stands => k_is)
    (case k_stands => k_is)
    (case a_law => k_is)
    (case l_law => k_is)
    (case c_law => k_is)
    (case k_law => k_is)
    (case y_max => k_is)
    (case y_min => k_is)
    (case y_range => k_is)
    (case y_len => k_is)
    (case y_isinstance => k_is)
    (case y_bool => k_is)
    (case y_int => k_is)
    (case y_str => k_is)
    (case y_list => k_is)
    (case y_tuple => k_is)
    (case y_sorted => k_is)
    (case y_set => k_is)
