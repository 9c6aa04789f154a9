import PyProof.Rows.All
import Wide.All
import OpenK.AllK
import Wide.FinOn
import HandS.ForMost
import HandS.ForExc
import HandS.Wide
import HandS.Nested
import HandS.HotCalls
import KE.DataEq
import HandS.More
import HandS.Small
import HandS.Comp
import HandS.SortInts
import HandS.Strs
import HandS.IsInst
import KE.SortData
import HandS.SetFor
import HandS.TupSets
import PyProof.MaxThree
import HandS.ExcInit
import HandS.TryOnly
import HandS.Walk
import KE.KDictKeyed
import HandS.Codes
import HandS.OwnEq
import PyProof.InstNe
import HandS.NoneIn
import KE.KTryMore
import HandS.EndTab
import HandS.SetBool
import HandS.Defaults
import HandS.CallSlots
import KE.DataAny
import HandS.Conv
import KE.KRevSl
import KE.IntBitsLaws
import PyProof.Rows.RuleB_pow
import HandS.Iter
import KE.DataMinMax
import HandS.Zip
import HandS.Sort
import HandS.Style
import HandS.ExcField
import HandS.ExcInitHot
import KE.KExcIs
import HandS.Text
import HandS.RaiseMore
import KE.KUnpackStar
import KE.IntTextLaws
import PyProof.Rows.StrDigitsNeg
import PySem.Challenge.RW_darkpace_k50_looks_written
set_option Elab.async false
set_option linter.all false
set_option maxRecDepth 100000
set_option maxHeartbeats 2000000
namespace PL
open PySem PySem.Spec PyProof.Rows L2

/-! ### data without addresses -/
inductive D where
  | non | bl (b : Bool) | int (i : Int) | str (x : Str)
  | tup (xs : List D) | lst (xs : List D)
  | ptr (a : Addr)
  | obj (C : Addr) (fs : List (Str × D))
  /-- an error that was caught: its class, what it keeps -/
  | exc (C : Addr) (what : D)
instance : Inhabited D := ⟨.non⟩
/-- a lambda's words: the names that it captures -/
structure LamT where
  qual : Str
  params : Arguments
  body : Expr
  scope : Scope
  fr : List Str
/-- the object at a, just so -/
def atK (a : Addr) (o : Obj) : HO := .ext fun h => h.get? a = some o
structure ExOb (C dx : Addr) (o : Obj) : Prop where
  cls : o.cls = .ref C
  dict : o.dict = some dx
  data : ∃ vs, o.data = .fields vs
/-- what may change; a table of code objects of one name; a lambda at f, what it captured -/
inductive MO where
  | lst (ds : List D)
  | dK (kvs : List (Key × D))
  | ins (C : Addr) (fs : List (Str × D))
  | tbl (q : Str)
  | fn (f : Addr) (L : LamT) (ds : List D)
abbrev Cells := List (Addr × MO)
abbrev Gam := List (Option D)
abbrev AS := Addr → Prop

def KT (K : PySem.W.Frag) (a : Addr) (xs : List V) : Prop :=
  ∃ (o : Obj) (its : Array Value) (n : Nat), K.lookup a = some o ∧ o.cls = .type "tuple" ∧ o.data = .seq its n ∧ its.size ≤ sizeLine ∧ Vals xs its.toList
def KL (K : PySem.W.Frag) (a : Addr) (xs : List V) : Prop :=
  ∃ (o : Obj) (its : Array Value) (n : Nat), K.lookup a = some o ∧ o.cls = .type "list" ∧ o.dict = none ∧ o.data = .seq its n ∧ its.size ≤ sizeLine ∧ Vals xs its.toList
def RdT (K : PySem.W.Frag) (A : AS) (H : Hp) (a : Addr) (vs : List V) : Prop := (¬ A a ∧ Rd H a (.tup vs)) ∨ KT K a vs
def RdL (K : PySem.W.Frag) (A : AS) (H : Hp) (a : Addr) (vs : List V) : Prop := (¬ A a ∧ Rd H a (.lst vs)) ∨ KL K a vs
theorem RdT.sq {K : PySem.W.Frag} {A : AS} {H : Hp} {a : Addr} {vs : List V} (h : RdT K A H a vs) : SqT K H a vs := by
  rcases h with ⟨_, h⟩ | h
  · exact .inl h
  · exact .inr h
theorem RdL.sq {K : PySem.W.Frag} {A : AS} {H : Hp} {a : Addr} {vs : List V} (h : RdL K A H a vs) : SqL K H a vs := by
  rcases h with ⟨_, h⟩ | h
  · exact .inl h
  · exact .inr h

mutual
inductive Rep (K : PySem.W.Frag) (A : AS) (H : Hp) : V → D → Prop
  | non : Rep K A H .non .non
  | bl {b} : Rep K A H (.bl b) (.bl b)
  | int {i} : Rep K A H (.int i) (.int i)
  | str {x} : Rep K A H (.str x) (.str x)
  | tup {a vs ds} : RdT K A H a vs → Reps K A H vs ds → Rep K A H (.ref a) (.tup ds)
  | lst {a vs ds} : RdL K A H a vs → Reps K A H vs ds → Rep K A H (.ref a) (.lst ds)
  | ptr {a} : Rep K A H (.ref a) (.ptr a)
  | obj {a C dx fs gs} : ¬ A a → H a = some (.ins C dx fs) → RepF K A H fs gs → Rep K A H (.ref a) (.obj C gs)
  | exc {a C dx o v d} : ¬ A a → ¬ A dx → H a = some (atK a o) → ExOb C dx o → H dx = some (.xd [(("what" : Str), v)]) → Rep K A H v d → Rep K A H (.ref a) (.exc C d)
inductive Reps (K : PySem.W.Frag) (A : AS) (H : Hp) : List V → List D → Prop
  | nil : Reps K A H [] []
  | cons {v d vs ds} : Rep K A H v d → Reps K A H vs ds → Reps K A H (v :: vs) (d :: ds)
inductive RepF (K : PySem.W.Frag) (A : AS) (H : Hp) : List (Str × V) → List (Str × D) → Prop
  | nil : RepF K A H [] []
  | cons {f v d fs gs} : Rep K A H v d → RepF K A H fs gs → RepF K A H ((f, v) :: fs) ((f, d) :: gs)
end

section
variable {K : PySem.W.Frag} {A A' : AS} {H H' : Hp}
/-- how a reading is carried to a later heap -/
structure To (A A' : AS) (H H' : Hp) : Prop where
  keep : ∀ b o, ¬ A b → H b = some o → H' b = some o
  av : ∀ b, A' b → A b ∨ H b = none
theorem To.rdt {a : Addr} {vs : List V} (t : To A A' H H') (h : RdT K A H a vs) : RdT K A' H' a vs := by
  rcases h with ⟨n, h⟩ | h
  · refine .inl ⟨fun z => ?_, ?_⟩
    · rcases t.av a z with q | q
      · exact n q
      · rcases h with h | ⟨o, h⟩ <;> (rw [q] at h; cases h)
    · rcases h with h | ⟨o, h⟩
      · exact .inl (t.keep a _ n h)
      · exact .inr ⟨o, t.keep a _ n h⟩
  · exact .inr h
theorem To.rdl {a : Addr} {vs : List V} (t : To A A' H H') (h : RdL K A H a vs) : RdL K A' H' a vs := by
  rcases h with ⟨n, h⟩ | h
  · refine .inl ⟨fun z => ?_, ?_⟩
    · rcases t.av a z with q | q
      · exact n q
      · rcases h with h | ⟨o, h⟩ <;> (rw [q] at h; cases h)
    · rcases h with h | ⟨o, h⟩
      · exact .inl (t.keep a _ n h)
      · exact .inr ⟨o, t.keep a _ n h⟩
  · exact .inr h
theorem To.ins {a : Addr} {o : HO} (t : To A A' H H') (n : ¬ A a) (h : H a = some o) : ¬ A' a ∧ H' a = some o := by
  refine ⟨fun z => ?_, t.keep a _ n h⟩
  rcases t.av a z with q | q
  · exact n q
  · rw [q] at h; cases h
theorem Rep.to (t : To A A' H H') {v : V} {d : D} (r : Rep K A H v d) : Rep K A' H' v d :=
  Rep.rec (motive_1 := fun v d _ => Rep K A' H' v d) (motive_2 := fun vs ds _ => Reps K A' H' vs ds) (motive_3 := fun vs ds _ => RepF K A' H' vs ds)
    .non .bl .int .str (fun h _ ih => .tup (t.rdt h) ih) (fun h _ ih => .lst (t.rdl h) ih) .ptr (fun n h _ ih => .obj (t.ins n h).1 (t.ins n h).2 ih) (fun n n2 h e h2 _ ih => .exc (t.ins n h).1 (t.ins n2 h2).1 (t.ins n h).2 e (t.ins n2 h2).2 ih)
    .nil (fun _ _ i1 i2 => .cons i1 i2) .nil (fun _ _ i1 i2 => .cons i1 i2) r
theorem Reps.to (t : To A A' H H') : ∀ {vs : List V} {ds : List D}, Reps K A H vs ds → Reps K A' H' vs ds
  | _, _, .nil => .nil
  | _, _, .cons r rs => .cons (r.to t) (rs.to t)
theorem RepF.to (t : To A A' H H') : ∀ {vs : List (Str × V)} {ds : List (Str × D)}, RepF K A H vs ds → RepF K A' H' vs ds
  | _, _, .nil => .nil
  | _, _, .cons r rs => .cons (r.to t) (rs.to t)
theorem Reps.length : ∀ {vs : List V} {ds : List D}, Reps K A H vs ds → vs.length = ds.length
  | _, _, .nil => rfl
  | _, _, .cons _ rs => by rw [List.length_cons, List.length_cons, rs.length]
theorem Reps.get : ∀ {vs : List V} {ds : List D} {i : Nat} {d : D}, Reps K A H vs ds → ds[i]? = some d → ∃ v, vs[i]? = some v ∧ Rep K A H v d
  | _, _, _, _, .nil, e => by simp at e
  | _, _, 0, _, .cons r _, e => by
    have q := Option.some.inj e
    subst q
    exact ⟨_, rfl, r⟩
  | _, _, i + 1, d, .cons _ rs, e => Reps.get (i := i) rs e
theorem Reps.getV : ∀ {vs : List V} {ds : List D} {i : Nat} {v : V}, Reps K A H vs ds → vs[i]? = some v → ∃ d, ds[i]? = some d ∧ Rep K A H v d
  | _, _, _, _, .nil, e => by simp at e
  | _, _, 0, _, .cons r _, e => by
    have q := Option.some.inj e
    subst q
    exact ⟨_, rfl, r⟩
  | _, _, i + 1, d, .cons _ rs, e => Reps.getV (i := i) rs e
theorem Reps.append : ∀ {vs ws : List V} {ds es : List D}, Reps K A H vs ds → Reps K A H ws es → Reps K A H (vs ++ ws) (ds ++ es)
  | _, _, _, _, .nil, s => s
  | _, _, _, _, .cons r rs, s => .cons r (rs.append s)
theorem Reps.set : ∀ {vs : List V} {ds : List D} {v : V} {d : D} (i : Nat), Reps K A H vs ds → Rep K A H v d → Reps K A H (vs.set i v) (ds.set i d)
  | _, _, _, _, _, .nil, _ => .nil
  | _, _, _, _, 0, .cons _ rs, q => .cons q rs
  | _, _, _, _, i + 1, .cons r rs, q => .cons r (rs.set i q)
theorem Reps.eraseIdx : ∀ {vs : List V} {ds : List D} (i : Nat), Reps K A H vs ds → Reps K A H (vs.eraseIdx i) (ds.eraseIdx i)
  | _, _, _, .nil => .nil
  | _, _, 0, .cons _ rs => rs
  | _, _, i + 1, .cons r rs => .cons r (rs.eraseIdx i)
theorem Reps.take : ∀ {vs : List V} {ds : List D} (i : Nat), Reps K A H vs ds → Reps K A H (vs.take i) (ds.take i)
  | _, _, 0, _ => .nil
  | _, _, i + 1, .nil => .nil
  | _, _, i + 1, .cons r rs => .cons r (rs.take i)
theorem Reps.drop : ∀ {vs : List V} {ds : List D} (i : Nat), Reps K A H vs ds → Reps K A H (vs.drop i) (ds.drop i)
  | _, _, 0, r => r
  | _, _, i + 1, .nil => .nil
  | _, _, i + 1, .cons r rs => rs.drop i
theorem Reps.ints : ∀ {vs : List V} {ns : List Int}, Reps K A H vs (ns.map D.int) → vs = ns.map V.int
  | _, [], .nil => rfl
  | _, n :: ns, .cons r rs => by
    cases r
    rw [List.map_cons, rs.ints]
theorem Reps.of_ints : ∀ (ns : List Int), Reps K A H (ns.map V.int) (ns.map D.int)
  | [] => .nil
  | n :: ns => .cons .int (Reps.of_ints ns)
theorem Reps.bls : ∀ {vs : List V} {ns : List Bool}, Reps K A H vs (ns.map D.bl) → vs = ns.map V.bl
  | _, [], .nil => rfl
  | _, n :: ns, .cons r rs => by
    cases r
    rw [List.map_cons, rs.bls]

/-! ### cells -/
def dom (M : Cells) : List Addr := M.map (·.1)
def av (S : AS) (M : Cells) : AS := fun a => S a ∨ a ∈ dom M
inductive RepK (K : PySem.W.Frag) (A : AS) (H : Hp) : List (Key × V) → List (Key × D) → Prop
  | nil : RepK K A H [] []
  | cons {k v d vs ds} : Rep K A H v d → RepK K A H vs ds → RepK K A H ((k, v) :: vs) ((k, d) :: ds)
theorem RepK.to (t : To A A' H H') : ∀ {vs : List (Key × V)} {ds : List (Key × D)}, RepK K A H vs ds → RepK K A' H' vs ds
  | _, _, .nil => .nil
  | _, _, .cons r rs => .cons (r.to t) (rs.to t)
/-- what the captured cells hold -/
structure CapsT (K : PySem.W.Frag) (A : AS) (H : Hp) (cl : List (Str × Addr)) (fr : List Str) (ds : List D) : Prop where
  len : ds.length = fr.length
  inj : ∀ x y c, cl.lookup x = some c → cl.lookup y = some c → x = y
  sub : ∀ y c, cl.lookup y = some c → y ∈ fr
  all : ∀ y c, cl.lookup y = some c → ¬ A c ∧ ∃ o, H c = some (atK c o) ∧ ∃ v, o.data = .cell v
  has : ∀ (i : Nat) (y : Str) (d : D), fr[i]? = some y → ds[i]? = some d → ∃ (c : Addr) (o : Obj) (u : Value) (v : V), cl.lookup y = some c ∧ H c = some (atK c o) ∧ o.data = .cell (some u) ∧ L2.RelV v u ∧ Rep K A H v d
theorem CapsT.to (t : To A A' H H') {cl : List (Str × Addr)} {fr : List Str} {ds : List D} (c : CapsT K A H cl fr ds) : CapsT K A' H' cl fr ds := by
  refine ⟨c.len, c.inj, c.sub, fun y a e => ?_, fun i y d h1 h2 => ?_⟩
  · obtain ⟨n, o, h, q⟩ := c.all y a e
    exact ⟨(t.ins n h).1, o, (t.ins n h).2, q⟩
  · obtain ⟨a, o, u, v, e, h, q, r, p⟩ := c.has i y d h1 h2
    exact ⟨a, o, u, v, e, (t.ins (c.all y a e).1 h).2, q, r, p.to t⟩
def CellOf (K : PySem.W.Frag) (A : AS) (H : Hp) (o : HO) : MO → Prop
  | .lst ds => ∃ vs, o = .lst vs ∧ Reps K A H vs ds
  | .dK kvs => ∃ vs, o = .dK vs ∧ RepK K A H vs kvs
  | .ins C fs => ∃ dx vs, o = .ins C dx vs ∧ RepF K A H vs fs
  | .tbl q => ∃ ps : Array Value, o = .tbl ps ∧ TriplesOk ps.toList ∧ ∀ (pos : Pos) (cv : Value), codeAmong pos ps.toList = some cv → ∃ c, cv = .ref c ∧ ¬ A c ∧ H c = some (LamX.CodeO c q)
  | .fn f L ds => ∃ (pm ctv : Value) (c' : Addr) (cl : List (Str × Addr)), o = atK f (PySem.W.kla_obj "<lambda>" L.qual L.params L.body L.scope cl pm c' ctv) ∧ ¬ A c' ∧ H c' = some (LamX.CodeO c' L.qual) ∧ CapsT K A H cl L.fr ds
def CellAt (K : PySem.W.Frag) (A : AS) (H : Hp) (a : Addr) (m : MO) : Prop := ∃ o, H a = some o ∧ CellOf K A H o m
theorem CellAt.ne {a : Addr} {m : MO} (c : CellAt K A H a m) : H a ≠ none := by
  obtain ⟨o, h, _⟩ := c
  rw [h]
  exact fun z => by cases z
theorem CellOf.to (t : To A A' H H') {o : HO} {m : MO} (c : CellOf K A H o m) : CellOf K A' H' o m := by
  cases m with
  | lst ds => obtain ⟨vs, h, r⟩ := c; exact ⟨vs, h, r.to t⟩
  | dK ds => obtain ⟨vs, h, r⟩ := c; exact ⟨vs, h, r.to t⟩
  | ins C ds => obtain ⟨dx, vs, h, r⟩ := c; exact ⟨dx, vs, h, r.to t⟩
  | tbl q =>
    obtain ⟨ps, h, h2, h3⟩ := c
    exact ⟨ps, h, h2, fun pos cv e => let ⟨a, e1, n, e2⟩ := h3 pos cv e; ⟨a, e1, (t.ins n e2).1, (t.ins n e2).2⟩⟩
  | fn f L ds =>
    obtain ⟨pm, ctv, c', cl, h, n, e, r⟩ := c
    exact ⟨pm, ctv, c', cl, h, (t.ins n e).1, (t.ins n e).2, r.to t⟩
theorem CellAt.to (t : To A A' H H') {a : Addr} {m : MO} (k : ∀ o, H a = some o → H' a = some o) (c : CellAt K A H a m) : CellAt K A' H' a m := by
  obtain ⟨o, h, r⟩ := c
  exact ⟨o, k _ h, r.to t⟩

structure Core (K : PySem.W.Frag) (S : AS) (M : Cells) (H : Hp) : Prop where
  known : ∀ b, S b → H b ≠ none
  nod : (dom M).Nodup
  dis : ∀ a ∈ dom M, ¬ S a
  cells : ∀ p ∈ M, CellAt K (av S M) H p.1 p.2
structure Step (M M' : Cells) (H H' : Hp) : Prop where
  keep : ∀ b o, b ∉ dom M → H b = some o → H' b = some o
  grow : ∀ b, H b ≠ none → H' b ≠ none
  fresh : ∀ b ∈ dom M', b ∈ dom M ∨ H b = none
structure Slots (K : PySem.W.Frag) (A : AS) (H : Hp) (Γ : Gam) (σ : L2.St) : Prop where
  len : Γ.length = σ.length
  at_ : ∀ (i : Nat) (d : D), Γ[i]? = some (some d) → ∃ v : V, σ[i]? = some (some v) ∧ Rep K A H v d
end
section
variable {K : PySem.W.Frag} {S : AS} {M M1 M2 : Cells} {H H1 H2 : Hp} {Γ : Gam} {σ : L2.St}
theorem Step.refl : Step M M H H := ⟨fun _ _ _ h => h, fun _ h => h, fun _ h => .inl h⟩
theorem Step.trans (a : Step M M1 H H1) (b : Step M1 M2 H1 H2) : Step M M2 H H2 where
  keep := fun x o n h => by
    refine b.keep x o (fun z => ?_) (a.keep x o n h)
    rcases a.fresh x z with q | q
    · exact n q
    · rw [q] at h; cases h
  grow := fun x h => b.grow x (a.grow x h)
  fresh := fun x h => by
    rcases b.fresh x h with q | q
    · exact a.fresh x q
    · by_cases e : H x = none
      · exact .inr e
      · exact absurd q (a.grow x e)
theorem Step.to (a : Step M M1 H H1) : To (av S M) (av S M1) H H1 where
  keep := fun b o n h => a.keep b o (fun z => n (.inr z)) h
  av := fun b z => by
    rcases z with z | z
    · exact .inl (.inl z)
    · rcases a.fresh b z with q | q
      · exact .inl (.inr q)
      · exact .inr q
/-- everything stands, something new besides -/
theorem Step.same (s : Same H H1) : Step M M H H1 := by
  refine ⟨fun b o _ h => s b o h, fun b h => ?_, fun _ h => .inl h⟩
  cases e : H b with
  | none => exact absurd e h
  | some o =>
    rw [s b o e]
    exact fun z => by cases z
theorem Core.to (c : Core K S M H) (s : Same H H1) : Core K S M H1 :=
  ⟨fun b z => (Step.same (M := M) s).grow b (c.known b z), c.nod, c.dis, fun p hp => CellAt.to (Step.same s).to (fun o h => s _ o h) (c.cells p hp)⟩
theorem Slots.to {A A' : AS} (t : To A A' H H1) (s : Slots K A H Γ σ) : Slots K A' H1 Γ σ :=
  ⟨s.len, fun i d e => let ⟨v, h, r⟩ := s.at_ i d e; ⟨v, h, r.to t⟩⟩
theorem Slots.set {A : AS} (s : Slots K A H Γ σ) {i : Nat} {v : V} {d : D} (r : Rep K A H v d) : Slots K A H (Γ.set i (some d)) (σ.set i (some v)) := by
  refine ⟨by simp [s.len], fun j e h => ?_⟩
  by_cases hij : i = j
  · subst hij
    by_cases hi : i < Γ.length
    · rw [List.getElem?_set_self hi] at h
      have q := Option.some.inj (Option.some.inj h)
      subst q
      exact ⟨v, List.getElem?_set_self (by rw [← s.len]; exact hi), r⟩
    · rw [List.set_eq_of_length_le (by omega)] at h
      rw [List.getElem?_eq_none (by omega)] at h
      cases h
  · rw [List.getElem?_set_ne hij] at h
    obtain ⟨w, hw, rw'⟩ := s.at_ j e h
    exact ⟨w, by rw [List.getElem?_set_ne hij]; exact hw, rw'⟩
theorem Slots.wipe {A : AS} (s : Slots K A H Γ σ) {i : Nat} : Slots K A H (Γ.set i none) σ := by
  refine ⟨by simp [s.len], fun j e h => ?_⟩
  by_cases hij : i = j
  · subst hij
    by_cases hi : i < Γ.length
    · rw [List.getElem?_set_self hi] at h
      cases h
    · rw [List.set_eq_of_length_le (by omega)] at h
      exact s.at_ i e h
  · rw [List.getElem?_set_ne hij] at h
    exact s.at_ j e h
end
end PL
namespace PL
open PySem PySem.Spec PyProof.Rows L2

/-! ### canonical readings -/
def wE (X : Cx) (e : Expr) : TE := fun σ H Q => ∀ pins s, Inv X pins σ H s → wpAny (model X.prog X.w) X.A (eval e X.env) (EP X pins σ Q) X.xe s
def wT (X : Cx) (e : Expr) : TT := fun σ H Q => ∀ pins s, Inv X pins σ H s → wpAny (model X.prog X.w) X.A (isTrue e X.env (eval e X.env)) (TP X pins σ Q) X.xe s
def wW (X : Cx) (e : Expr) : TT := fun σ H Q => ∀ whole pins s, Inv X pins σ H s → wpAny (model X.prog X.w) X.A (isTrue e X.env whole) (TP X pins σ Q) X.xe s
def wA (X : Cx) (es : List Expr) : TA := fun σ H Q => ∀ pos pins s, Inv X pins σ H s → wpAny (model X.prog X.w) X.A (spliced (backTo pos (starEach es X.env))) (AP X pins σ Q) X.xe s
def wS (X : Cx) (st : Stmt) : TS := fun D σ H => ∀ pins s, Inv X pins σ H s → wpAny (model X.prog X.w) X.A (exec st X.env) (SP X pins D) X.xe s
def wSs (X : Cx) (st : List Stmt) : TS := fun D σ H => ∀ pins s, Inv X pins σ H s → wpAny (model X.prog X.w) X.A (execs st X.env) (SP X pins D) X.xe s
def wG (X : Cx) (tg : Expr) : TG := fun v σ H Q => ∀ pins s u, Inv X pins σ H s → RelV v u → wpAny (model X.prog X.w) X.A (assign tg X.env u) (fun _ s' => ∃ σ' H', Inv X pins σ' H' s' ∧ Q σ' H') X.xe s
section
variable {X : Cx} {e : Expr} {es : List Expr} {st : Stmt} {sts : List Stmt}
theorem wE.pe : PE X e (wE X e) := ⟨fun pins s σ H Q I h => h pins s I⟩
theorem wT.pt : PT X e (wT X e) := ⟨fun pins s σ H Q I h => h pins s I⟩
theorem wW.pw : PW X e (wW X e) := ⟨fun wh pins s σ H Q I h => h wh pins s I⟩
theorem wA.pa : PA X es (wA X es) := ⟨fun pos pins s σ H Q I h => h pos pins s I⟩
theorem wS.ps : PS X st (wS X st) := ⟨fun pins s σ H D I h => h pins s I⟩
theorem wSs.pss : PSs X sts (wSs X sts) := ⟨fun pins s σ H D I h => h pins s I⟩
theorem wG.pg : PG X e (wG X e) := ⟨fun pins s σ H v u Q I r h => h pins s u I r⟩
theorem PE.to {t : TE} {σ H Q} (h : PE X e t) (q : t σ H Q) : wE X e σ H Q := fun pins s I => h.run pins s σ H Q I q
theorem PT.to {t : TT} {σ H Q} (h : PT X e t) (q : t σ H Q) : wT X e σ H Q := fun pins s I => h.run pins s σ H Q I q
theorem PW.to {t : TT} {σ H Q} (h : PW X e t) (q : t σ H Q) : wW X e σ H Q := fun wh pins s I => h.run wh pins s σ H Q I q
theorem PA.to {t : TA} {σ H Q} (h : PA X es t) (q : t σ H Q) : wA X es σ H Q := fun pos pins s I => h.run pos pins s σ H Q I q
theorem PS.to {t : TS} {σ H D} (h : PS X st t) (q : t D σ H) : wS X st D σ H := fun pins s I => h.run pins s σ H D I q
theorem PSs.to {t : TS} {σ H D} (h : PSs X sts t) (q : t D σ H) : wSs X sts D σ H := fun pins s I => h.run pins s σ H D I q
theorem PG.to {t : TG} {v σ H Q} (h : PG X e t) (q : t v σ H Q) : wG X e v σ H Q := fun pins s u I r => h.run pins s σ H v u Q I r q
end

/-! ### the context, by what is known of it -/
structure Ctx where
  P : Program
  w : World
  K : PySem.W.Frag
  mg : Str → Option Value
  base : Heap
  N : List Str
  sc : Scope
  k : Nat
  Z : Addr → D → Gam → Cells → Prop
  own : Str → Bool
  /-- a def's own body, no comprehension's -/
  top : Bool
  /-- not within an except suite, nor in a def that is called there -/
  calm : Bool
  /-- a def that makes lambdas: its code object, the table of these, their name -/
  lam : Option (Addr × Addr × Str)
structure Ctx.Is (c : Ctx) (X : Cx) : Prop where
  prog : X.prog = c.P
  w : X.w = c.w
  K : X.K = c.K
  mg : X.mg = c.mg
  base : X.base = c.base
  N : X.N = c.N
  sc : X.env.scope = c.sc
  room : c.calm = true → Room c.k X.A
  calm : c.calm = true → X.calm = true
  nd : X.N.Nodup
  fn : ∀ x, c.sc.names.lookup x = some .cell → c.own x = true → X.fn x = true
  po : PassesOwn (model X.prog X.w) X.A X.env X.xe
  stk : c.top = true → X.stack = X.env :: X.outer ∧ X.env.frame = some X.env.locals
  roomH : L2H.RoomH c.k X.A
  lam : ∀ cA P q, c.lam = some (cA, P, q) → X.env.code = .ref cA ∧ LamX.TabB X.base X.mg cA P ∧ X.env.qual ++ "<lambda>" = q
/-- what may be raised: where it lands -/
def Land (c : Ctx) (X : Cx) (S : AS) (M : Cells) (H : Hp) : Prop :=
  ∃ W : WX, Takes X W ∧ ∀ C dd v d σ' H' Γ' M', Core c.K S M' H' → Slots c.K (av S M') H' Γ' σ' → Step M M' H H' → (¬ av S M' dd ∧ H' dd = some (.xd [(("what" : Str), v)])) → Rep c.K (av S M') H' v d → c.Z C d Γ' M' → W (.ref C) (some dd) σ' H'
structure At (c : Ctx) (X : Cx) (S : AS) (Γ : Gam) (M : Cells) (σ : L2.St) (H : Hp) : Prop where
  is : c.Is X
  core : Core c.K S M H
  slots : Slots c.K (av S M) H Γ σ
  land : Land c X S M H
section
variable {c : Ctx} {X : Cx} {S : AS} {Γ Γ' : Gam} {M M' : Cells} {σ σ' : L2.St} {H H' : Hp}
theorem Land.step (l : Land c X S M H) (s : Step M M' H H') : Land c X S M' H' := by
  obtain ⟨W, tk, h⟩ := l
  exact ⟨W, tk, fun C dd v d σ2 H2 Γ2 M2 hc hs st => h C dd v d σ2 H2 Γ2 M2 hc hs (s.trans st)⟩
theorem At.step (a : At c X S Γ M σ H) (hc : Core c.K S M' H') (s : Step M M' H H') : At c X S Γ M' σ H' :=
  ⟨a.is, hc, a.slots.to s.to, a.land.step s⟩
theorem At.slot (a : At c X S Γ M σ H) (hc : Core c.K S M' H') (hs : Slots c.K (av S M') H' Γ' σ') (s : Step M M' H H') : At c X S Γ' M' σ' H' :=
  ⟨a.is, hc, hs, a.land.step s⟩
end

/-! ### judgements -/
structure WE (c : Ctx) (e : Expr) (Γ : Gam) (M : Cells) (Q : D → Cells → Prop) : Prop where
  run : ∀ X S σ H, At c X S Γ M σ H → ∀ Q' : VK, (∀ v H' d M', Core c.K S M' H' → Step M M' H H' → Rep c.K (av S M') H' v d → Q d M' → Q' v H') → wE X e σ H Q'
structure WT (c : Ctx) (e : Expr) (Γ : Gam) (M : Cells) (Q : Bool → Cells → Prop) : Prop where
  run : ∀ X S σ H, At c X S Γ M σ H → ∀ Q' : Bool → Hp → Prop, (∀ b H' M', Core c.K S M' H' → Step M M' H H' → Q b M' → Q' b H') → wT X e σ H Q'
structure WW (c : Ctx) (e : Expr) (Γ : Gam) (M : Cells) (Q : Bool → Cells → Prop) : Prop where
  run : ∀ X S σ H, At c X S Γ M σ H → ∀ Q' : Bool → Hp → Prop, (∀ b H' M', Core c.K S M' H' → Step M M' H H' → Q b M' → Q' b H') → wW X e σ H Q'
structure WA (c : Ctx) (es : List Expr) (Γ : Gam) (M : Cells) (Q : List D → Cells → Prop) : Prop where
  run : ∀ X S σ H, At c X S Γ M σ H → ∀ Q' : List V → Hp → Prop, (∀ vs H' ds M', Core c.K S M' H' → Step M M' H H' → Reps c.K (av S M') H' vs ds → Q ds M' → Q' vs H') → wA X es σ H Q'
structure PEnds where
  nx : Gam → Cells → Prop
  rt : D → Cells → Prop
  bk : Gam → Cells → Prop := fun _ _ => False
  ct : Gam → Cells → Prop := fun _ _ => False
structure Lift (c : Ctx) (S : AS) (M : Cells) (H : Hp) (E : PEnds) (Ds : Ends) : Prop where
  nx : ∀ σ' H' Γ' M', Core c.K S M' H' → Slots c.K (av S M') H' Γ' σ' → Step M M' H H' → E.nx Γ' M' → Ds.nx σ' H'
  rt : ∀ v H' d M', Core c.K S M' H' → Step M M' H H' → Rep c.K (av S M') H' v d → E.rt d M' → Ds.rt v H'
  bk : ∀ σ' H' Γ' M', Core c.K S M' H' → Slots c.K (av S M') H' Γ' σ' → Step M M' H H' → E.bk Γ' M' → Ds.bk σ' H'
  ct : ∀ σ' H' Γ' M', Core c.K S M' H' → Slots c.K (av S M') H' Γ' σ' → Step M M' H H' → E.ct Γ' M' → Ds.ct σ' H'
theorem Lift.step {c : Ctx} {S : AS} {M M' : Cells} {H H' : Hp} {E : PEnds} {Ds : Ends} (l : Lift c S M H E Ds) (s : Step M M' H H') : Lift c S M' H' E Ds :=
  ⟨fun σ2 H2 Γ2 M2 h1 h2 h3 => l.nx σ2 H2 Γ2 M2 h1 h2 (s.trans h3), fun v2 H2 d2 M2 h1 h3 => l.rt v2 H2 d2 M2 h1 (s.trans h3),
   fun σ2 H2 Γ2 M2 h1 h2 h3 => l.bk σ2 H2 Γ2 M2 h1 h2 (s.trans h3), fun σ2 H2 Γ2 M2 h1 h2 h3 => l.ct σ2 H2 Γ2 M2 h1 h2 (s.trans h3)⟩
structure WS (c : Ctx) (st : Stmt) (E : PEnds) (Γ : Gam) (M : Cells) : Prop where
  run : ∀ X S σ H, At c X S Γ M σ H → ∀ Ds : Ends, Lift c S M H E Ds → wS X st Ds σ H
structure WSs (c : Ctx) (sts : List Stmt) (E : PEnds) (Γ : Gam) (M : Cells) : Prop where
  run : ∀ X S σ H, At c X S Γ M σ H → ∀ Ds : Ends, Lift c S M H E Ds → wSs X sts Ds σ H
structure WG (c : Ctx) (tg : Expr) (d : D) (Γ : Gam) (M : Cells) (E : Gam → Cells → Prop) : Prop where
  run : ∀ X S σ H, At c X S Γ M σ H → ∀ v, Rep c.K (av S M) H v d → ∀ Q' : L2.St → Hp → Prop, (∀ σ' H' Γ' M', Core c.K S M' H' → Slots c.K (av S M') H' Γ' σ' → Step M M' H H' → E Γ' M' → Q' σ' H') → wG X tg v σ H Q'
def VisC (sc : Scope) (x : Str) : Prop := sc.names.lookup x = some .local ∨ sc.names.lookup x = some .cell ∨ sc.names.lookup x = some .free
def LocC (c : Ctx) (x : Str) : Prop := c.sc.names.lookup x = some .local ∨ (c.sc.names.lookup x = some .cell ∧ c.own x = true)
def GlC (sc : Scope) (x : Str) : Prop := sc.names.lookup x = some .globalImplicit
section
variable {c : Ctx} {X : Cx} {S : AS} {Γ Γ' : Gam} {M M' : Cells} {σ σ' : L2.St} {H H' : Hp} {a b e : Expr} {es : List Expr} {pos pos' : Pos} {Q : D → Cells → Prop} {R : Bool → Cells → Prop} {x : Str}
theorem Ctx.Is.gl (i : c.Is X) (h : GlC c.sc x) : Gl X x := by
  have e : X.env.scope.names.lookup x = some .globalImplicit := by rw [i.sc]; exact h
  exact e
theorem Ctx.Is.loc (i : c.Is X) (h : LocC c x) : Loc X.env.scope x := by
  rw [i.sc]
  rcases h with h | h
  · exact .inl h
  · exact .inr h.1
theorem Ctx.Is.vis (i : c.Is X) (h : VisC c.sc x) : Vis X.env.scope x := by rw [i.sc]; exact h
theorem Ctx.Is.st (i : c.Is X) (h : LocC c x) : X.fn x = true ∨ X.env.scope.names.lookup x = some .local := by
  rcases h with h | h
  · exact .inr (by rw [i.sc]; exact h)
  · exact .inl (i.fn x h.1 h.2)
theorem Ctx.Is.hu (i : c.Is X) : X.A.units + 64 < cLine := by have := i.roomH.un; omega
theorem Ctx.Is.nm {i : Nat} (is : c.Is X) (h : c.N[i]? = some x) : X.N[i]? = some x := by rw [is.N]; exact h
theorem Ctx.Is.mgN (is : c.Is X) {o : Option Value} (h : c.mg x = o) : X.mg x = o := by rw [is.mg]; exact h

/-! ### constants, names -/
theorem we_var {i : Nat} {d : D} (hN : c.N[i]? = some x) (hv : VisC c.sc x) (hΓ : Γ[i]? = some (some d)) (q : Q d M) (hd : (x == ("__debug__" : Str)) = false := by decide) (hcd : (x == ("__classdict__" : Str)) = false := by decide) : WE c (.Name x pos) Γ M Q := .mk fun X S σ H at_ Q' hq => by
  obtain ⟨v, hs, r⟩ := at_.slots.at_ i d hΓ
  exact PE.to (pe_var (at_.is.nm hN) (at_.is.vis hv) hd hcd) ⟨v, hs, hq v H d M at_.core .refl r q⟩
theorem we_int {i : Int} {j : Nat} (q : Q (.int i) M) : WE c (.Constant (.int i) j pos) Γ M Q := .mk fun X S σ H at_ Q' hq =>
  PE.to pe_int (hq _ _ _ _ at_.core .refl .int q)
theorem we_bl {i : Bool} {j : Nat} (q : Q (.bl i) M) : WE c (.Constant (.bool i) j pos) Γ M Q := .mk fun X S σ H at_ Q' hq =>
  PE.to pe_bl (hq _ _ _ _ at_.core .refl .bl q)
theorem we_non {j : Nat} (q : Q .non M) : WE c (.Constant .none j pos) Γ M Q := .mk fun X S σ H at_ Q' hq =>
  PE.to pe_non (hq _ _ _ _ at_.core .refl .non q)
theorem we_str {i : Str} {j : Nat} (q : Q (.str i) M) : WE c (.Constant (.str i) j pos) Γ M Q := .mk fun X S σ H at_ Q' hq =>
  PE.to pe_str (hq _ _ _ _ at_.core .refl .str q)

/-! ### operators -/
theorem two {T : V → V → Hp → Prop} {R : D → D → Cells → Prop} (h : WE c a Γ M fun x M1 => WE c b Γ M1 fun y M2 => R x y M2) (at_ : At c X S Γ M σ H)
    (hT : ∀ v1 v2 H2 d1 d2 M2, Core c.K S M2 H2 → Step M M2 H H2 → Rep c.K (av S M2) H2 v1 d1 → Rep c.K (av S M2) H2 v2 d2 → R d1 d2 M2 → T v1 v2 H2) :
    wE X a σ H fun x H1 => wE X b σ H1 fun y H2 => T x y H2 :=
  h.run X S σ H at_ _ fun v1 H1 d1 M1 c1 s1 r1 q1 => q1.run X S σ H1 (at_.step c1 s1) _ fun v2 H2 d2 M2 c2 s2 r2 q2 => hT v1 v2 H2 d1 d2 M2 c2 (s1.trans s2) (r1.to s2.to) r2 q2
theorem we_opI {op : Operator} {C : Int → Int → Prop} {g : Int → Int → Int} (ho : ∀ X : Cx, OpR X (binaryOp op) (rI C fun i j => .int (g i j)))
    (h : WE c a Γ M fun x M1 => WE c b Γ M1 fun y M2 => ∃ i j, x = .int i ∧ y = .int j ∧ C i j ∧ Q (.int (g i j)) M2) : WE c (.BinOp a op b pos) Γ M Q := .mk fun X S σ H at_ Q' hq =>
  PE.to (pe_op (ho X) wE.pe wE.pe) (two h at_ fun v1 v2 H2 d1 d2 M2 c2 s2 r1 r2 ⟨i, j, e1, e2, hc, q⟩ => by
    subst e1 e2; cases r1; cases r2
    exact ⟨i, j, rfl, rfl, hc, hq _ _ _ _ c2 s2 .int q⟩)
theorem we_op0 {op : Operator} {g : Int → Int → Int} (ho : ∀ X : Cx, OpR X (binaryOp op) (rI0 fun i j => .int (g i j)))
    (h : WE c a Γ M fun x M1 => WE c b Γ M1 fun y M2 => ∃ i j, x = .int i ∧ y = .int j ∧ Q (.int (g i j)) M2) : WE c (.BinOp a op b pos) Γ M Q := .mk fun X S σ H at_ Q' hq =>
  PE.to (pe_op (ho X) wE.pe wE.pe) (two h at_ fun v1 v2 H2 d1 d2 M2 c2 s2 r1 r2 ⟨i, j, e1, e2, q⟩ => by
    subst e1 e2; cases r1; cases r2
    exact ⟨i, j, rfl, rfl, hq _ _ _ _ c2 s2 .int q⟩)
theorem we_add (h : WE c a Γ M fun x M1 => WE c b Γ M1 fun y M2 => ∃ i j, x = .int i ∧ y = .int j ∧ Q (.int (i + j)) M2) : WE c (.BinOp a .Add b pos) Γ M Q := we_op0 (fun X => op_add) h
theorem we_sub (h : WE c a Γ M fun x M1 => WE c b Γ M1 fun y M2 => ∃ i j, x = .int i ∧ y = .int j ∧ Q (.int (i - j)) M2) : WE c (.BinOp a .Sub b pos) Γ M Q := we_op0 (fun X => op_sub) h
theorem we_mul (h : WE c a Γ M fun x M1 => WE c b Γ M1 fun y M2 => ∃ i j, x = .int i ∧ y = .int j ∧ CMulW i j ∧ Q (.int (i * j)) M2) : WE c (.BinOp a .Mult b pos) Γ M Q := we_opI (fun X => op_mulW) h
theorem we_div (h : WE c a Γ M fun x M1 => WE c b Γ M1 fun y M2 => ∃ i j, x = .int i ∧ y = .int j ∧ CDivW i j ∧ Q (.int (i / j)) M2) : WE c (.BinOp a .FloorDiv b pos) Γ M Q := we_opI (fun X => op_fdivW) h
theorem we_mod (h : WE c a Γ M fun x M1 => WE c b Γ M1 fun y M2 => ∃ i j, x = .int i ∧ y = .int j ∧ 0 < j ∧ Q (.int (i % j)) M2) : WE c (.BinOp a .Mod b pos) Γ M Q := we_opI (C := fun _ j => 0 < j) (fun X => op_mod) h
theorem we_pow (h : WE c a Γ M fun x M1 => WE c b Γ M1 fun y M2 => ∃ i j, x = .int i ∧ y = .int j ∧ CPow i j ∧ Q (.int (i ^ j.toNat)) M2) : WE c (.BinOp a .Pow b pos) Γ M Q := we_opI (fun X => op_pow) h
theorem we_neg (h : WE c a Γ M fun x M1 => ∃ i, x = .int i ∧ Q (.int (-i)) M1) : WE c (.UnaryOp .USub a pos) Γ M Q := .mk fun X S σ H at_ Q' hq =>
  PE.to (pe_un un_neg wE.pe) (h.run X S σ H at_ _ fun v1 H1 d1 M1 c1 s1 r1 ⟨i, e1, q⟩ => by
    subst e1; cases r1
    exact ⟨i, rfl, hq _ _ _ _ c1 s1 .int q⟩)

/-! ### comparisons -/
theorem we_cmpI {op : CmpOp} {p : Int → Int → Bool} (ho : ∀ X : Cx, OpR X (compareOp op) (rI0 fun i j => .bl (p i j))) (hm : behindInMarks op b = false)
    (h : WE c a Γ M fun x M1 => WE c b Γ M1 fun y M2 => ∃ i j, x = .int i ∧ y = .int j ∧ Q (.bl (p i j)) M2) : WE c (.Compare a [op] [b] pos) Γ M Q := .mk fun X S σ H at_ Q' hq =>
  PE.to (pe_cmpR (ho X) wE.pe wE.pe hm) (two h at_ fun v1 v2 H2 d1 d2 M2 c2 s2 r1 r2 ⟨i, j, e1, e2, q⟩ => by
    subst e1 e2; cases r1; cases r2
    exact ⟨i, j, rfl, rfl, hq _ _ _ _ c2 s2 .bl q⟩)
theorem wt_cmpI {op : CmpOp} {p : Int → Int → Bool} (ho : ∀ X : Cx, OpR X (compareOp op) (rI0 fun i j => .bl (p i j))) (hm : behindInMarks op b = false)
    (h : WE c a Γ M fun x M1 => WE c b Γ M1 fun y M2 => ∃ i j, x = .int i ∧ y = .int j ∧ R (p i j) M2) : WT c (.Compare a [op] [b] pos) Γ M R := .mk fun X S σ H at_ Q' hq =>
  PT.to (pt_cmpR (ho X) wE.pe wE.pe hm) (two h at_ fun v1 v2 H2 d1 d2 M2 c2 s2 r1 r2 ⟨i, j, e1, e2, q⟩ => by
    subst e1 e2; cases r1; cases r2
    exact ⟨i, j, rfl, rfl, _, rfl, hq _ _ _ c2 s2 q⟩)
theorem wt_lt (h : WE c a Γ M fun x M1 => WE c b Γ M1 fun y M2 => ∃ i j, x = .int i ∧ y = .int j ∧ R (decide (i < j)) M2) : WT c (.Compare a [.Lt] [b] pos) Γ M R := wt_cmpI (fun X => op_lt) (nomark _) h
theorem wt_le (h : WE c a Γ M fun x M1 => WE c b Γ M1 fun y M2 => ∃ i j, x = .int i ∧ y = .int j ∧ R (decide (i ≤ j)) M2) : WT c (.Compare a [.LtE] [b] pos) Γ M R := wt_cmpI (fun X => op_le) (nomark _) h
theorem wt_gt (h : WE c a Γ M fun x M1 => WE c b Γ M1 fun y M2 => ∃ i j, x = .int i ∧ y = .int j ∧ R (decide (j < i)) M2) : WT c (.Compare a [.Gt] [b] pos) Γ M R := wt_cmpI (fun X => op_gt) (nomark _) h
theorem wt_ge (h : WE c a Γ M fun x M1 => WE c b Γ M1 fun y M2 => ∃ i j, x = .int i ∧ y = .int j ∧ R (decide (j ≤ i)) M2) : WT c (.Compare a [.GtE] [b] pos) Γ M R := wt_cmpI (fun X => op_ge) (nomark _) h
theorem we_lt (h : WE c a Γ M fun x M1 => WE c b Γ M1 fun y M2 => ∃ i j, x = .int i ∧ y = .int j ∧ Q (.bl (decide (i < j))) M2) : WE c (.Compare a [.Lt] [b] pos) Γ M Q := we_cmpI (fun X => op_lt) (nomark _) h
theorem we_le (h : WE c a Γ M fun x M1 => WE c b Γ M1 fun y M2 => ∃ i j, x = .int i ∧ y = .int j ∧ Q (.bl (decide (i ≤ j))) M2) : WE c (.Compare a [.LtE] [b] pos) Γ M Q := we_cmpI (fun X => op_le) (nomark _) h
theorem we_gt (h : WE c a Γ M fun x M1 => WE c b Γ M1 fun y M2 => ∃ i j, x = .int i ∧ y = .int j ∧ Q (.bl (decide (j < i))) M2) : WE c (.Compare a [.Gt] [b] pos) Γ M Q := we_cmpI (fun X => op_gt) (nomark _) h
theorem we_ge (h : WE c a Γ M fun x M1 => WE c b Γ M1 fun y M2 => ∃ i j, x = .int i ∧ y = .int j ∧ Q (.bl (decide (j ≤ i))) M2) : WE c (.Compare a [.GtE] [b] pos) Γ M Q := we_cmpI (fun X => op_ge) (nomark _) h
def D.isNon : D → Bool
  | .non => true
  | _ => false
theorem Rep.isNon {K A H v d} (r : Rep K A H v d) : decide (v = .non) = d.isNon := by
  cases r <;> rfl
theorem we_isN {j : Nat} {p2 : Pos} (h : WE c a Γ M fun x M1 => Q (.bl x.isNon) M1) : WE c (.Compare a [.Is] [.Constant .none j p2] pos) Γ M Q := .mk fun X S σ H at_ Q' hq =>
  PE.to (pe_cmp (pc_isN wE.pe)) (h.run X S σ H at_ _ fun v1 H1 d1 M1 c1 s1 r1 q => by
    show Q' (.bl (decide (v1 = .non))) H1
    rw [r1.isNon]
    exact hq _ _ _ _ c1 s1 .bl q)
theorem we_notN {j : Nat} {p2 : Pos} (h : WE c a Γ M fun x M1 => Q (.bl (!x.isNon)) M1) : WE c (.Compare a [.IsNot] [.Constant .none j p2] pos) Γ M Q := .mk fun X S σ H at_ Q' hq =>
  PE.to (pe_cmp (pc_notN wE.pe)) (h.run X S σ H at_ _ fun v1 H1 d1 M1 c1 s1 r1 q => by
    show Q' (.bl (!decide (v1 = .non))) H1
    rw [r1.isNon]
    exact hq _ _ _ _ c1 s1 .bl q)
/-- an expression that gives a truth, as a test -/
theorem wt_val (h : WE c e Γ M fun x M1 => ∃ k, x = .bl k ∧ R k M1) (he : ∀ env whole, isTrue e env whole = (do let v ← whole; standAt e.pos; holding [v] (truthy v)) := by intro _ _; rfl) : WT c e Γ M R := .mk fun X S σ H at_ Q' hq =>
  PT.to (pt_val wE.pe (he _)) (h.run X S σ H at_ _ fun v1 H1 d1 M1 c1 s1 r1 ⟨k, e1, q⟩ => by
    subst e1; cases r1
    exact ⟨k, rfl, hq _ _ _ c1 s1 q⟩)
theorem wt_isN {j : Nat} {p2 : Pos} (h : WE c a Γ M fun x M1 => R x.isNon M1) : WT c (.Compare a [.Is] [.Constant .none j p2] pos) Γ M R := .mk fun X S σ H at_ Q' hq =>
  PT.to (pt_cmp (pc_isN wE.pe)) (h.run X S σ H at_ _ fun v1 H1 d1 M1 c1 s1 r1 q => by
    refine ⟨_, rfl, ?_⟩
    rw [r1.isNon]
    exact hq _ _ _ c1 s1 q)
theorem wt_notN {j : Nat} {p2 : Pos} (h : WE c a Γ M fun x M1 => R (!x.isNon) M1) : WT c (.Compare a [.IsNot] [.Constant .none j p2] pos) Γ M R := .mk fun X S σ H at_ Q' hq =>
  PT.to (pt_cmp (pc_notN wE.pe)) (h.run X S σ H at_ _ fun v1 H1 d1 M1 c1 s1 r1 q => by
    refine ⟨_, rfl, ?_⟩
    rw [r1.isNon]
    exact hq _ _ _ c1 s1 q)

/-! ### and, or, not -/
variable {rest : List Expr}
theorem ww_and1 (h : WT c a Γ M R) : WW c (.BoolOp .And [a] pos) Γ M R := .mk fun X S σ H at_ Q' hq => PW.to (pw_and1 wT.pt) (h.run X S σ H at_ _ hq)
theorem ww_or1 (h : WT c a Γ M R) : WW c (.BoolOp .Or [a] pos) Γ M R := .mk fun X S σ H at_ Q' hq => PW.to (pw_or1 wT.pt) (h.run X S σ H at_ _ hq)
/-- the two ways of a test -/
def Br (k : Bool) (A B : Prop) : Prop := (k = true → A) ∧ (k = false → B)
theorem ww_and (h : WT c a Γ M fun k M1 => Br k (WW c (.BoolOp .And (b :: rest) pos) Γ M1 R) (R false M1)) : WW c (.BoolOp .And (a :: b :: rest) pos) Γ M R := .mk fun X S σ H at_ Q' hq =>
  PW.to (pw_and wT.pt wW.pw) (h.run X S σ H at_ _ fun k H1 M1 c1 s1 q => by
    cases k with
    | true => exact (q.1 rfl).run X S σ H1 (at_.step c1 s1) _ fun b' H2 M2 c2 s2 q2 => hq _ _ _ c2 (s1.trans s2) q2
    | false => exact hq _ _ _ c1 s1 (q.2 rfl))
theorem ww_or (h : WT c a Γ M fun k M1 => Br k (R true M1) (WW c (.BoolOp .Or (b :: rest) pos) Γ M1 R)) : WW c (.BoolOp .Or (a :: b :: rest) pos) Γ M R := .mk fun X S σ H at_ Q' hq =>
  PW.to (pw_or wT.pt wW.pw) (h.run X S σ H at_ _ fun k H1 M1 c1 s1 q => by
    cases k with
    | false => exact (q.2 rfl).run X S σ H1 (at_.step c1 s1) _ fun b' H2 M2 c2 s2 q2 => hq _ _ _ c2 (s1.trans s2) q2
    | true => exact hq _ _ _ c1 s1 (q.1 rfl))
theorem wt_ww (h : WW c e Γ M R) : WT c e Γ M R := .mk fun X S σ H at_ Q' hq => PT.to (wW.pw.pt) (h.run X S σ H at_ _ hq)
theorem wt_not (h : WT c a Γ M fun k M1 => R (!k) M1) : WT c (.UnaryOp .Not a pos) Γ M R := .mk fun X S σ H at_ Q' hq =>
  PT.to (pt_not wT.pt) (h.run X S σ H at_ _ fun k H1 M1 c1 s1 q => hq _ _ _ c1 s1 q)
theorem we_not (h : WE c a Γ M fun x M1 => ∃ k, x = .bl k ∧ Q (.bl (!k)) M1) : WE c (.UnaryOp .Not a pos) Γ M Q := .mk fun X S σ H at_ Q' hq =>
  PE.to (pe_not wE.pe) (h.run X S σ H at_ _ fun v1 H1 d1 M1 c1 s1 r1 ⟨k, e1, q⟩ => by
    subst e1; cases r1
    exact ⟨k, rfl, hq _ _ _ _ c1 s1 .bl q⟩)
theorem we_one {op} (h : WE c a Γ M Q) : WE c (.BoolOp op [a] pos) Γ M Q := .mk fun X S σ H at_ Q' hq => PE.to (pe_one wE.pe) (h.run X S σ H at_ _ hq)
theorem we_and (h : WE c a Γ M fun x M1 => ∃ k, x = .bl k ∧ Br k (WE c (.BoolOp .And (b :: rest) pos) Γ M1 Q) (Q (.bl false) M1)) : WE c (.BoolOp .And (a :: b :: rest) pos) Γ M Q := .mk fun X S σ H at_ Q' hq =>
  PE.to (pe_and wE.pe wE.pe) (h.run X S σ H at_ _ fun v1 H1 d1 M1 c1 s1 r1 ⟨k, e1, q⟩ => by
    subst e1; cases r1
    refine ⟨k, rfl, ?_⟩
    cases k with
    | true => exact (q.1 rfl).run X S σ H1 (at_.step c1 s1) _ fun v2 H2 d2 M2 c2 s2 r2 q2 => hq _ _ _ _ c2 (s1.trans s2) r2 q2
    | false => exact hq _ _ _ _ c1 s1 .bl (q.2 rfl))
theorem we_or (h : WE c a Γ M fun x M1 => ∃ k, x = .bl k ∧ Br k (Q (.bl true) M1) (WE c (.BoolOp .Or (b :: rest) pos) Γ M1 Q)) : WE c (.BoolOp .Or (a :: b :: rest) pos) Γ M Q := .mk fun X S σ H at_ Q' hq =>
  PE.to (pe_or wE.pe wE.pe) (h.run X S σ H at_ _ fun v1 H1 d1 M1 c1 s1 r1 ⟨k, e1, q⟩ => by
    subst e1; cases r1
    refine ⟨k, rfl, ?_⟩
    cases k with
    | false => exact (q.2 rfl).run X S σ H1 (at_.step c1 s1) _ fun v2 H2 d2 M2 c2 s2 r2 q2 => hq _ _ _ _ c2 (s1.trans s2) r2 q2
    | true => exact hq _ _ _ _ c1 s1 .bl (q.1 rfl))
theorem we_ifE {t : Expr} (h : WT c t Γ M fun k M1 => Br k (WE c a Γ M1 Q) (WE c b Γ M1 Q)) : WE c (.IfExp t a b pos) Γ M Q := .mk fun X S σ H at_ Q' hq =>
  PE.to (pe_ifExp wT.pt wE.pe wE.pe) (h.run X S σ H at_ _ fun k H1 M1 c1 s1 q => by
    cases k with
    | true => exact (q.1 rfl).run X S σ H1 (at_.step c1 s1) _ fun v2 H2 d2 M2 c2 s2 r2 q2 => hq _ _ _ _ c2 (s1.trans s2) r2 q2
    | false => exact (q.2 rfl).run X S σ H1 (at_.step c1 s1) _ fun v2 H2 d2 M2 c2 s2 r2 q2 => hq _ _ _ _ c2 (s1.trans s2) r2 q2)
theorem br_dec {p : Prop} [Decidable p] {A B : Prop} (h1 : p → A) (h2 : ¬ p → B) : Br (decide p) A B := ⟨fun h => h1 (of_decide_eq_true h), fun h => h2 (of_decide_eq_false h)⟩
theorem br_not {k : Bool} {A B : Prop} (h : Br k B A) : Br (!k) A B := by
  cases k with
  | true => exact ⟨fun z => (by cases z), fun _ => h.1 rfl⟩
  | false => exact ⟨fun _ => h.2 rfl, fun z => (by cases z)⟩
theorem br_t {A B : Prop} (h : A) : Br true A B := ⟨fun _ => h, fun z => (by cases z)⟩
theorem br_f {A B : Prop} (h : B) : Br false A B := ⟨fun z => (by cases z), fun _ => h⟩

/-! ### tuples, lists, arguments -/
theorem wa_nil {R : List D → Cells → Prop} (q : R [] M) : WA c [] Γ M R := .mk fun X S σ H at_ Q' hq => PA.to pa_nil (hq _ _ _ _ at_.core .refl .nil q)
theorem wa_cons {R : List D → Cells → Prop} (h : WE c e Γ M fun x M1 => WA c es Γ M1 fun xs M2 => R (x :: xs) M2) (hs : ∀ env, starEach (e :: es) env = (false, eval e env) :: starEach es env := by intro _; rfl) : WA c (e :: es) Γ M R := .mk fun X S σ H at_ Q' hq =>
  PA.to (pa_cons wE.pe wA.pa (hs _)) (h.run X S σ H at_ _ fun v1 H1 d1 M1 c1 s1 r1 q1 => q1.run X S σ H1 (at_.step c1 s1) _ fun vs H2 ds M2 c2 s2 r2 q2 => hq _ _ _ _ c2 (s1.trans s2) (.cons (r1.to s2.to) r2) q2)
theorem Core.new (cr : Core c.K S M H) {p : Addr} {o : HO} (np : H p = none) : Core c.K S M (upd H p o) := cr.to fun b u e => by
  rw [upd_ne (ne_of_none e np)]
  exact e
theorem same_new {p : Addr} {o : HO} (np : H p = none) : Same H (upd H p o) := fun b u e => by
  rw [upd_ne (ne_of_none e np)]
  exact e
theorem Core.free (cr : Core c.K S M H) {p : Addr} (np : H p = none) : ¬ av S M p := fun z => by
  rcases z with z | z
  · exact cr.known p z np
  · obtain ⟨q, hq, e⟩ := List.mem_map.mp z
    have := (cr.cells q hq).ne
    rw [e] at this
    exact this np
theorem we_tup {k : Nat} (h : WA c es Γ M fun ds M1 => ds.length ≤ sizeLine ∧ Q (.tup ds) M1) : WE c (.Tuple es k pos) Γ M Q := .mk fun X S σ H at_ Q' hq =>
  PE.to (pe_tup wA.pa) (h.run X S σ H at_ _ fun vs H1 ds M1 c1 s1 r1 ⟨hl, q⟩ => ⟨by rw [r1.length]; exact hl, fun p np =>
    hq _ _ _ _ (c1.new np) (s1.trans (Step.same (same_new np))) (.tup (.inl ⟨c1.free np, .inl upd_same⟩) (r1.to (Step.same (same_new np)).to)) q⟩)
/-- a list that stays as it is -/
theorem we_lst (h : WA c es Γ M fun ds M1 => ds.length ≤ sizeLine ∧ Q (.lst ds) M1) : WE c (.List es pos) Γ M Q := .mk fun X S σ H at_ Q' hq =>
  PE.to (pe_lst wA.pa) (h.run X S σ H at_ _ fun vs H1 ds M1 c1 s1 r1 ⟨hl, q⟩ => ⟨by rw [r1.length]; exact hl, fun p np =>
    hq _ _ _ _ (c1.new np) (s1.trans (Step.same (same_new np))) (.lst (.inl ⟨c1.free np, .inl upd_same⟩) (r1.to (Step.same (same_new np)).to)) q⟩)
/-- a new cell -/
theorem Core.cell (cr : Core c.K S M H) {p : Addr} {o : HO} {m : MO} (np : H p = none) (hm : CellOf c.K (av S M) H o m) : Core c.K S ((p, m) :: M) (upd H p o) ∧ Step M ((p, m) :: M) H (upd H p o) := by
  have nd : p ∉ dom M := fun z => cr.free np (.inr z)
  have st : Step M ((p, m) :: M) H (upd H p o) := by
    refine ⟨fun b u _ e => same_new np b u e, (Step.same (M := M) (same_new np)).grow, fun b hb => ?_⟩
    rcases List.mem_cons.mp hb with e | hb
    · subst e; exact .inr np
    · exact .inl hb
  refine ⟨⟨fun b z => st.grow b (cr.known b z), List.nodup_cons.mpr ⟨nd, cr.nod⟩, fun a ha z => ?_, fun q hq => ?_⟩, st⟩
  · rcases List.mem_cons.mp ha with e | ha
    · subst e; exact cr.free np (.inl z)
    · exact cr.dis a ha z
  · rcases List.mem_cons.mp hq with e | hq
    · subst e
      exact ⟨o, upd_same, hm.to st.to⟩
    · exact CellAt.to st.to (fun u e => same_new np _ u e) (cr.cells q hq)
theorem dom_set {M : Cells} {i : Nat} {a : Addr} {m m' : MO} (h : M[i]? = some (a, m)) : dom (M.set i (a, m')) = dom M := by
  unfold dom
  rw [List.map_set]
  have : (M.map (·.1))[i]? = some a := by rw [List.getElem?_map, h]; rfl
  obtain ⟨hi, e⟩ := List.getElem?_eq_some_iff.mp this
  show (M.map (·.1)).set i a = _
  rw [← e, List.set_getElem_self]
/-- a cell is changed -/
theorem Core.put (cr : Core c.K S M H) {i : Nat} {a : Addr} {m m' : MO} {o : HO} (h : M[i]? = some (a, m)) (hm : CellOf c.K (av S M) H o m') :
    Core c.K S (M.set i (a, m')) (upd H a o) ∧ Step M (M.set i (a, m')) H (upd H a o) := by
  have ed := dom_set (m' := m') h
  have hmem : (a, m) ∈ M := List.mem_of_getElem? h
  have ha : a ∈ dom M := List.mem_map.mpr ⟨_, hmem, rfl⟩
  have st : Step M (M.set i (a, m')) H (upd H a o) := by
    refine ⟨fun b u n e => ?_, fun b n => ?_, fun b hb => .inl (by rw [ed] at hb; exact hb)⟩
    · rw [upd_ne (fun z => n (by rw [z]; exact ha))]
      exact e
    · by_cases z : b = a
      · subst z; rw [upd_same]; exact fun q => by cases q
      · rw [upd_ne z]; exact n
  refine ⟨⟨fun b z => st.grow b (cr.known b z), by rw [ed]; exact cr.nod, by rw [ed]; exact cr.dis, fun q hq => ?_⟩, st⟩
  obtain ⟨j, hj⟩ := List.getElem?_of_mem hq
  by_cases e : i = j
  · subst e
    have hi : i < M.length := (List.getElem?_eq_some_iff.mp h).1
    rw [List.getElem?_set_self hi] at hj
    have := Option.some.inj hj
    subst this
    exact ⟨o, upd_same, hm.to st.to⟩
  · rw [List.getElem?_set_ne e] at hj
    have hq' : q ∈ M := List.mem_of_getElem? hj
    refine CellAt.to st.to (fun u eu => ?_) (cr.cells q hq')
    rw [upd_ne (fun z => ?_)]
    · exact eu
    · -- two places with one address
      have e1 : (dom M)[i]? = some a := by unfold dom; rw [List.getElem?_map, h]; rfl
      have e2 : (dom M)[j]? = some a := by unfold dom; rw [List.getElem?_map, hj]; show some q.1 = some a; rw [z]
      have nd := cr.nod
      obtain ⟨h1, g1⟩ := List.getElem?_eq_some_iff.mp e1
      obtain ⟨h2, g2⟩ := List.getElem?_eq_some_iff.mp e2
      exact e ((List.getElem_inj nd).mp (g1.trans g2.symm))
theorem Core.at_ (cr : Core c.K S M H) {i : Nat} {a : Addr} {m : MO} (h : M[i]? = some (a, m)) : ∃ o, H a = some o ∧ CellOf c.K (av S M) H o m := cr.cells _ (List.mem_of_getElem? h)
end
end PL
namespace PL
open PySem PySem.Spec PyProof.Rows L2

/-! ### data compared -/
mutual
def D.py : D → PyData
  | .non => .none
  | .bl b => .bool b
  | .int i => .int i
  | .str x => .str x
  | .tup xs => .tuple (D.pys xs)
  | .lst xs => .list (D.pys xs)
  | .ptr _ => .none
  | .obj _ _ => .none
  | .exc _ _ => .none
def D.pys : List D → List PyData
  | [] => []
  | x :: xs => D.py x :: D.pys xs
end
mutual
/-- plain data, no deeper than n -/
def D.okd (n : Nat) : D → Bool
  | .non => true
  | .bl _ => true
  | .int _ => true
  | .str _ => true
  | .tup xs => match n with
    | 0 => false
    | n + 1 => D.okds n xs
  | .lst xs => match n with
    | 0 => false
    | n + 1 => D.okds n xs
  | .ptr _ => false
  | .obj _ _ => false
  | .exc _ _ => false
def D.okds (n : Nat) : List D → Bool
  | [] => true
  | x :: xs => D.okd n x && D.okds n xs
end
def D.eqv (x y : D) : Bool := PyData.eqv x.py y.py
section
variable {K : PySem.W.Frag} {A : AS} {H : Hp}
mutual
theorem Rep.dp : ∀ (n : Nat) (d : D) {v : V}, Rep K A H v d → d.okd n = true → Dp K H v d.py
  | _, .non, _, r, _ => by cases r; exact .non
  | _, .bl b, _, r, _ => by cases r; exact .bl _
  | _, .int b, _, r, _ => by cases r; exact .int _
  | _, .str b, _, r, _ => by cases r; exact .str _
  | 0, .tup xs, _, r, h => by simp [D.okd] at h
  | n + 1, .tup xs, _, r, h => by
    cases r with
    | tup h1 h2 => exact .tup h1.sq (Reps.dp n xs h2 (by simpa [D.okd] using h))
  | 0, .lst xs, _, r, h => by simp [D.okd] at h
  | n + 1, .lst xs, _, r, h => by
    cases r with
    | lst h1 h2 => exact .lst h1.sq (Reps.dp n xs h2 (by simpa [D.okd] using h))
  | _, .ptr a, _, _, h => by simp [D.okd] at h
  | _, .obj a fs, _, _, h => by simp [D.okd] at h
  | _, .exc a fs, _, _, h => by simp [D.okd] at h
theorem Reps.dp : ∀ (n : Nat) (ds : List D) {vs : List V}, Reps K A H vs ds → D.okds n ds = true → DpAll K H vs (D.pys ds)
  | _, [], _, r, _ => by cases r; exact .nil
  | n, d :: ds, _, r, h => by
    cases r with
    | cons h1 h2 =>
      have h' : d.okd n = true ∧ D.okds n ds = true := by simpa [D.okds] using h
      exact .cons (Rep.dp n d h1 h'.1) (Reps.dp n ds h2 h'.2)
end
end
mutual
theorem D.plain_ok : ∀ (n : Nat) (d : D), d.okd n = true → d.py.plain = true ∧ d.py.depth ≤ n
  | _, .non, _ => ⟨rfl, Nat.zero_le _⟩
  | _, .bl b, _ => ⟨rfl, Nat.zero_le _⟩
  | _, .int b, _ => ⟨rfl, Nat.zero_le _⟩
  | _, .str b, _ => ⟨rfl, Nat.zero_le _⟩
  | 0, .tup xs, h => by simp [D.okd] at h
  | n + 1, .tup xs, h => by
    have q := D.plain_oks n xs (by simpa [D.okd] using h)
    exact ⟨by simpa [D.py, PyData.plain] using q.1, by simp only [D.py, PyData.depth]; omega⟩
  | 0, .lst xs, h => by simp [D.okd] at h
  | n + 1, .lst xs, h => by
    have q := D.plain_oks n xs (by simpa [D.okd] using h)
    exact ⟨by simpa [D.py, PyData.plain] using q.1, by simp only [D.py, PyData.depth]; omega⟩
  | _, .ptr a, h => by simp [D.okd] at h
  | _, .obj a fs, h => by simp [D.okd] at h
  | _, .exc a fs, h => by simp [D.okd] at h
theorem D.plain_oks : ∀ (n : Nat) (ds : List D), D.okds n ds = true → PyData.plainAll (D.pys ds) = true ∧ PyData.depthAll (D.pys ds) ≤ n
  | _, [], _ => ⟨rfl, Nat.zero_le _⟩
  | n, d :: ds, h => by
    have h' : d.okd n = true ∧ D.okds n ds = true := by simpa [D.okds] using h
    have q1 := D.plain_ok n d h'.1
    have q2 := D.plain_oks n ds h'.2
    exact ⟨by simp [D.pys, PyData.plainAll, q1.1, q2.1], by simp only [D.pys, PyData.depthAll]; omega⟩
end
theorem D.pys_map (ds : List D) : D.pys ds = ds.map D.py := by
  induction ds with
  | nil => rfl
  | cons d ds ih => simp [D.pys, ih]
section
variable {X : Cx}
def rEqP (K : PySem.W.Frag) (neg : Bool) : R2 := fun x y H Q => ∃ d e, Dp K H x d ∧ Dp K H y e ∧ d.plain = true ∧ e.plain = true ∧ d.depth ≤ 60 ∧ Q (.bl (if neg then !PyData.eqv d e else PyData.eqv d e)) H
theorem op_eqP (hu : X.A.units + 64 < cLine) : OpR X (compareOp .Eq) (rEqP X.K false) := by
  intro pins s σ H x y v u Q I rx ry h
  obtain ⟨d, e, hd, he, sd, se, hdep, q⟩ := h
  obtain ⟨as, r1⟩ := Dp.reads I d x v hd rx
  obtain ⟨bs, r2⟩ := Dp.reads I e y u he ry
  exact PySem.SeqAt.eq_plain r1 r2 sd se (by omega) ⟨.bl _, H, I, rfl, q⟩
theorem op_neP (hu : X.A.units + 64 < cLine) : OpR X (compareOp .NotEq) (rEqP X.K true) := by
  intro pins s σ H x y v u Q I rx ry h
  obtain ⟨d, e, hd, he, sd, se, hdep, q⟩ := h
  obtain ⟨as, r1⟩ := Dp.reads I d x v hd rx
  obtain ⟨bs, r2⟩ := Dp.reads I e y u he ry
  exact PySem.SeqAt.ne_plain r1 r2 sd se (by omega) ⟨.bl _, H, I, rfl, q⟩
def rInP (K : PySem.W.Frag) (neg : Bool) : R2 := fun x y H Q => ∃ d es, Dp K H x d ∧ (Dp K H y (.list es) ∨ Dp K H y (.tuple es)) ∧ d.plain = true ∧ PyData.plainAll es = true ∧ d.depth ≤ 60 ∧ Q (.bl (if neg then !es.any (fun z => PyData.eqv z d) else es.any (fun z => PyData.eqv z d))) H
theorem op_inP (hu : X.A.units + 64 < cLine) : OpR X (compareOp .In) (rInP X.K false) := by
  intro pins s σ H x y v u Q I rx ry h
  obtain ⟨d, e, hd, he, sd, se, hdep, q⟩ := h
  obtain ⟨as, r1⟩ := Dp.reads I d x v hd rx
  rcases he with he | he
  · obtain ⟨bs, r2⟩ := Dp.reads I _ y u he ry
    exact PySem.SeqAt.in_list_data r2 r1 se sd (by omega) ⟨.bl _, H, I, rfl, q⟩
  · obtain ⟨bs, r2⟩ := Dp.reads I _ y u he ry
    exact PySem.SeqAt.in_tuple_data r2 r1 se sd (by omega) ⟨.bl _, H, I, rfl, q⟩
theorem op_ninP (hu : X.A.units + 64 < cLine) : OpR X (compareOp .NotIn) (rInP X.K true) := by
  intro pins s σ H x y v u Q I rx ry h
  obtain ⟨d, e, hd, he, sd, se, hdep, q⟩ := h
  obtain ⟨as, r1⟩ := Dp.reads I d x v hd rx
  rcases he with he | he
  · obtain ⟨bs, r2⟩ := Dp.reads I _ y u he ry
    exact PySem.SeqAt.notIn_list_data r2 r1 se sd (by omega) ⟨.bl _, H, I, rfl, q⟩
  · obtain ⟨bs, r2⟩ := Dp.reads I _ y u he ry
    exact PySem.SeqAt.notIn_tuple_data r2 r1 se sd (by omega) ⟨.bl _, H, I, rfl, q⟩
end
section
variable {c : Ctx} {X : Cx} {S : AS} {Γ Γ' : Gam} {M M' : Cells} {σ σ' : L2.St} {H H' : Hp} {a b e : Expr} {es : List Expr} {pos pos' : Pos} {Q : D → Cells → Prop} {R : Bool → Cells → Prop} {x : Str}
/-- what stands behind a pointer to a list cell may be read -/
inductive View (M : Cells) : D → D → Prop
  | self {d} : View M d d
  | cell {i : Nat} {a : Addr} {ds : List D} : M[i]? = some (a, MO.lst ds) → View M (.ptr a) (.lst ds)
theorem View.rep {d d' : D} (w : View M d d') (cr : Core c.K S M H) {v : V} (r : Rep c.K (av S M) H v d) : Rep c.K S H v d' := by
  have t : To (av S M) S H H := ⟨fun _ _ _ h => h, fun b h => .inl (.inl h)⟩
  cases w with
  | self => exact r.to t
  | cell h =>
    cases r
    obtain ⟨o, ho, vs, e, rs⟩ := cr.at_ h
    subst e
    exact .lst (.inl ⟨cr.dis _ (List.mem_map.mpr ⟨_, List.mem_of_getElem? h, rfl⟩), .inl ho⟩) (rs.to t)
theorem we_cmpD {op : CmpOp} {neg : Bool} (ho : ∀ X : Cx, X.A.units + 64 < cLine → OpR X (compareOp op) (rEqP X.K neg)) (hm : behindInMarks op b = false)
    (h : WE c a Γ M fun x M1 => WE c b Γ M1 fun y M2 => ∃ x' y', View M2 x x' ∧ View M2 y y' ∧ x'.okd 60 = true ∧ y'.okd 60 = true ∧ Q (.bl (if neg then !x'.eqv y' else x'.eqv y')) M2) : WE c (.Compare a [op] [b] pos) Γ M Q := .mk fun X S σ H at_ Q' hq =>
  PE.to (pe_cmpR (ho X at_.is.hu) wE.pe wE.pe hm) (two h at_ fun v1 v2 H2 d1 d2 M2 c2 s2 r1 r2 ⟨x', y', w1, w2, o1, o2, q⟩ => by
    have p1 := D.plain_ok _ _ o1
    have p2 := D.plain_ok _ _ o2
    rw [at_.is.K]
    exact ⟨x'.py, y'.py, (w1.rep c2 r1).dp 60 _ o1, (w2.rep c2 r2).dp 60 _ o2, p1.1, p2.1, p1.2, hq _ _ _ _ c2 s2 .bl q⟩)
theorem wt_cmpD {op : CmpOp} {neg : Bool} (ho : ∀ X : Cx, X.A.units + 64 < cLine → OpR X (compareOp op) (rEqP X.K neg)) (hm : behindInMarks op b = false)
    (h : WE c a Γ M fun x M1 => WE c b Γ M1 fun y M2 => ∃ x' y', View M2 x x' ∧ View M2 y y' ∧ x'.okd 60 = true ∧ y'.okd 60 = true ∧ R (if neg then !x'.eqv y' else x'.eqv y') M2) : WT c (.Compare a [op] [b] pos) Γ M R := .mk fun X S σ H at_ Q' hq =>
  PT.to (pt_cmpR (ho X at_.is.hu) wE.pe wE.pe hm) (two h at_ fun v1 v2 H2 d1 d2 M2 c2 s2 r1 r2 ⟨x', y', w1, w2, o1, o2, q⟩ => by
    have p1 := D.plain_ok _ _ o1
    have p2 := D.plain_ok _ _ o2
    rw [at_.is.K]
    exact ⟨x'.py, y'.py, (w1.rep c2 r1).dp 60 _ o1, (w2.rep c2 r2).dp 60 _ o2, p1.1, p2.1, p1.2, _, rfl, hq _ _ _ c2 s2 q⟩)
theorem we_eq (h : WE c a Γ M fun x M1 => WE c b Γ M1 fun y M2 => ∃ x' y', View M2 x x' ∧ View M2 y y' ∧ x'.okd 60 = true ∧ y'.okd 60 = true ∧ Q (.bl (x'.eqv y')) M2) : WE c (.Compare a [.Eq] [b] pos) Γ M Q := we_cmpD (neg := false) (fun X => op_eqP) (nomark _) h
theorem we_ne (h : WE c a Γ M fun x M1 => WE c b Γ M1 fun y M2 => ∃ x' y', View M2 x x' ∧ View M2 y y' ∧ x'.okd 60 = true ∧ y'.okd 60 = true ∧ Q (.bl (!x'.eqv y')) M2) : WE c (.Compare a [.NotEq] [b] pos) Γ M Q := we_cmpD (neg := true) (fun X => op_neP) (nomark _) h
theorem wt_eq (h : WE c a Γ M fun x M1 => WE c b Γ M1 fun y M2 => ∃ x' y', View M2 x x' ∧ View M2 y y' ∧ x'.okd 60 = true ∧ y'.okd 60 = true ∧ R (x'.eqv y') M2) : WT c (.Compare a [.Eq] [b] pos) Γ M R := wt_cmpD (neg := false) (fun X => op_eqP) (nomark _) h
theorem wt_ne (h : WE c a Γ M fun x M1 => WE c b Γ M1 fun y M2 => ∃ x' y', View M2 x x' ∧ View M2 y y' ∧ x'.okd 60 = true ∧ y'.okd 60 = true ∧ R (!x'.eqv y') M2) : WT c (.Compare a [.NotEq] [b] pos) Γ M R := wt_cmpD (neg := true) (fun X => op_neP) (nomark _) h
/-- two ints, the common case -/
theorem wt_eqI (h : WE c a Γ M fun x M1 => WE c b Γ M1 fun y M2 => ∃ i j, x = .int i ∧ y = .int j ∧ R (decide (i = j)) M2) : WT c (.Compare a [.Eq] [b] pos) Γ M R := .mk fun X S σ H at_ Q' hq =>
  PT.to (pt_cmpR op_eq wE.pe wE.pe (nomark _)) (two h at_ fun v1 v2 H2 d1 d2 M2 c2 s2 r1 r2 ⟨i, j, e1, e2, q⟩ => by
    subst e1 e2; cases r1; cases r2
    refine ⟨rfl, _, rfl, hq _ _ _ c2 s2 ?_⟩
    rw [show decide (V.int i = V.int j) = decide (i = j) from decide_eq_decide.mpr ⟨fun z => V.int.inj z, fun z => by rw [z]⟩]
    exact q)
theorem wt_neI (h : WE c a Γ M fun x M1 => WE c b Γ M1 fun y M2 => ∃ i j, x = .int i ∧ y = .int j ∧ R (!decide (i = j)) M2) : WT c (.Compare a [.NotEq] [b] pos) Γ M R := .mk fun X S σ H at_ Q' hq =>
  PT.to (pt_cmpR op_ne wE.pe wE.pe (nomark _)) (two h at_ fun v1 v2 H2 d1 d2 M2 c2 s2 r1 r2 ⟨i, j, e1, e2, q⟩ => by
    subst e1 e2; cases r1; cases r2
    refine ⟨rfl, _, rfl, hq _ _ _ c2 s2 ?_⟩
    rw [show decide (V.int i = V.int j) = decide (i = j) from decide_eq_decide.mpr ⟨fun z => V.int.inj z, fun z => by rw [z]⟩]
    exact q)
theorem we_in (h : WE c a Γ M fun x M1 => WE c b Γ M1 fun y M2 => ∃ x' ys, View M2 x x' ∧ (View M2 y (.lst ys) ∨ View M2 y (.tup ys)) ∧ x'.okd 60 = true ∧ D.okds 60 ys = true ∧ Q (.bl (ys.any fun z => z.eqv x')) M2)
    (hm : behindInMarks .In b = false := by rfl) : WE c (.Compare a [.In] [b] pos) Γ M Q := .mk fun X S σ H at_ Q' hq =>
  PE.to (pe_cmpR (op_inP at_.is.hu) wE.pe wE.pe hm) (two h at_ fun v1 v2 H2 d1 d2 M2 c2 s2 r1 r2 ⟨x', ys, w1, w2, o1, o2, q⟩ => by
    have p1 := D.plain_ok _ _ o1
    have p2 := D.plain_oks _ _ o2
    rw [at_.is.K]
    refine ⟨x'.py, D.pys ys, (w1.rep c2 r1).dp 60 _ o1, ?_, p1.1, p2.1, p1.2, hq _ _ _ _ c2 s2 .bl ?_⟩
    · rcases w2 with w2 | w2
      · exact .inl ((w2.rep c2 r2).dp 61 (.lst ys) (by simpa [D.okd] using o2))
      · exact .inr ((w2.rep c2 r2).dp 61 (.tup ys) (by simpa [D.okd] using o2))
    · rw [D.pys_map, List.any_map]
      exact q)
theorem we_nin (h : WE c a Γ M fun x M1 => WE c b Γ M1 fun y M2 => ∃ x' ys, View M2 x x' ∧ (View M2 y (.lst ys) ∨ View M2 y (.tup ys)) ∧ x'.okd 60 = true ∧ D.okds 60 ys = true ∧ Q (.bl (!ys.any fun z => z.eqv x')) M2)
    (hm : behindInMarks .NotIn b = false := by rfl) : WE c (.Compare a [.NotIn] [b] pos) Γ M Q := .mk fun X S σ H at_ Q' hq =>
  PE.to (pe_cmpR (op_ninP at_.is.hu) wE.pe wE.pe hm) (two h at_ fun v1 v2 H2 d1 d2 M2 c2 s2 r1 r2 ⟨x', ys, w1, w2, o1, o2, q⟩ => by
    have p1 := D.plain_ok _ _ o1
    have p2 := D.plain_oks _ _ o2
    rw [at_.is.K]
    refine ⟨x'.py, D.pys ys, (w1.rep c2 r1).dp 60 _ o1, ?_, p1.1, p2.1, p1.2, hq _ _ _ _ c2 s2 .bl ?_⟩
    · rcases w2 with w2 | w2
      · exact .inl ((w2.rep c2 r2).dp 61 (.lst ys) (by simpa [D.okd] using o2))
      · exact .inr ((w2.rep c2 r2).dp 61 (.tup ys) (by simpa [D.okd] using o2))
    · rw [D.pys_map, List.any_map]
      exact q)

/-! ### subscripts -/
theorem Reps.atI {K A H} {vs : List V} {ds : List D} {i : Int} {d : D} (r : Reps K A H vs ds) (h : atI ds i = some d) : ∃ v, L2.atI vs i = some v ∧ Rep K A H v d := by
  unfold L2.atI at h ⊢
  rw [r.length]
  cases e : ixN ds.length i with
  | none => rw [e] at h; cases h
  | some j =>
    rw [e] at h
    exact r.get h
theorem we_ix (h : WE c a Γ M fun x M1 => WE c b Γ M1 fun y M2 => ∃ ds i d, (x = .tup ds ∨ x = .lst ds ∨ ∃ (j : Nat) (p : Addr), x = .ptr p ∧ M2[j]? = some (p, .lst ds)) ∧ y = .int i ∧ atI ds i = some d ∧ Q d M2)
    (hs : PlainIx b := by exact fun _ _ => rfl) : WE c (.Subscript a b pos) Γ M Q := .mk fun X S σ H at_ Q' hq =>
  PE.to (pe_ix ix_seq wE.pe wE.pe hs) (two h at_ fun v1 v2 H2 d1 d2 M2 c2 s2 r1 r2 ⟨ds, i, d, e1, e2, hd, q⟩ => by
    subst e2; cases r2
    rw [at_.is.K]
    rcases e1 with e1 | e1 | ⟨j, p, e1, hj⟩
    · subst e1
      cases r1 with
      | tup h1 h2 =>
        obtain ⟨v, hv, r⟩ := h2.atI hd
        exact .inr (.inl ⟨_, _, _, v, rfl, rfl, h1.sq, hv, hq _ _ _ _ c2 s2 r q⟩)
    · subst e1
      cases r1 with
      | lst h1 h2 =>
        obtain ⟨v, hv, r⟩ := h2.atI hd
        exact .inl ⟨_, _, _, v, rfl, rfl, h1.sq, hv, hq _ _ _ _ c2 s2 r q⟩
    · subst e1
      cases r1
      obtain ⟨o, ho, vs, e, rs⟩ := c2.at_ hj
      subst e
      obtain ⟨v, hv, r⟩ := rs.atI hd
      exact .inl ⟨_, _, _, v, rfl, rfl, .of ho, hv, hq _ _ _ _ c2 s2 r q⟩)

/-! ### list cells -/
/-- a list that will change -/
theorem we_lstC (h : WA c es Γ M fun ds M1 => ds.length ≤ sizeLine ∧ ∀ p, Q (.ptr p) ((p, .lst ds) :: M1)) : WE c (.List es pos) Γ M Q := .mk fun X S σ H at_ Q' hq =>
  PE.to (pe_lst wA.pa) (h.run X S σ H at_ _ fun vs H1 ds M1 c1 s1 r1 ⟨hl, q⟩ => ⟨by rw [r1.length]; exact hl, fun p np => by
    have k := c1.cell (o := .lst vs) (m := .lst ds) np ⟨vs, rfl, r1⟩
    exact hq _ _ _ _ k.1 (s1.trans k.2) .ptr (q p)⟩)
theorem tyV_list {K : PySem.W.Frag} {p : Addr} {xs : List V} (h : H p = some (.lst xs)) : tyV K "list" (.ref p) H := .inl ⟨rfl, _, SqL.of h⟩
/-- a list cell's method with arguments -/
theorem we_listM {name : Str} {id : String} {r : V → List V → Hp → VK → Prop} {f : List D → List D → D → List D → Prop} {apos : Pos}
    (slot : Slot "list" name id) (hty : typeOf (.builtin id) = pure (.type "method_descriptor")) (hm : ∀ X : Cx, MtR X id r)
    (hr : ∀ {c : Ctx} {S : AS} {M : Cells} {H : Hp} {p : Addr} {vs : List V} {ds : List D} {ws : List V} {es : List D} {z : D} {ds' : List D} {Q' : VK}, H p = some (.lst vs) → Reps c.K (av S M) H vs ds → Reps c.K (av S M) H ws es → f ds es z ds' →
      (∀ zv vs', Rep c.K (av S M) H zv z → Reps c.K (av S M) H vs' ds' → Q' zv (upd H p (.lst vs'))) → r (.ref p) ws H Q')
    (h : WE c a Γ M fun x M1 => ∃ (p : Addr) (i : Nat) (ds : List D), x = .ptr p ∧ M1[i]? = some (p, .lst ds) ∧ WA c (e :: es) Γ M1 fun xs M2 => ∃ (j : Nat) (ds2 : List D) (z : D) (ds' : List D), M2[j]? = some (p, .lst ds2) ∧ f ds2 xs z ds' ∧ Q z (M2.set j (p, .lst ds')))
    (hbase : ∀ env, attributeBase a name env (eval a env) = eval a env := by intro _; rfl)
    (hfew : ∀ env, ((backTo pos (starEach (e :: es) env)).all (fun x => !x.1) && (backToKw pos (keywordEach [] env)).all (fun x => x.1.isSome)
      && decide ((e :: es).length + ([] : List Keyword).length + (if ([] : List Keyword).isEmpty then 0 else 1) < 30)) = true := by intro _; rfl)
    (hline : (apos.endLine == pos.line) = true := by rfl) (hst : ∀ env, starEach (e :: es) env = (false, eval e env) :: starEach es env := by intro _; rfl) (hplain : ∀ env, (backTo pos (starEach es env)).any (·.1) = false := by intro _; rfl) :
    WE c (.Call (.Attribute a name apos) (e :: es) [] pos) Γ M Q := .mk fun X S σ H at_ Q' hq =>
  PE.to (pe_bm PySem.F.plainAttrs_list slot hty (hm X) wE.pe wA.pa (hbase _) (hfew _) hline (hst _) (hplain _)) (h.run X S σ H at_ _ fun v1 H1 d1 M1 c1 s1 r1 ⟨p, i, ds, e1, hi, q1⟩ => by
    subst e1; cases r1
    obtain ⟨o, ho, vs, e, rs⟩ := c1.at_ hi
    subst e
    refine ⟨tyV_list ho, q1.run X S σ H1 (at_.step c1 s1) _ fun ws H2 xs M2 c2 s2 r2 ⟨j, ds2, z, ds', hj, hf, q2⟩ => ?_⟩
    obtain ⟨o2, ho2, vs2, e2, rs2⟩ := c2.at_ hj
    subst e2
    refine hr ho2 rs2 r2 hf fun zv vs' rz rv => ?_
    have k := c2.put (m' := .lst ds') (o := .lst vs') hj ⟨vs', rfl, rv⟩
    exact hq _ _ _ _ k.1 ((s1.trans s2).trans k.2) (rz.to k.2.to) q2)
theorem we_listM0 {name : Str} {id : String} {r : V → List V → Hp → VK → Prop} {f : List D → D → List D → Prop} {apos : Pos}
    (slot : Slot "list" name id) (hty : typeOf (.builtin id) = pure (.type "method_descriptor")) (hm : ∀ X : Cx, MtR X id r)
    (hr : ∀ {c : Ctx} {S : AS} {M : Cells} {H : Hp} {p : Addr} {vs : List V} {ds : List D} {z : D} {ds' : List D} {Q' : VK}, H p = some (.lst vs) → Reps c.K (av S M) H vs ds → f ds z ds' →
      (∀ zv vs', Rep c.K (av S M) H zv z → Reps c.K (av S M) H vs' ds' → Q' zv (upd H p (.lst vs'))) → r (.ref p) [] H Q')
    (h : WE c a Γ M fun x M1 => ∃ (p : Addr) (i : Nat) (ds : List D) (z : D) (ds' : List D), x = .ptr p ∧ M1[i]? = some (p, .lst ds) ∧ f ds z ds' ∧ Q z (M1.set i (p, .lst ds')))
    (hbase : ∀ env, attributeBase a name env (eval a env) = eval a env := by intro _; rfl) (hline : (apos.endLine == pos.line) = true := by rfl) :
    WE c (.Call (.Attribute a name apos) [] [] pos) Γ M Q := .mk fun X S σ H at_ Q' hq =>
  PE.to (pe_bm0 PySem.F.plainAttrs_list slot hty (hm X) wE.pe (hbase _) hline) (h.run X S σ H at_ _ fun v1 H1 d1 M1 c1 s1 r1 ⟨p, i, ds, z, ds', e1, hi, hf, q1⟩ => by
    subst e1; cases r1
    obtain ⟨o, ho, vs, e, rs⟩ := c1.at_ hi
    subst e
    refine ⟨tyV_list ho, hr ho rs hf fun zv vs' rz rv => ?_⟩
    have k := c1.put (m' := .lst ds') (o := .lst vs') hi ⟨vs', rfl, rv⟩
    exact hq _ _ _ _ k.1 (s1.trans k.2) (rz.to k.2.to) q1)
theorem we_append {apos : Pos} (h : WE c a Γ M fun x M1 => ∃ (p : Addr) (i : Nat) (ds : List D), x = .ptr p ∧ M1[i]? = some (p, .lst ds) ∧ WE c e Γ M1 fun y M2 => ∃ (j : Nat) (ds2 : List D), M2[j]? = some (p, .lst ds2) ∧ ds2.length < sizeLine ∧ Q .non (M2.set j (p, .lst (ds2 ++ [y]))))
    (hbase : ∀ env, attributeBase a "append" env (eval a env) = eval a env := by intro _; rfl)
    (hfew : ∀ env, ((backTo pos (starEach [e] env)).all (fun x => !x.1) && (backToKw pos (keywordEach [] env)).all (fun x => x.1.isSome)
      && decide ([e].length + ([] : List Keyword).length + (if ([] : List Keyword).isEmpty then 0 else 1) < 30)) = true := by intro _; rfl)
    (hline : (apos.endLine == pos.line) = true := by rfl) (hst : ∀ env, starEach [e] env = (false, eval e env) :: starEach [] env := by intro _; rfl) :
    WE c (.Call (.Attribute a "append" apos) [e] [] pos) Γ M Q :=
  we_listM (f := fun ds es z ds' => ∃ y, es = [y] ∧ ds.length < sizeLine ∧ z = .non ∧ ds' = ds ++ [y]) PySem.F.slot_list_append PySem.F.type_list_append (fun X => mt_append)
    (fun {c S M H p vs ds ws es z ds' Q'} hp rs re hf q => by
      obtain ⟨y, e1, hl, e2, e3⟩ := hf
      subst e1 e2 e3
      cases re with
      | cons r1 r2 =>
        cases r2
        exact ⟨p, vs, _, rfl, rfl, hp, by rw [rs.length]; exact hl, q _ _ .non (rs.append (.cons r1 .nil))⟩)
    (.mk fun X S σ H at_ Q' hq => h.run X S σ H at_ Q' fun v H' d M' c1 s1 r1 ⟨p, i, ds, e1, hi, q⟩ => hq v H' d M' c1 s1 r1 ⟨p, i, ds, e1, hi, wa_cons (.mk fun X S σ H at_ Q' hq => q.run X S σ H at_ Q' fun v H' d M' c1 s1 r1 ⟨j, ds2, hj, hl, q⟩ => hq v H' d M' c1 s1 r1 (wa_nil ⟨j, ds2, .non, _, hj, ⟨d, rfl, hl, rfl, rfl⟩, q⟩)) hst⟩)
    hbase hfew hline hst (fun _ => rfl)
theorem we_pop {apos : Pos} (h : WE c a Γ M fun x M1 => ∃ (p : Addr) (i : Nat) (ds : List D) (y : D), x = .ptr p ∧ M1[i]? = some (p, .lst ds) ∧ ds[ds.length - 1]? = some y ∧ Q y (M1.set i (p, .lst ds.dropLast)))
    (hbase : ∀ env, attributeBase a "pop" env (eval a env) = eval a env := by intro _; rfl) (hline : (apos.endLine == pos.line) = true := by rfl) : WE c (.Call (.Attribute a "pop" apos) [] [] pos) Γ M Q :=
  we_listM0 (f := fun ds z ds' => ds[ds.length - 1]? = some z ∧ ds' = ds.dropLast) PySem.F.slot_list_pop PySem.F.type_list_pop (fun X => mt_pop)
    (fun {c S M H p vs ds z ds' Q'} hp rs hf q => by
      obtain ⟨e1, e2⟩ := hf
      subst e2
      obtain ⟨v, hv, r⟩ := rs.get e1
      refine ⟨p, vs, v, rfl, rfl, hp, by rw [rs.length]; exact hv, q _ _ r ?_⟩
      rw [List.dropLast_eq_take, List.dropLast_eq_take, rs.length]
      exact rs.take _)
    (.mk fun X S σ H at_ Q' hq => h.run X S σ H at_ Q' fun v H' d M' c1 s1 r1 ⟨p, i, ds, y, e1, hi, hy, q⟩ => hq v H' d M' c1 s1 r1 ⟨p, i, ds, y, _, e1, hi, ⟨hy, rfl⟩, q⟩) hbase hline
theorem we_popAt {apos : Pos} (h : WE c a Γ M fun x M1 => ∃ (p : Addr) (i : Nat) (ds : List D), x = .ptr p ∧ M1[i]? = some (p, .lst ds) ∧ WE c e Γ M1 fun y M2 => ∃ (j : Nat) (ds2 : List D) (k : Int) (n : Nat) (z : D), y = .int k ∧ M2[j]? = some (p, .lst ds2) ∧ -(2 ^ 63) ≤ k ∧ k < 2 ^ 63 ∧ seqIndex? k ds2.length = some n ∧ ds2[n]? = some z ∧ Q z (M2.set j (p, .lst (ds2.eraseIdx n))))
    (hbase : ∀ env, attributeBase a "pop" env (eval a env) = eval a env := by intro _; rfl)
    (hfew : ∀ env, ((backTo pos (starEach [e] env)).all (fun x => !x.1) && (backToKw pos (keywordEach [] env)).all (fun x => x.1.isSome)
      && decide ([e].length + ([] : List Keyword).length + (if ([] : List Keyword).isEmpty then 0 else 1) < 30)) = true := by intro _; rfl)
    (hline : (apos.endLine == pos.line) = true := by rfl) (hst : ∀ env, starEach [e] env = (false, eval e env) :: starEach [] env := by intro _; rfl) :
    WE c (.Call (.Attribute a "pop" apos) [e] [] pos) Γ M Q :=
  we_listM (f := fun ds es z ds' => ∃ k n, es = [.int k] ∧ -(2 ^ 63) ≤ k ∧ k < 2 ^ 63 ∧ seqIndex? k ds.length = some n ∧ ds[n]? = some z ∧ ds' = ds.eraseIdx n) PySem.F.slot_list_pop PySem.F.type_list_pop (fun X => mt_popAt)
    (fun {c S M H p vs ds ws es z ds' Q'} hp rs re hf q => by
      obtain ⟨k, n, e1, h1, h2, h3, h4, e3⟩ := hf
      subst e1 e3
      cases re with
      | cons r1 r2 =>
        cases r2
        cases r1
        obtain ⟨v, hv, r⟩ := rs.get h4
        exact ⟨p, vs, k, n, v, rfl, rfl, hp, h1, h2, by rw [rs.length]; exact h3, hv, q _ _ r (rs.eraseIdx n)⟩)
    (.mk fun X S σ H at_ Q' hq => h.run X S σ H at_ Q' fun v H' d M' c1 s1 r1 ⟨p, i, ds, e1, hi, q⟩ => hq v H' d M' c1 s1 r1 ⟨p, i, ds, e1, hi, wa_cons (.mk fun X S σ H at_ Q' hq => q.run X S σ H at_ Q' fun v H' d M' c1 s1 r1 ⟨j, ds2, k, n, z, e2, hj, h1, h2, h3, h4, q⟩ => hq v H' d M' c1 s1 r1 (wa_nil (by
      subst e2
      exact ⟨j, ds2, z, _, hj, ⟨k, n, rfl, h1, h2, h3, h4, rfl⟩, q⟩))) hst⟩)
    hbase hfew hline hst (fun _ => rfl)
end
end PL
namespace PL
open PySem PySem.Spec PyProof.Rows L2

/-! ### dict cells -/
def keyD : Key → D
  | .inl i => .int i
  | .inr x => .str x
def lookK (kvs : List (Key × D)) (k : Key) : Option D := (kvs.find? fun kv => decide (kv.1 = k)).map (·.2)
def storeK (kvs : List (Key × D)) (k : Key) (d : D) : List (Key × D) :=
  if (kvs.any fun kv => decide (kv.1 = k)) = true then kvs.map (fun kv => if kv.1 = k then (kv.1, d) else kv) else kvs ++ [(k, d)]
section
variable {K : PySem.W.Frag} {A : AS} {H : Hp}
theorem RepK.length : ∀ {vs : List (Key × V)} {ds : List (Key × D)}, RepK K A H vs ds → vs.length = ds.length
  | _, _, .nil => rfl
  | _, _, .cons _ rs => by rw [List.length_cons, List.length_cons, rs.length]
theorem RepK.look : ∀ {vs : List (Key × V)} {ds : List (Key × D)} (k : Key), RepK K A H vs ds → (lookK ds k = none ∧ valV vs k = none) ∨ ∃ d v, lookK ds k = some d ∧ valV vs k = some v ∧ Rep K A H v d
  | _, _, _, .nil => .inl ⟨rfl, rfl⟩
  | _, _, k, .cons (k := k') (v := v) (d := d) r rs => by
    by_cases e : k' = k
    · refine .inr ⟨d, v, ?_, ?_, r⟩
      · simp [lookK, List.find?_cons, e]
      · simp [valV, List.find?_cons, e]
    · have h1 : ∀ ds : List (Key × D), lookK ((k', d) :: ds) k = lookK ds k := fun ds => by simp [lookK, List.find?_cons, e]
      have h2 : ∀ vs : List (Key × V), valV ((k', v) :: vs) k = valV vs k := fun vs => by simp [valV, List.find?_cons, e]
      rw [h1, h2]
      exact RepK.look k rs
theorem RepK.any : ∀ {vs : List (Key × V)} {ds : List (Key × D)} (k : Key), RepK K A H vs ds → (vs.any fun kv => decide (kv.1 = k)) = (ds.any fun kv => decide (kv.1 = k))
  | _, _, _, .nil => rfl
  | _, _, k, .cons _ rs => by rw [List.any_cons, List.any_cons, RepK.any k rs]
theorem RepK.append : ∀ {vs ws : List (Key × V)} {ds es : List (Key × D)}, RepK K A H vs ds → RepK K A H ws es → RepK K A H (vs ++ ws) (ds ++ es)
  | _, _, _, _, .nil, s => s
  | _, _, _, _, .cons r rs, s => .cons r (rs.append s)
theorem RepK.mapPut : ∀ {vs : List (Key × V)} {ds : List (Key × D)} (k : Key) {v : V} {d : D}, RepK K A H vs ds → Rep K A H v d → RepK K A H (vs.map (fun kv => if kv.1 = k then (kv.1, v) else kv)) (ds.map (fun kv => if kv.1 = k then (kv.1, d) else kv))
  | _, _, _, _, _, .nil, _ => .nil
  | _, _, k, v, d, .cons (k := k') r rs, q => by
    rw [List.map_cons, List.map_cons]
    by_cases e : k' = k
    · rw [if_pos e, if_pos e]
      exact .cons q (rs.mapPut k q)
    · rw [if_neg e, if_neg e]
      exact .cons r (rs.mapPut k q)
theorem RepK.put {vs : List (Key × V)} {ds : List (Key × D)} (k : Key) {v : V} {d : D} (rs : RepK K A H vs ds) (q : Rep K A H v d) : RepK K A H (putK vs k v) (storeK ds k d) := by
  unfold putK storeK
  rw [rs.any k]
  split
  · exact rs.mapPut k q
  · exact rs.append (.cons q .nil)
theorem Rep.key {v : V} {k : Key} (r : Rep K A H v (keyD k)) : v = kV k := by
  cases k <;> (cases r; rfl)
end
section
variable {c : Ctx} {X : Cx} {S : AS} {Γ Γ' : Gam} {M M' : Cells} {σ σ' : L2.St} {H H' : Hp} {a b e : Expr} {es : List Expr} {pos pos' : Pos} {Q : D → Cells → Prop} {R : Bool → Cells → Prop} {x : Str} {E : PEnds}
theorem Ctx.Is.hu1 (i : c.Is X) : X.A.units + 1 < cLine := by have := i.hu; omega
/-- d[k], the dict a cell -/
theorem we_dget (h : WE c a Γ M fun x M1 => WE c b Γ M1 fun y M2 => ∃ (p : Addr) (i : Nat) (kvs : List (Key × D)) (k : Key) (d : D), x = .ptr p ∧ M2[i]? = some (p, .dK kvs) ∧ y = keyD k ∧ lookK kvs k = some d ∧ Q d M2)
    (hs : NoSl b := by exact fun _ _ => rfl) : WE c (.Subscript a b pos) Γ M Q := .mk fun X S σ H at_ Q' hq =>
  PE.to (pe_dget at_.is.hu1 wE.pe wE.pe hs) (two h at_ fun v1 v2 H2 d1 d2 M2 c2 s2 r1 r2 ⟨p, i, kvs, k, d, e1, hi, e2, hl, q⟩ => by
    subst e1 e2; cases r1
    have ek := r2.key
    subst ek
    obtain ⟨o, ho, vs, e, rs⟩ := c2.at_ hi
    subst e
    rcases rs.look k with ⟨l, _⟩ | ⟨d', v, l1, l2, r⟩
    · rw [l] at hl; cases hl
    · rw [l1] at hl
      have := Option.some.inj hl
      subst this
      exact ⟨p, v, rfl, by rw [← l2]; exact DGet.k ho, hq _ _ _ _ c2 s2 r q⟩)
theorem we_din (h : WE c a Γ M fun y M1 => WE c b Γ M1 fun x M2 => ∃ (p : Addr) (i : Nat) (kvs : List (Key × D)) (k : Key), x = .ptr p ∧ M2[i]? = some (p, .dK kvs) ∧ y = keyD k ∧ Q (.bl (lookK kvs k).isSome) M2) (hm : behindInMarks .In b = false := by rfl) :
    WE c (.Compare a [.In] [b] pos) Γ M Q := .mk fun X S σ H at_ Q' hq =>
  PE.to (pe_cmp (pc_din at_.is.hu1 wE.pe wE.pe) hm) (two h at_ fun v1 v2 H2 d1 d2 M2 c2 s2 r1 r2 ⟨p, i, kvs, k, e1, hi, e2, q⟩ => by
    subst e1 e2; cases r2
    have ek := r1.key
    subst ek
    obtain ⟨o, ho, vs, e, rs⟩ := c2.at_ hi
    subst e
    refine ⟨p, valV vs k, rfl, DGet.k ho, ?_⟩
    have e3 : (valV vs k).isSome = (lookK kvs k).isSome := by
      rcases rs.look k with ⟨l, l'⟩ | ⟨d', v, l1, l2, r⟩
      · rw [l, l']; rfl
      · rw [l1, l2]; rfl
    rw [e3]
    exact hq _ _ _ _ c2 s2 .bl q)
theorem we_dnin (h : WE c a Γ M fun y M1 => WE c b Γ M1 fun x M2 => ∃ (p : Addr) (i : Nat) (kvs : List (Key × D)) (k : Key), x = .ptr p ∧ M2[i]? = some (p, .dK kvs) ∧ y = keyD k ∧ Q (.bl (!(lookK kvs k).isSome)) M2) (hm : behindInMarks .NotIn b = false := by rfl) :
    WE c (.Compare a [.NotIn] [b] pos) Γ M Q := .mk fun X S σ H at_ Q' hq =>
  PE.to (pe_cmp (pc_dnotin at_.is.hu1 wE.pe wE.pe) hm) (two h at_ fun v1 v2 H2 d1 d2 M2 c2 s2 r1 r2 ⟨p, i, kvs, k, e1, hi, e2, q⟩ => by
    subst e1 e2; cases r2
    have ek := r1.key
    subst ek
    obtain ⟨o, ho, vs, e, rs⟩ := c2.at_ hi
    subst e
    refine ⟨p, valV vs k, rfl, DGet.k ho, ?_⟩
    have e3 : (valV vs k).isSome = (lookK kvs k).isSome := by
      rcases rs.look k with ⟨l, l'⟩ | ⟨d', v, l1, l2, r⟩
      · rw [l, l']; rfl
      · rw [l1, l2]; rfl
    rw [e3]
    exact hq _ _ _ _ c2 s2 .bl q)
/-- {} -/
theorem we_dnew (h : ∀ p, Q (.ptr p) ((p, .dK []) :: M)) : WE c (.Dict [] [] pos) Γ M Q := .mk fun X S σ H at_ Q' hq =>
  PE.to pe_dnewK (fun p np => by
    have k := at_.core.cell (o := .dK []) (m := .dK []) np ⟨[], rfl, .nil⟩
    exact hq _ _ _ _ k.1 k.2 .ptr (h p))
/-- {k: v, ..}, two to four pairs, by a list of pairs -/
def WP (c : Ctx) : List (Expr × Expr) → Gam → Cells → (List (D × D) → Cells → Prop) → Prop
  | [], _, M, R => R [] M
  | (k, v) :: r, Γ, M, R => WE c k Γ M fun x M1 => WE c v Γ M1 fun y M2 => WP c r Γ M2 fun ps M3 => R ((x, y) :: ps) M3
theorem wp_nil {R : List (D × D) → Cells → Prop} (h : R [] M) : WP c [] Γ M R := h
theorem wp_cons {k v : Expr} {r : List (Expr × Expr)} {R : List (D × D) → Cells → Prop} (h : WE c k Γ M fun x M1 => WE c v Γ M1 fun y M2 => WP c r Γ M2 fun ps M3 => R ((x, y) :: ps) M3) : WP c ((k, v) :: r) Γ M R := h
theorem wp_pps : ∀ (kvs : List (Expr × Expr)) {R : List (D × D) → Cells → Prop} {M : Cells} {H : Hp}, WP c kvs Γ M R → At c X S Γ M σ H → ∀ {T : List (V × V) → Hp → Prop},
    (∀ ps H' ds M', Core c.K S M' H' → Step M M' H H' → Paired (fun (p : V × V) (d : D × D) => Rep c.K (av S M') H' p.1 d.1 ∧ Rep c.K (av S M') H' p.2 d.2) ps ds → R ds M' → T ps H') →
    tPairs (kvs.map fun kv => (wE X kv.1, wE X kv.2)) σ H T
  | [], R, M, H, h, at_, T, hT => hT [] H [] M at_.core .refl .nil h
  | (k, v) :: r, R, M, H, h, at_, T, hT => by
    show wE X k σ H fun x H1 => wE X v σ H1 fun y H2 => tPairs (r.map fun kv => (wE X kv.1, wE X kv.2)) σ H2 fun ps H3 => T ((x, y) :: ps) H3
    have h' : WE c k Γ M fun x M1 => WE c v Γ M1 fun y M2 => WP c r Γ M2 fun ps M3 => R ((x, y) :: ps) M3 := h
    exact two h' at_ fun v1 v2 H2 d1 d2 M2 c2 s2 r1 r2 q => wp_pps r q (at_.step c2 s2) fun ps H3 ds M3 c3 s3 rp q3 => hT _ _ _ _ c3 (s2.trans s3) (.cons ⟨r1.to s3.to, r2.to s3.to⟩ rp) q3
theorem we_disp {keys : List (Option Expr)} {values : List Expr} {kvs : List (Expr × Expr)} (hk : keys = kvs.map fun kv => some kv.1) (hv : values = kvs.map (·.2)) (h0 : kvs ≠ []) (h15 : kvs.length ≤ 15)
    (h : ∀ p, WP c kvs Γ ((p, .dK []) :: M) fun ps M1 => ∃ (i : Nat) (ks : List (Key × D)), M1[i]? = some (p, .dK []) ∧ ps = ks.map (fun kd => (keyD kd.1, kd.2)) ∧ ks.length ≤ 15 ∧ Q (.ptr p) (M1.set i (p, .dK (ks.foldl (fun acc kd => storeK acc kd.1 kd.2) [])))) :
    WE c (.Dict keys values pos) Γ M Q := .mk fun X S σ H at_ Q' hq => by
  subst hk hv
  have pps : ∀ l : List (Expr × Expr), PPs X pos (l.map fun kv => some kv.1) (l.map (·.2)) (l.map fun kv => (wE X kv.1, wE X kv.2)) := by
    intro l
    induction l with
    | nil => exact pps_nil
    | cons kv l ih => exact pps_cons wE.pe wE.pe ih
  refine PE.to (pe_disp (pps kvs) (by simp) (by simp) (by simpa using h0) (by simpa using h15)) (fun p np => ?_)
  have k := at_.core.cell (o := .dK []) (m := .dK []) np ⟨[], rfl, .nil⟩
  refine wp_pps kvs (h p) (at_.step k.1 k.2) fun ps H2 ds M2 c2 s2 rp ⟨i, ks, hi, e, hl15, q⟩ => ?_
  subst e
  obtain ⟨o, ho, vs, e, rs⟩ := c2.at_ hi
  cases rs
  subst e
  -- the values
  have : ∀ (ks : List (Key × D)) (ps : List (V × V)), Paired (fun (p : V × V) (d : D × D) => Rep c.K (av S M2) H2 p.1 d.1 ∧ Rep c.K (av S M2) H2 p.2 d.2) ps (ks.map fun kd => (keyD kd.1, kd.2)) →
      ∃ vs : List (Key × V), ps = vs.map (fun kv => (kV kv.1, kv.2)) ∧ RepK c.K (av S M2) H2 vs ks := by
    intro ks
    induction ks with
    | nil =>
      intro ps rp
      cases rp
      exact ⟨[], rfl, .nil⟩
    | cons kd ks ih =>
      intro ps rp
      rw [List.map_cons] at rp
      cases rp with
      | @cons p _ ps _ r1 r2 =>
        obtain ⟨vs, e, rs⟩ := ih _ r2
        have ek := r1.1.key
        exact ⟨(kd.1, p.2) :: vs, by rw [List.map_cons, e, ← ek], .cons r1.2 rs⟩
  obtain ⟨vs, e, rs⟩ := this ks ps rp
  have merge : ∀ (vs : List (Key × V)) (ks : List (Key × D)) (acc : List (Key × V)) (accd : List (Key × D)), RepK c.K (av S M2) H2 vs ks → RepK c.K (av S M2) H2 acc accd →
      RepK c.K (av S M2) H2 (mergeK acc vs) (ks.foldl (fun acc kd => storeK acc kd.1 kd.2) accd) := by
    intro vs
    induction vs with
    | nil =>
      intro ks acc accd r1 r2
      cases r1
      exact r2
    | cons v vs ih =>
      intro ks acc accd r1 r2
      cases r1 with
      | @cons k v d vs ds r rr => exact ih _ (putK acc k v) (storeK accd k d) rr (r2.put k r)
  have kp := c2.put (m' := .dK (ks.foldl (fun acc kd => storeK acc kd.1 kd.2) [])) (o := .dK (mergeK [] vs)) hi ⟨_, rfl, merge vs ks [] [] rs .nil⟩
  exact ⟨ho, vs, e, by rw [rs.length]; exact hl15, hq _ _ _ _ kp.1 ((k.2.trans s2).trans kp.2) .ptr q⟩

/-! ### built-in calls -/
theorem we_callB {id : String} {r : List V → Hp → VK → Prop} (hc : ∀ X : Cx, X.calm = true → CallR X (.builtin id) r) (hg : GlC c.sc x) (hm : c.mg x = none) (hv : bootBuiltins x = some (.builtin id))
    (h : WA c (e :: es) Γ M fun ds M1 => ∀ (S : AS) (H : Hp) (vs : List V), Core c.K S M1 H → Reps c.K (av S M1) H vs ds → ∀ Q' : VK, (∀ v H' d M', Core c.K S M' H' → Step M1 M' H H' → Rep c.K (av S M') H' v d → Q d M' → Q' v H') → r vs H Q')
    (hn : x ≠ "__name__" := by decide) (hdb : (x == ("__debug__" : Str)) = false := by decide) {p : Pos}
    (he : ∀ env, starEach (e :: es) env = (false, eval e env) :: starEach es env := by intro _; rfl) (hpl : ∀ env, (backTo pos (starEach es env)).any (·.1) = false := by intro _; rfl) (hcm : c.calm = true := by first | rfl | assumption) : WE c (.Call (.Name x p) (e :: es) [] pos) Γ M Q := .mk fun X S σ H at_ Q' hq =>
  PE.to (pe_callB (hc X (at_.is.calm hcm)) (at_.is.gl hg) (at_.is.mgN hm) hv wA.pa hn hdb (he _) (hpl _)) (h.run X S σ H at_ _ fun vs H1 ds M1 c1 s1 r1 q => q S H1 vs c1 r1 Q' fun v H' d M' c2 s2 r2 q2 => hq v H' d M' c2 (s1.trans s2) r2 q2)
theorem we_abs {p : Pos} (hg : GlC c.sc "abs") (hm : c.mg "abs" = none) (h : WE c e Γ M fun x M1 => ∃ i, x = .int i ∧ Q (.int (if i < 0 then -i else i)) M1)
    (he : ∀ env, starEach [e] env = (false, eval e env) :: starEach [] env := by intro _; rfl) (hcm : c.calm = true := by first | rfl | assumption) : WE c (.Call (.Name "abs" p) [e] [] pos) Γ M Q :=
  we_callB (fun X _ => call_abs) hg hm (by decide +kernel) (wa_cons (.mk fun X S σ H at_ Q' hq => h.run X S σ H at_ Q' fun v H' d M' c1 s1 r1 ⟨i, e1, q⟩ => hq v H' d M' c1 s1 r1 (wa_nil (by
    subst e1
    intro S2 H2 vs c2 r2 Q2 hq2
    cases r2 with
    | cons r r' =>
      cases r'; cases r
      exact ⟨i, rfl, hq2 _ _ _ _ c2 .refl .int q⟩))) he) (he := he) (hpl := fun _ => rfl)
theorem we_min2 {p : Pos} {e' : Expr} (hg : GlC c.sc "min") (hm : c.mg "min" = none) (h : WE c e Γ M fun x M1 => WE c e' Γ M1 fun y M2 => ∃ i j, x = .int i ∧ y = .int j ∧ Q (.int (if j < i then j else i)) M2)
    (he : ∀ env, starEach [e, e'] env = (false, eval e env) :: starEach [e'] env := by intro _; rfl) (he2 : ∀ env, starEach [e'] env = (false, eval e' env) :: starEach [] env := by intro _; rfl) (hcm : c.calm = true := by first | rfl | assumption) : WE c (.Call (.Name "min" p) [e, e'] [] pos) Γ M Q :=
  we_callB (fun X hc => call_min2 hc) hg hm (by decide +kernel) (wa_cons (.mk fun X S σ H at_ Q' hq => h.run X S σ H at_ Q' fun v H' d M' c1 s1 r1 q0 => hq v H' d M' c1 s1 r1 (wa_cons (.mk fun X S σ H at_ Q' hq => q0.run X S σ H at_ Q' fun v H' d' M' c1 s1 r1 ⟨i, j, e1, e2, q⟩ => hq v H' d' M' c1 s1 r1 (wa_nil (by
    subst e1 e2
    intro S2 H2 vs c2 r2 Q2 hq2
    cases r2 with
    | cons r r' =>
      cases r' with
      | cons r1 r2 =>
        cases r2; cases r; cases r1
        exact ⟨i, j, rfl, hq2 _ _ _ _ c2 .refl .int q⟩))) he2)) he) (he := he) (hpl := fun env => by rw [he2]; rfl)
theorem we_max2 {p : Pos} {e' : Expr} (hg : GlC c.sc "max") (hm : c.mg "max" = none) (h : WE c e Γ M fun x M1 => WE c e' Γ M1 fun y M2 => ∃ i j, x = .int i ∧ y = .int j ∧ Q (.int (if j > i then j else i)) M2)
    (he : ∀ env, starEach [e, e'] env = (false, eval e env) :: starEach [e'] env := by intro _; rfl) (he2 : ∀ env, starEach [e'] env = (false, eval e' env) :: starEach [] env := by intro _; rfl) (hcm : c.calm = true := by first | rfl | assumption) : WE c (.Call (.Name "max" p) [e, e'] [] pos) Γ M Q :=
  we_callB (fun X hc => call_max2 hc) hg hm (by decide +kernel) (wa_cons (.mk fun X S σ H at_ Q' hq => h.run X S σ H at_ Q' fun v H' d M' c1 s1 r1 q0 => hq v H' d M' c1 s1 r1 (wa_cons (.mk fun X S σ H at_ Q' hq => q0.run X S σ H at_ Q' fun v H' d' M' c1 s1 r1 ⟨i, j, e1, e2, q⟩ => hq v H' d' M' c1 s1 r1 (wa_nil (by
    subst e1 e2
    intro S2 H2 vs c2 r2 Q2 hq2
    cases r2 with
    | cons r r' =>
      cases r' with
      | cons r1 r2 =>
        cases r2; cases r; cases r1
        exact ⟨i, j, rfl, hq2 _ _ _ _ c2 .refl .int q⟩))) he2)) he) (he := he) (hpl := fun env => by rw [he2]; rfl)
theorem we_len {p : Pos} (hg : GlC c.sc "len") (hm : c.mg "len" = none) (h : WE c e Γ M fun x M1 => ∃ ds, (View M1 x (.lst ds) ∨ View M1 x (.tup ds)) ∧ Q (.int (ds.length : Int)) M1)
    (he : ∀ env, starEach [e] env = (false, eval e env) :: starEach [] env := by intro _; rfl) : WE c (.Call (.Name "len" p) [e] [] pos) Γ M Q :=
  .mk fun X S σ H at_ Q' hq => PE.to (pe_callB call_len_seq (at_.is.gl hg) (at_.is.mgN hm) PySem.boot_len wA.pa (by decide) (by decide) (he _) rfl) ((wa_cons (c := c) (R := fun ds M1 => ∃ x zs, ds = [x] ∧ (View M1 x (.lst zs) ∨ View M1 x (.tup zs)) ∧ Q (.int (zs.length : Int)) M1) (.mk fun X S σ H at_ Q' hq => h.run X S σ H at_ Q' fun v H' d M' c1 s1 r1 ⟨ds, w, q⟩ => hq v H' d M' c1 s1 r1 (wa_nil ⟨d, ds, rfl, w, q⟩)) he).run X S σ H at_ _ (fun vs H1 ds M1 c1 s1 r1 ⟨x, zs, e1, w, q⟩ => by
    subst e1
    cases r1 with
    | cons r r' =>
      cases r'
      rw [at_.is.K]
      rcases w with w | w
      · have rr := w.rep c1 r
        cases rr with
        | lst h1 h2 => exact ⟨_, _, rfl, .inl h1.sq, by rw [h2.length]; exact hq _ _ _ _ c1 s1 .int q⟩
      · have rr := w.rep c1 r
        cases rr with
        | tup h1 h2 => exact ⟨_, _, rfl, .inr h1.sq, by rw [h2.length]; exact hq _ _ _ _ c1 s1 .int q⟩))
end
end PL
namespace PL
open PySem PySem.Spec PyProof.Rows L2

def wGs (X : Cx) (tgs : List Expr) : TGs := fun vs σ H Q => ∀ pins s us, Inv X pins σ H s → Vals vs us → wpAny (model X.prog X.w) X.A (assignInOrder ((assignEach tgs X.env).map (·.2)) us) (fun _ s' => ∃ σ' H', Inv X pins σ' H' s' ∧ Q σ' H') X.xe s
theorem wGs.pgs {X : Cx} {es : List Expr} : PGs X es (wGs X es) := ⟨fun pins s σ H vs us Q I r h => h pins s us I r⟩
theorem PGs.to {X : Cx} {es : List Expr} {t : TGs} {v σ H Q} (h : PGs X es t) (q : t v σ H Q) : wGs X es v σ H Q := fun pins s u I r => h.run pins s σ H v u Q I r q
structure WGs (c : Ctx) (tgs : List Expr) (ds : List D) (Γ : Gam) (M : Cells) (E : Gam → Cells → Prop) : Prop where
  run : ∀ X S σ H, At c X S Γ M σ H → ∀ vs, Reps c.K (av S M) H vs ds → ∀ Q' : L2.St → Hp → Prop, (∀ σ' H' Γ' M', Core c.K S M' H' → Slots c.K (av S M') H' Γ' σ' → Step M M' H H' → E Γ' M' → Q' σ' H') → wGs X tgs vs σ H Q'
section
variable {c : Ctx} {X : Cx} {S : AS} {Γ Γ' : Gam} {M M' : Cells} {σ σ' : L2.St} {H H' : Hp} {a b e tg : Expr} {es tgs : List Expr} {pos pos' : Pos} {Q : D → Cells → Prop} {R : Bool → Cells → Prop} {x : Str} {E : PEnds} {st : Stmt} {rest s1 s2 body : List Stmt} {d : D} {ds : List D} {G : Gam → Cells → Prop}

/-! ### targets -/
theorem wg_name {i : Nat} (hN : c.N[i]? = some x) (hl : LocC c x) (h : G (Γ.set i (some d)) M) : WG c (.Name x pos) d Γ M G := .mk fun X S σ H at_ v r Q' hq =>
  PG.to (pg_name at_.is.nd (at_.is.nm hN) (at_.is.loc hl) (at_.is.st hl)) (hq _ _ _ _ at_.core (at_.slots.set r) .refl h)
theorem wgs_nil (h : G Γ M) : WGs c [] [] Γ M G := .mk fun X S σ H at_ vs r Q' hq => by
  cases r
  exact PGs.to pgs_nil ⟨rfl, hq _ _ _ _ at_.core at_.slots .refl h⟩
theorem wgs_cons (h : WG c tg d Γ M fun Γ1 M1 => WGs c tgs ds Γ1 M1 G) (hs : ∀ env, (assignEach (tg :: tgs) env).map (·.2) = assign tg env :: (assignEach tgs env).map (·.2) := by intro _; rfl) : WGs c (tg :: tgs) (d :: ds) Γ M G := .mk fun X S σ H at_ vs r Q' hq => by
  cases r with
  | cons r rs =>
    exact PGs.to (pgs_cons wG.pg wGs.pgs (hs _)) ⟨_, _, rfl, h.run X S σ H at_ _ r _ fun σ1 H1 Γ1 M1 c1 sl1 st1 q => q.run X S σ1 H1 (at_.slot c1 sl1 st1) _ (rs.to st1.to) _ fun σ2 H2 Γ2 M2 c2 sl2 st2 q2 => hq _ _ _ _ c2 sl2 (st1.trans st2) q2⟩
theorem wg_tup {k : Nat} (hl : tgs.length = ds.length) (h : WGs c tgs ds Γ M G) (hn : ∀ env, (assignEach tgs env).length = tgs.length := by intro _; rfl) (hst : ∀ env, (assignEach tgs env).findIdx? (·.1) = none := by intro _; rfl) (hcm : c.calm = true := by first | rfl | assumption) : WG c (.Tuple tgs k pos) (.tup ds) Γ M G := .mk fun X S σ H at_ v r Q' hq => by
  cases r with
  | tup h1 h2 =>
    refine PG.to (pg_tup (at_.is.calm hcm) wGs.pgs (hn _) (hst _)) ⟨_, _, rfl, ?_, by rw [h2.length, hl], h.run X S σ H at_ _ h2 _ hq⟩
    rw [at_.is.K]
    exact h1.sq

/-! ### statements -/
theorem wss_nil (h : E.nx Γ M) : WSs c [] E Γ M := .mk fun X S σ H at_ Ds l => PSs.to pss_nil (l.nx _ _ _ _ at_.core at_.slots .refl h)
theorem wss_cons (h : WS c st { E with nx := fun Γ1 M1 => WSs c rest E Γ1 M1 } Γ M) : WSs c (st :: rest) E Γ M := .mk fun X S σ H at_ Ds l =>
  PSs.to (pss_cons wS.ps wSs.pss) (h.run X S σ H at_ { Ds with nx := wSs X rest Ds } ⟨fun σ1 H1 Γ1 M1 c1 sl1 st1 q => q.run X S σ1 H1 (at_.slot c1 sl1 st1) Ds (l.step st1), l.rt, l.bk, l.ct⟩)
theorem ws_asg {i : Nat} (hN : c.N[i]? = some x) (hl : LocC c x) (h : WE c e Γ M fun d M1 => E.nx (Γ.set i (some d)) M1) (hs : ∀ env, swapsWith e (some (.Name x pos')) pos.line env = pure false := by intro _; rfl) :
    WS c (.Assign [.Name x pos'] e pos) E Γ M := .mk fun X S σ H at_ Ds l =>
  PS.to (ps_set at_.is.nd (at_.is.nm hN) (at_.is.loc hl) wE.pe (hs _) (at_.is.st hl)) (h.run X S σ H at_ _ fun v H1 d M1 c1 s1 r1 q => l.nx _ _ _ _ c1 ((at_.slots.to s1.to).set r1) s1 q)
theorem ws_asgG (h : WE c e Γ M fun d M1 => WG c tg d Γ M1 E.nx) (hs : ∀ env, swapsWithSole [tg] e pos.line env = pure false := by intro _; rfl) (hw : ∀ env, env.scope = c.sc → swappedStores [tg] e env = pure none := by first | (intro _ _; rfl) | (rintro ⟨_, _, _, _, _, _, _, _, _⟩ rfl; rfl))
    (h1 : ∀ env, (assignEach [tg] env).map (·.2) = [assign tg env] := by intro _; rfl) : WS c (.Assign [tg] e pos) E Γ M := .mk fun X S σ H at_ Ds l =>
  PS.to (ps_asg wE.pe wG.pg (hs _) (hw _ at_.is.sc) (h1 _)) (h.run X S σ H at_ _ fun v H1 d M1 c1 s1 r1 q => q.run X S σ H1 (at_.step c1 s1) _ r1 _ fun σ2 H2 Γ2 M2 c2 sl2 s2 q2 => l.nx _ _ _ _ c2 sl2 (s1.trans s2) q2)
/-- x, y = a, b -/
theorem ws_par {i j : Nat} {y : Str} {px py pt pt2 : Pos} {kt k2 : Nat} (hi : c.N[i]? = some x) (hj : c.N[j]? = some y) (hij : i ≠ j) (hx : c.sc.names.lookup x = some .local) (hy : c.sc.names.lookup y = some .local)
    (h : WE c a Γ M fun d M1 => WE c b Γ M1 fun d2 M2 => E.nx ((Γ.set i (some d)).set j (some d2)) M2)
    (hw : ∀ env, env.scope = c.sc → swappedStores [.Tuple [.Name x px, .Name y py] kt pt] (.Tuple [a, b] k2 pt2) env = pure (some [x, y]) := by first | (rintro ⟨_, _, _, _, _, _, _, _, _⟩ rfl; rfl))
    (hs : ∀ env, swapsWithSole [.Tuple [.Name x px, .Name y py] kt pt] (.Tuple [a, b] k2 pt2) pos.line env = pure false := by intro _; rfl)
    (hst : ∀ env, starEach [a, b] env = (false, eval a env) :: starEach [b] env := by intro _; rfl) (hst2 : ∀ env, starEach [b] env = (false, eval b env) :: starEach [] env := by intro _; rfl) (hcm : c.calm = true := by first | rfl | assumption) :
    WS c (.Assign [.Tuple [.Name x px, .Name y py] kt pt] (.Tuple [a, b] k2 pt2) pos) E Γ M := .mk fun X S σ H at_ Ds l =>
  PS.to (ps_par (at_.is.calm hcm) at_.is.nd (at_.is.nm hi) (at_.is.nm hj) hij (by rw [at_.is.sc]; exact hx) (by rw [at_.is.sc]; exact hy) (pa_cons wE.pe (pa_cons wE.pe pa_nil (hst2 _)) (hst _)) (hw _ at_.is.sc) (hs _))
    (two h at_ fun v1 v2 H2 d1 d2 M2 c2 s2 r1 r2 q => ⟨v1, v2, rfl, l.nx _ _ _ _ c2 (((at_.slots.to s2.to).set r1).set r2) s2 q⟩)
theorem ws_aug {i : Nat} {op : Operator} {f : Int → Int → Int} {k : Int} (hop : ∀ X : Cx, PIp X op (ipI f)) (hN : c.N[i]? = some x) (hl : LocC c x) (hΓ : Γ[i]? = some (some (.int k))) (h : WE c e Γ M fun d M1 => ∃ j, d = .int j ∧ E.nx (Γ.set i (some (.int (f k j)))) M1) :
    WS c (.AugAssign (.Name x pos') op e pos) E Γ M := .mk fun X S σ H at_ Ds l => by
  obtain ⟨v, hv, r⟩ := at_.slots.at_ i _ hΓ
  cases r
  refine PS.to (ps_aug at_.is.nd (at_.is.nm hN) (at_.is.loc hl) wE.pe (hop X) (at_.is.st hl)) ⟨_, hv, h.run X S σ H at_ _ fun v H1 d M1 c1 s1 r1 ⟨j, e1, q⟩ => ?_⟩
  subst e1; cases r1
  exact ⟨k, j, rfl, rfl, l.nx _ _ _ _ c1 ((at_.slots.to s1.to).set .int) s1 q⟩
theorem ws_add {i : Nat} {k : Int} (hN : c.N[i]? = some x) (hl : LocC c x) (hΓ : Γ[i]? = some (some (.int k))) (h : WE c e Γ M fun d M1 => ∃ j, d = .int j ∧ E.nx (Γ.set i (some (.int (k + j)))) M1) : WS c (.AugAssign (.Name x pos') .Add e pos) E Γ M :=
  ws_aug (f := fun i j => i + j) (fun X => ip_add) hN hl hΓ h
theorem ws_expr (h : WE c e Γ M fun _ M1 => E.nx Γ M1) (hs : ∀ env, swapsWith e none pos.line env = pure false := by intro _; rfl) : WS c (.Expr e pos) E Γ M := .mk fun X S σ H at_ Ds l =>
  PS.to (ps_expr wE.pe (hs _)) (h.run X S σ H at_ _ fun v H1 d M1 c1 s1 r1 q => l.nx _ _ _ _ c1 (at_.slots.to s1.to) s1 q)
theorem ws_ret (h : WE c e Γ M E.rt) : WS c (.Return (some e) pos) E Γ M := .mk fun X S σ H at_ Ds l =>
  PS.to (ps_ret wE.pe) (h.run X S σ H at_ _ fun v H1 d M1 c1 s1 r1 q => l.rt _ _ _ _ c1 s1 r1 q)
theorem ws_retN (h : E.rt .non M) : WS c (.Return none pos) E Γ M := .mk fun X S σ H at_ Ds l =>
  PS.to ps_retN (l.rt _ _ _ _ at_.core .refl .non h)
theorem ws_pass (h : E.nx Γ M) : WS c (.Pass pos) E Γ M := .mk fun X S σ H at_ Ds l => PS.to ps_pass (l.nx _ _ _ _ at_.core at_.slots .refl h)
theorem ws_break (h : E.bk Γ M) : WS c (.Break pos) E Γ M := .mk fun X S σ H at_ Ds l => PS.to ps_break (l.bk _ _ _ _ at_.core at_.slots .refl h)
theorem ws_cont (h : E.ct Γ M) : WS c (.Continue pos) E Γ M := .mk fun X S σ H at_ Ds l => PS.to ps_continue (l.ct _ _ _ _ at_.core at_.slots .refl h)
theorem ws_never (h : False) : WS c st E Γ M := h.elim
theorem ws_if (h : WT c e Γ M fun k M1 => Br k (WSs c s1 E Γ M1) (WSs c s2 E Γ M1)) : WS c (.If e s1 s2 pos) E Γ M := .mk fun X S σ H at_ Ds l =>
  PS.to (ps_if wT.pt wSs.pss wSs.pss) (h.run X S σ H at_ _ fun k H1 M1 c1 st1 q => by
    cases k with
    | true => exact (q.1 rfl).run X S σ H1 (at_.step c1 st1) Ds (l.step st1)
    | false => exact (q.2 rfl).run X S σ H1 (at_.step c1 st1) Ds (l.step st1))
/-- what follows is shown once, from Mid -/
theorem wss_cut (Mid : Gam → Cells → Prop) (h1 : WS c st { E with nx := Mid } Γ M) (h2 : ∀ Γ1 M1, Mid Γ1 M1 → WSs c rest E Γ1 M1) : WSs c (st :: rest) E Γ M :=
  wss_cons (.mk fun X S σ H at_ Ds l => h1.run X S σ H at_ Ds ⟨fun σ1 H1 Γ1 M1 c1 sl1 st1 q => l.nx _ _ _ _ c1 sl1 st1 (h2 Γ1 M1 q), l.rt, l.bk, l.ct⟩)
/-- d[k] = v -/
theorem ws_dput (h : WE c e Γ M fun z M1 => WE c a Γ M1 fun x M2 => WE c b Γ M2 fun y M3 => ∃ (p : Addr) (i : Nat) (kvs : List (Key × D)) (k : Key), x = .ptr p ∧ M3[i]? = some (p, .dK kvs) ∧ y = keyD k ∧ kvs.length < sizeLine ∧ E.nx Γ (M3.set i (p, .dK (storeK kvs k z))))
    (hs : ∀ env, swapsWith e (some (.Subscript a b pos')) pos.line env = pure false := by intro _; rfl) : WS c (.Assign [.Subscript a b pos'] e pos) E Γ M := .mk fun X S σ H at_ Ds l =>
  PS.to (ps_dput at_.is.hu1 wE.pe wE.pe wE.pe (hs _)) (h.run X S σ H at_ _ fun v1 H1 d1 M1 c1 s1 r1 q1 => two q1 (at_.step c1 s1) fun v2 v3 H3 d2 d3 M3 c3 s3 r2 r3 ⟨p, i, kvs, k, e1, hi, e2, hl, q⟩ => by
    subst e1 e2; cases r2
    have ek := r3.key
    subst ek
    obtain ⟨o, ho, vs, e, rs⟩ := c3.at_ hi
    subst e
    have kp := c3.put (m' := .dK (storeK kvs k d1)) (o := .dK (putK vs k v1)) hi ⟨_, rfl, rs.put k (r1.to s3.to)⟩
    exact ⟨p, _, rfl, DPut.k ho (by rw [rs.length]; exact hl), l.nx _ _ _ _ kp.1 (at_.slots.to ((s1.trans s3).trans kp.2).to) ((s1.trans s3).trans kp.2) q⟩)
/-- d[k] += v, ints -/
theorem ws_dadd (h : WE c a Γ M fun x M1 => WE c b Γ M1 fun y M2 => ∃ (p : Addr) (i : Nat) (kvs : List (Key × D)) (k : Key) (n : Int), x = .ptr p ∧ M2[i]? = some (p, .dK kvs) ∧ y = keyD k ∧ lookK kvs k = some (.int n) ∧
      WE c e Γ M2 fun z M3 => ∃ (j : Nat) (kvs2 : List (Key × D)) (m : Int), z = .int m ∧ M3[j]? = some (p, .dK kvs2) ∧ kvs2.length < sizeLine ∧ E.nx Γ (M3.set j (p, .dK (storeK kvs2 k (.int (n + m))))))
    (ha : ∀ ov iv new, augStore b ov iv new = (do holding [new, ov, iv] (setItem ov iv new); release [new, ov, iv] []; pure .next) := by intros; rfl) : WS c (.AugAssign (.Subscript a b pos') .Add e pos) E Γ M := .mk fun X S σ H at_ Ds l =>
  PS.to (ps_daug at_.is.hu1 wE.pe wE.pe wE.pe in_add ha) (two h at_ fun v1 v2 H2 d1 d2 M2 c2 s2 r1 r2 ⟨p, i, kvs, k, n, e1, hi, e2, hl, q⟩ => by
    subst e1 e2; cases r1
    have ek := r2.key
    subst ek
    obtain ⟨o, ho, vs, e, rs⟩ := c2.at_ hi
    subst e
    rcases rs.look k with ⟨l', _⟩ | ⟨d', v, l1, l2, r⟩
    · rw [l'] at hl; cases hl
    · rw [l1] at hl
      have := Option.some.inj hl
      subst this
      cases r
      refine ⟨p, .int n, rfl, by rw [← l2]; exact DGet.k ho, q.run X S σ H2 (at_.step c2 s2) _ fun v3 H3 d3 M3 c3 s3 r3 ⟨j, kvs2, m, e3, hj, hl2, q3⟩ => ?_⟩
      subst e3; cases r3
      obtain ⟨o2, ho2, vs2, e2, rs2⟩ := c3.at_ hj
      subst e2
      have kp := c3.put (m' := .dK (storeK kvs2 k (.int (n + m)))) (o := .dK (putK vs2 k (.int (n + m)))) hj ⟨_, rfl, rs2.put k .int⟩
      exact ⟨n, m, rfl, rfl, _, DPut.k ho2 (by rw [rs2.length]; exact hl2), l.nx _ _ _ _ kp.1 (at_.slots.to ((s2.trans s3).trans kp.2).to) ((s2.trans s3).trans kp.2) q3⟩)
/-- a list cell's item stored -/
theorem ws_lput (h : WE c e Γ M fun z M1 => WE c a Γ M1 fun x M2 => WE c b Γ M2 fun y M3 => ∃ (p : Addr) (i : Nat) (ds : List D) (k : Int) (j : Nat), x = .ptr p ∧ M3[i]? = some (p, .lst ds) ∧ y = .int k ∧ ixN ds.length k = some j ∧ E.nx Γ (M3.set i (p, .lst (ds.set j z))))
    (hs : ∀ env, swapsWithSole [.Subscript a b pos'] e pos.line env = pure false := by intro _; rfl) (hw : ∀ env, swappedStores [.Subscript a b pos'] e env = pure none := by intro _; rfl) (h1 : ∀ env, (assignEach [.Subscript a b pos'] env).map (·.2) = [assign (.Subscript a b pos') env] := by intro _; rfl)
    (ha : ∀ env v, assign (.Subscript a b pos') env v = (do
      let ov ← holding [v] (eval a env)
      let iv ← holding [v, ov] (eval b env)
      standAt pos'
      holding [v, ov, iv] (setItem ov iv v)
      release [v, ov, iv] []) := by intro _ _; rfl) : WS c (.Assign [.Subscript a b pos'] e pos) E Γ M := .mk fun X S σ H at_ Ds l =>
  PS.to (ps_asg wE.pe (pg_sub wE.pe wE.pe set_list (ha _)) (hs _) (hw _) (h1 _)) (h.run X S σ H at_ _ fun v1 H1 d1 M1 c1 s1 r1 q1 => two q1 (at_.step c1 s1) fun v2 v3 H3 d2 d3 M3 c3 s3 r2 r3 ⟨p, i, ds, k, j, e1, hi, e2, hj, q⟩ => by
    subst e1 e2; cases r2; cases r3
    obtain ⟨o, ho, vs, e, rs⟩ := c3.at_ hi
    subst e
    have kp := c3.put (m' := .lst (ds.set j d1)) (o := .lst (vs.set j v1)) hi ⟨_, rfl, rs.set j (r1.to s3.to)⟩
    exact ⟨p, vs, k, j, rfl, rfl, ho, by rw [rs.length]; exact hj, l.nx _ _ _ _ kp.1 (at_.slots.to ((s1.trans s3).trans kp.2).to) ((s1.trans s3).trans kp.2) q⟩)

/-! ### the list that was made is done: it is data from now on -/
theorem Core.freeze (cr : Core c.K S M H) {i : Nat} {p : Addr} {ds : List D} (h : M[i]? = some (p, .lst ds)) : Core c.K S (M.eraseIdx i) H ∧ Rep c.K (av S (M.eraseIdx i)) H (.ref p) (.lst ds) ∧ Step M (M.eraseIdx i) H H := by
  have sub : (M.eraseIdx i).Sublist M := List.eraseIdx_sublist _ _
  have subd : (dom (M.eraseIdx i)).Sublist (dom M) := sub.map _
  have np : p ∉ dom (M.eraseIdx i) := by
    intro z
    obtain ⟨q, hq, e⟩ := List.mem_map.mp z
    obtain ⟨j, hj⟩ := List.getElem?_of_mem hq
    rw [List.getElem?_eraseIdx] at hj
    have e1 : (dom M)[i]? = some p := by unfold dom; rw [List.getElem?_map, h]; rfl
    have nd := cr.nod
    obtain ⟨h1, g1⟩ := List.getElem?_eq_some_iff.mp e1
    have fin : ∀ m, (dom M)[m]? = some p → m = i := fun m hm => by
      obtain ⟨h2, g2⟩ := List.getElem?_eq_some_iff.mp hm
      exact (List.getElem_inj nd).mp (g2.trans g1.symm)
    split at hj
    · have := fin j (by unfold dom; rw [List.getElem?_map, hj]; show some q.1 = some p; rw [e])
      omega
    · have := fin (j + 1) (by unfold dom; rw [List.getElem?_map, hj]; show some q.1 = some p; rw [e])
      omega
  have st : Step M (M.eraseIdx i) H H := ⟨fun _ _ _ h => h, fun _ h => h, fun b hb => .inl (subd.subset hb)⟩
  obtain ⟨o, ho, vs, e, rs⟩ := cr.at_ h
  subst e
  have hp : p ∈ dom M := List.mem_map.mpr ⟨_, List.mem_of_getElem? h, rfl⟩
  refine ⟨⟨cr.known, cr.nod.sublist subd, fun a ha => cr.dis a (subd.subset ha), fun q hq => CellAt.to st.to (fun _ e => e) (cr.cells q (sub.subset hq))⟩, .lst (.inl ⟨fun z => ?_, .inl ho⟩) (rs.to st.to), st⟩
  rcases z with z | z
  · exact cr.dis p hp z
  · exact np z
theorem wss_freeze {j i : Nat} {p : Addr} {ds : List D} (hΓ : Γ[j]? = some (some (.ptr p))) (hM : M[i]? = some (p, .lst ds)) (h : WSs c rest E (Γ.set j (some (.lst ds))) (M.eraseIdx i)) : WSs c rest E Γ M := .mk fun X S σ H at_ Ds l => by
  obtain ⟨c1, r1, s1⟩ := at_.core.freeze hM
  obtain ⟨v, hv, r⟩ := at_.slots.at_ j _ hΓ
  cases r
  have sl := (at_.slots.to s1.to).set (i := j) r1
  have e : σ.set j (some (V.ref p)) = σ := by
    obtain ⟨h1, g1⟩ := List.getElem?_eq_some_iff.mp hv
    rw [← g1, List.set_getElem_self]
  rw [e] at sl
  exact h.run X S σ H (at_.slot c1 sl s1) Ds (l.step s1)
/-- cells that nobody needs any more -/
theorem wss_drop {i : Nat} (h : WSs c rest E Γ (M.eraseIdx i)) : WSs c rest E Γ M := .mk fun X S σ H at_ Ds l => by
  have sub : (M.eraseIdx i).Sublist M := List.eraseIdx_sublist _ _
  have subd : (dom (M.eraseIdx i)).Sublist (dom M) := sub.map _
  have st : Step M (M.eraseIdx i) H H := ⟨fun _ _ _ h => h, fun _ h => h, fun b hb => .inl (subd.subset hb)⟩
  exact h.run X S σ H (at_.step ⟨at_.core.known, at_.core.nod.sublist subd, fun a ha => at_.core.dis a (subd.subset ha), fun q hq => CellAt.to st.to (fun _ e => e) (at_.core.cells q (sub.subset hq))⟩ st) Ds (l.step st)

/-! ### loops -/
theorem ws_while (Inv : Nat → Gam → Cells → Prop) (m0 : Nat) (h0 : Inv m0 Γ M)
    (hs : ∀ m Γ1 M1, Inv m Γ1 M1 → WT c e Γ1 M1 fun k M2 => Br k (WSs c body { nx := fun Γ3 M3 => ∃ m', m' < m ∧ Inv m' Γ3 M3, ct := fun Γ3 M3 => ∃ m', m' < m ∧ Inv m' Γ3 M3, bk := E.nx, rt := E.rt } Γ1 M2) (E.nx Γ1 M2)) :
    WS c (.While e body [] pos) E Γ M := .mk fun X S σ H at_ Ds l =>
  PS.to (ps_while at_.is.po wT.pt wSs.pss) ⟨fun m σ1 H1 => ∃ Γ1 M1, Core c.K S M1 H1 ∧ Slots c.K (av S M1) H1 Γ1 σ1 ∧ Step M M1 H H1 ∧ Inv m Γ1 M1, ⟨m0, Γ, M, at_.core, at_.slots, .refl, h0⟩, fun m σ1 H1 ⟨Γ1, M1, c1, sl1, st1, hi⟩ => by
    refine (hs m Γ1 M1 hi).run X S σ1 H1 (at_.slot c1 sl1 st1) _ fun k H2 M2 c2 st2 q => ?_
    cases k with
    | true =>
      refine ⟨fun σ3 H3 => ∃ m', m' < m ∧ ∃ Γ3 M3, Core c.K S M3 H3 ∧ Slots c.K (av S M3) H3 Γ3 σ3 ∧ Step M M3 H H3 ∧ Inv m' Γ3 M3, fun σ3 H3 ⟨m', hm, w⟩ => ⟨m', hm, w⟩, ?_⟩
      refine (q.1 rfl).run X S σ1 H2 ((at_.slot c1 sl1 st1).step c2 st2) _ ⟨?_, ?_, ?_, ?_⟩
      · rintro σ3 H3 Γ3 M3 c3 sl3 st3 ⟨m', hm, q3⟩
        exact ⟨m', hm, Γ3, M3, c3, sl3, (st1.trans st2).trans st3, q3⟩
      · intro v H3 d M3 c3 st3 r3 q3
        exact l.rt v H3 d M3 c3 ((st1.trans st2).trans st3) r3 q3
      · intro σ3 H3 Γ3 M3 c3 sl3 st3 q3
        exact l.nx σ3 H3 Γ3 M3 c3 sl3 ((st1.trans st2).trans st3) q3
      · rintro σ3 H3 Γ3 M3 c3 sl3 st3 ⟨m', hm, q3⟩
        exact ⟨m', hm, Γ3, M3, c3, sl3, (st1.trans st2).trans st3, q3⟩
    | false => exact l.nx σ1 H2 Γ1 M2 c2 (sl1.to st2.to) (st1.trans st2) (q.2 rfl)⟩
theorem split_at {α : Type} {xs : List α} {i : Nat} {x : α} (h : xs[i]? = some x) : xs = xs.take i ++ x :: xs.drop (i + 1) ∧ xs.take (i + 1) = xs.take i ++ [x] := by
  obtain ⟨hi, e⟩ := List.getElem?_eq_some_iff.mp h
  refine ⟨?_, ?_⟩
  · rw [← e, List.getElem_cons_drop, List.take_append_drop]
  · rw [List.take_succ, h]; rfl
/-- for over a list (a tuple) of data; Inv by what was taken -/
theorem ws_forL {α : Type} (xs : List α) (f : α → D) (Inv : List α → Gam → Cells → Prop)
    (h : WE c e Γ M fun d M1 => d = .lst (xs.map f) ∧ Inv [] Γ M1 ∧
      (∀ pre y post Γ2 M2, xs = pre ++ y :: post → Inv pre Γ2 M2 → WG c tg (f y) Γ2 M2 fun Γ3 M3 => WSs c body { nx := Inv (pre ++ [y]), ct := Inv (pre ++ [y]), bk := E.nx, rt := E.rt } Γ3 M3) ∧ ∀ Γ2 M2, Inv xs Γ2 M2 → E.nx Γ2 M2)
    (hs : ∀ env x, foldedSetIterable e env x = pure x := by intro _ _; rfl) (hcm : c.calm = true := by first | rfl | assumption) : WS c (.For tg e body [] pos) E Γ M := .mk fun X S σ H at_ Ds l => by
  refine PS.to (ps_for at_.is.po (at_.is.calm hcm) (pi_list wE.pe) wG.pg wSs.pss (hs _)) (h.run X S σ H at_ _ fun v1 H1 d1 M1 c1 s1 r1 ⟨e1, inv0, step, fin⟩ => ?_)
  subst e1
  cases r1 with
  | lst h1 h2 =>
    rename_i a vs
    have hl : vs.length = xs.length := by rw [h2.length, List.length_map]
    refine ⟨_, rfl, ⟨_, by rw [at_.is.K]; exact h1.sq⟩, for_list (xs := vs) (fun i σ2 H2 => ∃ Γ2 M2, Core c.K S M2 H2 ∧ Slots c.K (av S M2) H2 Γ2 σ2 ∧ Step M1 M2 H1 H2 ∧ Inv (xs.take i) Γ2 M2)
      ⟨Γ, M1, c1, at_.slots.to s1.to, .refl, inv0⟩ (fun i σ2 H2 _ ⟨Γ2, M2, c2, sl2, st2, _⟩ => by rw [at_.is.K]; exact (st2.to.rdl h1).sq) ?_ ?_⟩
    · rintro i y σ2 H2 hi ⟨Γ2, M2, c2, sl2, st2, inv⟩
      obtain ⟨d, hd, rd⟩ := h2.getV hi
      rw [List.getElem?_map] at hd
      cases ex : xs[i]? with
      | none => rw [ex] at hd; cases hd
      | some z =>
        rw [ex] at hd
        have ed : f z = d := Option.some.inj hd
        subst ed
        obtain ⟨sp, tk⟩ := split_at ex
        refine (step _ z _ Γ2 M2 sp inv).run X S σ2 H2 (at_.slot c2 sl2 (s1.trans st2)) _ (rd.to st2.to) _ fun σ3 H3 Γ3 M3 c3 sl3 st3 q => q.run X S σ3 H3 (at_.slot c3 sl3 ((s1.trans st2).trans st3)) _ ⟨?_, ?_, ?_, ?_⟩
        · intro σ4 H4 Γ4 M4 c4 sl4 st4 q4
          exact ⟨Γ4, M4, c4, sl4, (st2.trans st3).trans st4, by rw [tk]; exact q4⟩
        · intro v4 H4 d4 M4 c4 st4 r4 q4
          exact l.rt v4 H4 d4 M4 c4 (((s1.trans st2).trans st3).trans st4) r4 q4
        · intro σ4 H4 Γ4 M4 c4 sl4 st4 q4
          exact l.nx σ4 H4 Γ4 M4 c4 sl4 (((s1.trans st2).trans st3).trans st4) q4
        · intro σ4 H4 Γ4 M4 c4 sl4 st4 q4
          exact ⟨Γ4, M4, c4, sl4, (st2.trans st3).trans st4, by rw [tk]; exact q4⟩
    · rintro σ2 H2 ⟨Γ2, M2, c2, sl2, st2, inv⟩
      rw [hl, List.take_length] at inv
      exact l.nx σ2 H2 Γ2 M2 c2 sl2 (s1.trans st2) (fin Γ2 M2 inv)
theorem ws_forT {α : Type} (xs : List α) (f : α → D) (Inv : List α → Gam → Cells → Prop)
    (h : WE c e Γ M fun d M1 => d = .tup (xs.map f) ∧ Inv [] Γ M1 ∧
      (∀ pre y post Γ2 M2, xs = pre ++ y :: post → Inv pre Γ2 M2 → WG c tg (f y) Γ2 M2 fun Γ3 M3 => WSs c body { nx := Inv (pre ++ [y]), ct := Inv (pre ++ [y]), bk := E.nx, rt := E.rt } Γ3 M3) ∧ ∀ Γ2 M2, Inv xs Γ2 M2 → E.nx Γ2 M2)
    (hs : ∀ env x, foldedSetIterable e env x = pure x := by intro _ _; rfl) (hcm : c.calm = true := by first | rfl | assumption) : WS c (.For tg e body [] pos) E Γ M := .mk fun X S σ H at_ Ds l => by
  refine PS.to (ps_for at_.is.po (at_.is.calm hcm) (pi_tup wE.pe) wG.pg wSs.pss (hs _)) (h.run X S σ H at_ _ fun v1 H1 d1 M1 c1 s1 r1 ⟨e1, inv0, step, fin⟩ => ?_)
  subst e1
  cases r1 with
  | tup h1 h2 =>
    rename_i a vs
    have hl : vs.length = xs.length := by rw [h2.length, List.length_map]
    refine ⟨_, rfl, ⟨_, by rw [at_.is.K]; exact h1.sq⟩, for_tup (xs := vs) (fun i σ2 H2 => ∃ Γ2 M2, Core c.K S M2 H2 ∧ Slots c.K (av S M2) H2 Γ2 σ2 ∧ Step M1 M2 H1 H2 ∧ Inv (xs.take i) Γ2 M2)
      ⟨Γ, M1, c1, at_.slots.to s1.to, .refl, inv0⟩ (fun i σ2 H2 _ ⟨Γ2, M2, c2, sl2, st2, _⟩ => by rw [at_.is.K]; exact (st2.to.rdt h1).sq) ?_ ?_⟩
    · rintro i y σ2 H2 hi ⟨Γ2, M2, c2, sl2, st2, inv⟩
      obtain ⟨d, hd, rd⟩ := h2.getV hi
      rw [List.getElem?_map] at hd
      cases ex : xs[i]? with
      | none => rw [ex] at hd; cases hd
      | some z =>
        rw [ex] at hd
        have ed : f z = d := Option.some.inj hd
        subst ed
        obtain ⟨sp, tk⟩ := split_at ex
        refine (step _ z _ Γ2 M2 sp inv).run X S σ2 H2 (at_.slot c2 sl2 (s1.trans st2)) _ (rd.to st2.to) _ fun σ3 H3 Γ3 M3 c3 sl3 st3 q => q.run X S σ3 H3 (at_.slot c3 sl3 ((s1.trans st2).trans st3)) _ ⟨?_, ?_, ?_, ?_⟩
        · intro σ4 H4 Γ4 M4 c4 sl4 st4 q4
          exact ⟨Γ4, M4, c4, sl4, (st2.trans st3).trans st4, by rw [tk]; exact q4⟩
        · intro v4 H4 d4 M4 c4 st4 r4 q4
          exact l.rt v4 H4 d4 M4 c4 (((s1.trans st2).trans st3).trans st4) r4 q4
        · intro σ4 H4 Γ4 M4 c4 sl4 st4 q4
          exact l.nx σ4 H4 Γ4 M4 c4 sl4 (((s1.trans st2).trans st3).trans st4) q4
        · intro σ4 H4 Γ4 M4 c4 sl4 st4 q4
          exact ⟨Γ4, M4, c4, sl4, (st2.trans st3).trans st4, by rw [tk]; exact q4⟩
    · rintro σ2 H2 ⟨Γ2, M2, c2, sl2, st2, inv⟩
      rw [hl, List.take_length] at inv
      exact l.nx σ2 H2 Γ2 M2 c2 sl2 (s1.trans st2) (fin Γ2 M2 inv)
/-- for over a range of whole numbers -/
theorem ws_forR {p : Pos} {i : Nat} {px : Pos} {y : Str} (hg : GlC c.sc "range") (hm : c.mg "range" = none) (hN : c.N[i]? = some y) (hl : LocC c y) (Inv : Nat → Gam → Cells → Prop)
    (h : WE c a Γ M fun d M1 => ∃ n : Int, d = .int n ∧ -(2 ^ 62) ≤ n ∧ n < 2 ^ 62 ∧ Inv 0 Γ M1 ∧ (∀ (k : Nat) Γ2 M2, (k : Int) < n → Inv k Γ2 M2 → WSs c body { nx := Inv (k + 1), ct := Inv (k + 1), bk := E.nx, rt := E.rt } (Γ2.set i (some (.int k))) M2) ∧ ∀ Γ2 M2, Inv n.toNat Γ2 M2 → E.nx Γ2 M2)
    (hst : ∀ env, starEach [a] env = (false, eval a env) :: starEach [] env := by intro _; rfl) (hs : ∀ env x, foldedSetIterable (.Call (.Name "range" p) [a] [] pos') env x = pure x := by intro _ _; rfl) (hcm : c.calm = true := by first | rfl | assumption) :
    WS c (.For (.Name y px) (.Call (.Name "range" p) [a] [] pos') body [] pos) E Γ M := .mk fun X S σ H at_ Ds l => by
  refine PS.to (ps_for at_.is.po (at_.is.calm hcm) (pi_range1 (at_.is.gl hg) (at_.is.mgN hm) (pa_cons wE.pe pa_nil (hst _)) (by rw [hst]; rfl)) (pg_name at_.is.nd (at_.is.nm hN) (at_.is.loc hl) (at_.is.st hl)) wSs.pss (hs _)) (h.run X S σ H at_ _ fun v1 H1 d1 M1 c1 s1 r1 ⟨n, e1, b1, b2, inv0, step, fin⟩ => ?_)
  subst e1
  cases r1
  refine ⟨n, rfl, b1, b2, for_range (lo := 0) (n := n.toNat) (fun i σ2 H2 => ∃ Γ2 M2, Core c.K S M2 H2 ∧ Slots c.K (av S M2) H2 Γ2 σ2 ∧ Step M1 M2 H1 H2 ∧ Inv i Γ2 M2) ⟨Γ, M1, c1, at_.slots.to s1.to, .refl, inv0⟩ ?_ ?_⟩
  · rintro k σ2 H2 hk ⟨Γ2, M2, c2, sl2, st2, inv⟩
    rw [Int.zero_add]
    refine (step k Γ2 M2 (by omega) inv).run X S _ H2 (at_.slot c2 (sl2.set .int) (s1.trans st2)) _ ⟨?_, ?_, ?_, ?_⟩
    · intro σ4 H4 Γ4 M4 c4 sl4 st4 q4
      exact ⟨Γ4, M4, c4, sl4, st2.trans st4, q4⟩
    · intro v4 H4 d4 M4 c4 st4 r4 q4
      exact l.rt v4 H4 d4 M4 c4 ((s1.trans st2).trans st4) r4 q4
    · intro σ4 H4 Γ4 M4 c4 sl4 st4 q4
      exact l.nx σ4 H4 Γ4 M4 c4 sl4 ((s1.trans st2).trans st4) q4
    · intro σ4 H4 Γ4 M4 c4 sl4 st4 q4
      exact ⟨Γ4, M4, c4, sl4, st2.trans st4, q4⟩
  · rintro σ2 H2 ⟨Γ2, M2, c2, sl2, st2, inv⟩
    exact l.nx σ2 H2 Γ2 M2 c2 sl2 (s1.trans st2) (fin Γ2 M2 inv)
/-- from lo up to below hi -/
theorem ws_forR2 {p : Pos} {i : Nat} {px : Pos} {y : Str} (hg : GlC c.sc "range") (hm : c.mg "range" = none) (hN : c.N[i]? = some y) (hl : LocC c y) (Inv : Nat → Gam → Cells → Prop)
    (h : WE c a Γ M fun d M1 => WE c b Γ M1 fun d2 M1 => ∃ lo n : Int, d = .int lo ∧ d2 = .int n ∧ (-(2 ^ 62) ≤ lo ∧ lo < 2 ^ 62 ∧ -(2 ^ 62) ≤ n ∧ n < 2 ^ 62) ∧ Inv 0 Γ M1 ∧ (∀ (k : Nat) Γ2 M2, lo + (k : Int) < n → Inv k Γ2 M2 → WSs c body { nx := Inv (k + 1), ct := Inv (k + 1), bk := E.nx, rt := E.rt } (Γ2.set i (some (.int (lo + k)))) M2) ∧ ∀ Γ2 M2, Inv (n - lo).toNat Γ2 M2 → E.nx Γ2 M2)
    (hst : ∀ env, starEach [a, b] env = (false, eval a env) :: starEach [b] env := by intro _; rfl) (hst2 : ∀ env, starEach [b] env = (false, eval b env) :: starEach [] env := by intro _; rfl) (hs : ∀ env x, foldedSetIterable (.Call (.Name "range" p) [a, b] [] pos') env x = pure x := by intro _ _; rfl) (hcm : c.calm = true := by first | rfl | assumption) :
    WS c (.For (.Name y px) (.Call (.Name "range" p) [a, b] [] pos') body [] pos) E Γ M := .mk fun X S σ H at_ Ds l => by
  refine PS.to (ps_for at_.is.po (at_.is.calm hcm) (pi_range2 (at_.is.gl hg) (at_.is.mgN hm) (pa_cons wE.pe (pa_cons wE.pe pa_nil (hst2 _)) (hst _)) (by rw [hst, hst2]; rfl) (by rw [hst2]; rfl)) (pg_name at_.is.nd (at_.is.nm hN) (at_.is.loc hl) (at_.is.st hl)) wSs.pss (hs _)) (two h at_ fun v1 v2 H1 d1 d2 M1 c1 s1 r1 r2 ⟨lo, n, e1, e2, b1, inv0, step, fin⟩ => ?_)
  subst e1 e2
  cases r1; cases r2
  refine ⟨lo, n, rfl, b1, for_range (lo := lo) (n := (n - lo).toNat) (fun i σ2 H2 => ∃ Γ2 M2, Core c.K S M2 H2 ∧ Slots c.K (av S M2) H2 Γ2 σ2 ∧ Step M1 M2 H1 H2 ∧ Inv i Γ2 M2) ⟨Γ, M1, c1, at_.slots.to s1.to, .refl, inv0⟩ ?_ ?_⟩
  · rintro k σ2 H2 hk ⟨Γ2, M2, c2, sl2, st2, inv⟩
    refine (step k Γ2 M2 (by omega) inv).run X S _ H2 (at_.slot c2 (sl2.set .int) (s1.trans st2)) _ ⟨?_, ?_, ?_, ?_⟩
    · intro σ4 H4 Γ4 M4 c4 sl4 st4 q4
      exact ⟨Γ4, M4, c4, sl4, st2.trans st4, q4⟩
    · intro v4 H4 d4 M4 c4 st4 r4 q4
      exact l.rt v4 H4 d4 M4 c4 ((s1.trans st2).trans st4) r4 q4
    · intro σ4 H4 Γ4 M4 c4 sl4 st4 q4
      exact l.nx σ4 H4 Γ4 M4 c4 sl4 ((s1.trans st2).trans st4) q4
    · intro σ4 H4 Γ4 M4 c4 sl4 st4 q4
      exact ⟨Γ4, M4, c4, sl4, st2.trans st4, q4⟩
  · rintro σ2 H2 ⟨Γ2, M2, c2, sl2, st2, inv⟩
    exact l.nx σ2 H2 Γ2 M2 c2 sl2 (s1.trans st2) (fin Γ2 M2 inv)
end

/-! ### defs -/
/-- what a def does, in data: arguments, cells, what is wanted of its value and the cells behind, what of what it raises -/
abbrev PF := List D → Cells → (D → Cells → Prop) → (Addr → D → Cells → Prop) → Prop
def liftF (K : PySem.W.Frag) (pf : PF) : Sp := fun vs H Q E => ∃ (S : AS) (M : Cells) (ds : List D), Core K S M H ∧ Reps K (av S M) H vs ds ∧
  pf ds M (fun d M' => ∀ v H', Core K S M' H' → Step M M' H H' → Rep K (av S M') H' v d → Q v H')
    (fun C d M' => ∀ dd v H', Core K S M' H' → Step M M' H H' → (¬ av S M' dd ∧ H' dd = some (.xd [(("what" : Str), v)])) → Rep K (av S M') H' v d → E (.ref C) (some dd) H')
structure Def (P : Program) (w : World) (K : PySem.W.Frag) (mg : Str → Option Value) (base : Heap) (x : Str) (f : Addr) (fd : FuncData) (ps : List Str) (k : Nat) (pf : PF) : Prop where
  mgx : mg x = some (.ref f)
  kp : PySem.W.keepIn K (.ref f) = true
  binds : Binds K fd ps []
  ok : FnOk P w K mg base (L2.CX P w) k f fd ps (liftF K pf)
section
variable {P : Program} {w : World} {K : PySem.W.Frag} {mg : Str → Option Value} {base : Heap}
theorem Def.mono {x : Str} {f : Addr} {fd : FuncData} {ps : List Str} {k k' : Nat} {pf : PF} (F : Def P w K mg base x f fd ps k pf) (h : k ≤ k') : Def P w K mg base x f fd ps k' pf := ⟨F.mgx, F.kp, F.binds, F.ok.mono h⟩
/-- a def's body, read -/
theorem fn_mk {x qual : Str} {st : Stmt} {f : Addr} {fd : FuncData} {N ps : List Str} {k : Nat} {pf : PF} (F : Fun K x qual st f fd) (Sc : FnScope N ps (defScope st))
    (len : ∀ ds M R Z, pf ds M R Z → ds.length = ps.length)
    (body : ∀ ds M R Z, pf ds M R Z → WSs ⟨P, w, K, mg, base, N, defScope st, k, fun C d _ M' => Z C d M', fun _ => true, true, true, none⟩ (defBody st) { nx := fun _ M' => R .non M', rt := R } (ds.map some ++ List.replicate (N.length - ds.length) none) M) :
    FnOk P w K mg base (L2.CX P w) (k + 1) f fd ps (liftF K pf) := by
  refine F.okX Sc (fun vs H Q E h => ?_) (fun cdv A outer s H vs Q E hr h => ?_)
  · obtain ⟨S, M, ds, c1, r1, h⟩ := h
    rw [r1.length]
    exact len _ _ _ _ h
  · obtain ⟨S, M, ds, c1, r1, h⟩ := h
    refine ⟨_, wSs.pss, ?_⟩
    refine (body ds M _ _ h).run _ S _ H ⟨⟨rfl, rfl, rfl, rfl, rfl, rfl, rfl, fun _ => hr, fun _ => rfl, Sc.nd, fun _ _ _ => rfl, ?po, fun _ => ⟨rfl, rfl⟩, L2H.roomH_of hr, fun _ _ _ z => (by cases z)⟩, c1, ?sl, ?ld⟩ _ ⟨fun σ' H' Γ' M' c' sl' st' q => q .non H' c' st' .non, fun v H' d M' c' st' r' q => q v H' c' st' r', fun _ _ _ _ _ _ _ q => q.elim, fun _ _ _ _ _ _ _ q => q.elim⟩
    case po => exact passes_of rfl
    case sl =>
      have hl := r1.length
      refine ⟨by simp [L2.start, hl], fun i d hd => ?_⟩
      by_cases hi : i < ds.length
      · rw [List.getElem?_append_left (by simpa using hi), List.getElem?_map] at hd
        cases e : ds[i]? with
        | none => rw [e] at hd; cases hd
        | some d' =>
          rw [e] at hd
          have := Option.some.inj (Option.some.inj hd)
          subst this
          obtain ⟨v, hv, r⟩ := r1.get e
          refine ⟨v, ?_, r⟩
          unfold L2.start
          rw [List.getElem?_append_left (by simpa [hl] using hi), List.getElem?_map, hv]
          rfl
      · rw [List.getElem?_append_right (by simpa using Nat.le_of_not_lt hi)] at hd
        have := List.mem_of_getElem? hd
        have := List.eq_of_mem_replicate this
        cases this
    case ld =>
      refine ⟨fun cls d _ H => E cls d H, takes_of rfl rfl rfl rfl, fun C dd v d σ' H' Γ' M' c' sl' st' hd r z => z dd v H' c' st' hd r⟩
end
section
variable {K : PySem.W.Frag} {S : AS} {kept lent M2 : Cells} {H H' : Hp}
theorem av_app {b : Addr} : av (av S kept) lent b ↔ av S (kept ++ lent) b := by
  unfold av dom
  rw [List.map_append, List.mem_append]
  constructor
  · rintro ((h | h) | h)
    · exact .inl h
    · exact .inr (.inl h)
    · exact .inr (.inr h)
  · rintro (h | h | h)
    · exact .inl (.inl h)
    · exact .inl (.inr h)
    · exact .inr h
theorem To.of_iff {A A' : AS} (h : ∀ b, A' b → A b) : To A A' H H := ⟨fun _ _ _ e => e, fun b z => .inl (h b z)⟩
theorem Core.lend (cr : Core K S (kept ++ lent) H) : Core K (av S kept) lent H := by
  have nd : ((dom kept) ++ (dom lent)).Nodup := by
    have := cr.nod
    unfold dom at this ⊢
    rw [List.map_append] at this
    exact this
  obtain ⟨n1, n2, n3⟩ := List.nodup_append.mp nd
  refine ⟨fun b z => ?_, n2, fun a ha z => ?_, fun p hp => CellAt.to (To.of_iff fun b z => av_app.mp z) (fun _ e => e) (cr.cells p (List.mem_append_right _ hp))⟩
  · rcases z with z | z
    · exact cr.known b z
    · obtain ⟨q, hq, e⟩ := List.mem_map.mp z
      have := (cr.cells q (List.mem_append_left _ hq)).ne
      rw [e] at this
      exact this
  · rcases z with z | z
    · refine cr.dis a ?_ z
      unfold dom
      rw [List.map_append]
      exact List.mem_append_right _ ha
    · exact n3 a z a ha rfl
theorem Core.back (cr : Core K S (kept ++ lent) H) (c2 : Core K (av S kept) M2 H') (st : PL.Step lent M2 H H') : Core K S (kept ++ M2) H' ∧ PL.Step (kept ++ lent) (kept ++ M2) H H' := by
  have nd : ((dom kept) ++ (dom lent)).Nodup := by
    have := cr.nod
    unfold dom at this ⊢
    rw [List.map_append] at this
    exact this
  obtain ⟨n1, n2, n3⟩ := List.nodup_append.mp nd
  have da : ∀ A B : Cells, dom (A ++ B) = dom A ++ dom B := fun A B => by unfold dom; rw [List.map_append]
  have st' : PL.Step (kept ++ lent) (kept ++ M2) H H' := by
    refine ⟨fun b o n h => st.keep b o (fun z => n (by rw [da]; exact List.mem_append_right _ z)) h, st.grow, fun b hb => ?_⟩
    rw [da] at hb ⊢
    rcases List.mem_append.mp hb with z | z
    · exact .inl (List.mem_append_left _ z)
    · rcases st.fresh b z with q | q
      · exact .inl (List.mem_append_right _ q)
      · exact .inr q
  refine ⟨⟨fun b z => st.grow b (cr.known b z), ?_, fun a ha z => ?_, fun p hp => ?_⟩, st'⟩
  · rw [da]
    refine List.nodup_append.mpr ⟨n1, c2.nod, fun a h1 b h2 e => ?_⟩
    subst e
    exact c2.dis a h2 (.inr h1)
  · rw [da] at ha
    rcases List.mem_append.mp ha with q | q
    · exact cr.dis a (by rw [da]; exact List.mem_append_left _ q) z
    · exact c2.dis a q (.inl z)
  · rcases List.mem_append.mp hp with q | q
    · refine CellAt.to st'.to (fun o e => st.keep _ o (fun z => ?_) e) (cr.cells p (List.mem_append_left _ q))
      exact n3 p.1 (List.mem_map.mpr ⟨p, q, rfl⟩) p.1 z rfl
    · exact CellAt.to (To.of_iff fun b z => av_app.mpr z) (fun _ e => e) (c2.cells p q)
end
section
variable {c : Ctx} {X : Cx} {S : AS} {Γ Γ' : Gam} {M M' : Cells} {σ σ' : L2.St} {H H' : Hp} {a b e tg : Expr} {es tgs : List Expr} {pos pos' : Pos} {Q : D → Cells → Prop} {R : Bool → Cells → Prop} {x : Str} {E : PEnds}
/-- what a callee wants, from what the caller has -/
def Callee (c : Ctx) (pf : PF) (Γ : Gam) (ds : List D) (M : Cells) (Q : D → Cells → Prop) : Prop :=
  ∃ kept lent, M = kept ++ lent ∧ ∀ (R : D → Cells → Prop) (Z : Addr → D → Cells → Prop), (∀ d M2, Q d (kept ++ M2) → R d M2) → (∀ C d M2, c.Z C d Γ (kept ++ M2) → Z C d M2) → pf ds lent R Z
theorem Callee.lift {pf : PF} {ds : List D} {vs : List V} (h : Callee c pf Γ ds M Q) (at_ : At c X S Γ M σ H) (r : Reps c.K (av S M) H vs ds) {W : WX}
    (hW : ∀ C dd v d σ' H' Γ' M', Core c.K S M' H' → Slots c.K (av S M') H' Γ' σ' → Step M M' H H' → (¬ av S M' dd ∧ H' dd = some (.xd [(("what" : Str), v)])) → Rep c.K (av S M') H' v d → c.Z C d Γ' M' → W (.ref C) (some dd) σ' H')
    {Q' : VK} (hq : ∀ v H' d M', Core c.K S M' H' → Step M M' H H' → Rep c.K (av S M') H' v d → Q d M' → Q' v H') : liftF c.K pf vs H Q' (fun cls d H' => W cls d σ H') := by
  obtain ⟨kept, lent, eM, q⟩ := h
  subst eM
  refine ⟨av S kept, lent, ds, at_.core.lend, r.to (To.of_iff fun b z => av_app.mp z), q _ _ (fun d M2 hd v H2 c2 st r2 => ?_) (fun C d M2 hz dd v H2 c2 st hd r2 => ?_)⟩
  · obtain ⟨c3, st3⟩ := at_.core.back c2 st
    exact hq v H2 d _ c3 st3 (r2.to (To.of_iff fun b z => av_app.mpr z)) hd
  · obtain ⟨c3, st3⟩ := at_.core.back c2 st
    exact hW C dd v d σ H2 Γ _ c3 (at_.slots.to st3.to) st3 ⟨fun z => hd.1 (av_app.mpr z), hd.2⟩ (r2.to (To.of_iff fun b z => av_app.mpr z)) hz
/-- f(e, ..) -/
theorem we_call {p : Pos} {f : Addr} {fd : FuncData} {ps : List Str} {k : Nat} {pf : PF} (F : Def c.P c.w c.K c.mg c.base x f fd ps k pf) (hk : k ≤ c.k) (hg : GlC c.sc x)
    (h : WA c (e :: es) Γ M fun ds M1 => Callee c pf Γ ds M1 Q)
    (hdb : (x == ("__debug__" : Str)) = false := by decide) (he : ∀ env, starEach (e :: es) env = (false, eval e env) :: starEach es env := by intro _; rfl) (hpl : ∀ env, (backTo pos (starEach es env)).any (·.1) = false := by intro _; rfl) (hcm : c.calm = true := by first | rfl | assumption) :
    WE c (.Call (.Name x p) (e :: es) [] pos) Γ M Q := .mk fun X S σ H at_ Q' hq => by
  obtain ⟨W, tk, hW⟩ := at_.land
  have eP := at_.is.prog; have ew := at_.is.w; have eK := at_.is.K; have emg := at_.is.mg; have eb := at_.is.base
  refine PE.to (pe_callS (CX := L2.CX X.prog X.w) (fd := fd) (ps := ps) (k := k) (sp := liftF c.K pf) (E := L2.WE W) (f := f) (by rw [eP, ew, eK, emg, eb]; exact F.ok) ((at_.is.room hcm).mono hk) (at_.is.gl hg) (at_.is.mgN F.mgx) (by rw [eK]; exact F.kp) (by rw [eK]; exact F.binds) (fun σ => passAt tk σ) wA.pa hdb (he _) (hpl _)) ?_
  refine h.run X S σ H at_ _ fun vs H1 ds M1 c1 s1 r1 q => ?_
  exact q.lift (at_.step c1 s1) r1 (fun C dd v d σ' H' Γ' M' c2 sl2 st2 => hW C dd v d σ' H' Γ' M' c2 sl2 (s1.trans st2)) fun v H' d M' c2 st2 => hq v H' d M' c2 (s1.trans st2)
end

/-! ### keywords -/
def wK (X : Cx) (kws : List Keyword) : TA := fun σ H Q => ∀ pos pins s, Inv X pins σ H s → wpAny (model X.prog X.w) X.A (evalAll ((backToKw pos (keywordEach kws X.env)).map (·.2))) (AP X pins σ Q) X.xe s
theorem wK.pk {X : Cx} {kws : List Keyword} : PK X kws (wK X kws) := ⟨fun pos pins s σ H Q I h => h pos pins s I⟩
theorem PK.to {X : Cx} {kws : List Keyword} {t : TA} {σ H Q} (h : PK X kws t) (q : t σ H Q) : wK X kws σ H Q := fun pos pins s I => h.run pos pins s σ H Q I q
structure WK (c : Ctx) (kws : List Keyword) (Γ : Gam) (M : Cells) (Q : List D → Cells → Prop) : Prop where
  run : ∀ X S σ H, At c X S Γ M σ H → ∀ Q' : List V → Hp → Prop, (∀ vs H' ds M', Core c.K S M' H' → Step M M' H H' → Reps c.K (av S M') H' vs ds → Q ds M' → Q' vs H') → wK X kws σ H Q'
def pick {α : Type} (is : List Nat) (l : List α) : List α := is.filterMap fun i => l[i]?
theorem Reps.pick {K : PySem.W.Frag} {A : AS} {H : Hp} {vs : List V} {ds : List D} (r : Reps K A H vs ds) : ∀ is : List Nat, Reps K A H (PL.pick is vs) (PL.pick is ds)
  | [] => .nil
  | i :: is => by
    unfold PL.pick
    cases e : ds[i]? with
    | none =>
      have e2 : vs[i]? = none := by
        rw [List.getElem?_eq_none_iff] at e ⊢
        rw [r.length]; exact e
      rw [List.filterMap_cons, List.filterMap_cons, e, e2]
      exact r.pick is
    | some d =>
      obtain ⟨v, hv, rv⟩ := r.get e
      rw [List.filterMap_cons, List.filterMap_cons, e, hv]
      exact .cons rv (r.pick is)
section
variable {c : Ctx} {X : Cx} {S : AS} {Γ Γ' : Gam} {M M' : Cells} {σ σ' : L2.St} {H H' : Hp} {a b e tg : Expr} {es tgs : List Expr} {pos pos' kpos : Pos} {Q : D → Cells → Prop} {R : Bool → Cells → Prop} {x : Str} {E : PEnds} {kws : List Keyword} {nm : Option Str}
theorem wk_nil {R : List D → Cells → Prop} (q : R [] M) : WK c [] Γ M R := .mk fun X S σ H at_ Q' hq => PK.to pk_nil (hq _ _ _ _ at_.core .refl .nil q)
theorem wk_cons {R : List D → Cells → Prop} (h : WE c e Γ M fun x M1 => WK c kws Γ M1 fun xs M2 => R (x :: xs) M2) : WK c (⟨nm, e, kpos⟩ :: kws) Γ M R := .mk fun X S σ H at_ Q' hq =>
  PK.to (pk_cons wE.pe wK.pk) (h.run X S σ H at_ _ fun v1 H1 d1 M1 c1 s1 r1 q1 => q1.run X S σ H1 (at_.step c1 s1) _ fun vs H2 ds M2 c2 s2 r2 q2 => hq _ _ _ _ c2 (s1.trans s2) (.cons (r1.to s2.to) r2) q2)
/-- f(k = v, ..), by names alone: is puts the keywords' values in the parameters' order -/
structure KwB (K : PySem.W.Frag) (fd : FuncData) (ps ks : List Str) (is : List Nat) : Prop where
  to : ∀ (s : Shared) (ws : List Value), K.In s.heap → ws.length = ks.length → BindsTo s fd ⟨[], ks.zip ws⟩ (ps.zip (pick is ws))
theorem we_callK0 {p : Pos} {f : Addr} {fd : FuncData} {ps ks : List Str} {is : List Nat} {k : Nat} {pf : PF} (F : Def c.P c.w c.K c.mg c.base x f fd ps k pf) (B : KwB c.K fd ps ks is) (hk : k ≤ c.k) (hg : GlC c.sc x) (hl : kws.length = ks.length)
    (h : WK c kws Γ M fun ds M1 => ds.length = ks.length ∧ Callee c pf Γ (pick is ds) M1 Q)
    (hall : ∀ env, (backToKw pos (keywordEach kws env)).all (·.1.isSome) = true := by intro _; rfl) (hks : ∀ env, (backToKw pos (keywordEach kws env)).filterMap (·.1) = ks := by intro _; rfl)
    (hpl : ∀ env, ((backTo pos (starEach [] env)).any (·.1) || (backToKw pos (keywordEach kws env)).any (·.1.isNone)) = false := by intro _; rfl)
    (hdb : (x == ("__debug__" : Str)) = false := by decide) (hcm : c.calm = true := by first | rfl | assumption) :
    WE c (.Call (.Name x p) [] kws pos) Γ M Q := .mk fun X S σ H at_ Q' hq => by
  obtain ⟨W, tk, hW⟩ := at_.land
  have eP := at_.is.prog; have ew := at_.is.w; have eK := at_.is.K; have emg := at_.is.mg; have eb := at_.is.base
  have G : FnOk X.prog X.w X.K X.mg X.base (L2.CX X.prog X.w) k f fd ps (liftF c.K pf) := by rw [eP, ew, eK, emg, eb]; exact F.ok
  intro pins s I
  refine wpAny_Call_Name_kw (ld_glob I (at_.is.gl hg) (at_.is.mgN F.mgx) ?_ hdb)
  refine PySem.W.callWith_KW0 (h₀ := X.base) I.ok.mod.kin (by rw [eK]; exact F.kp) (hall _) ?_ (hpl _)
  refine thn ((h.run X S σ H at_ (fun vs H1 => vs.length = ks.length ∧ liftF c.K pf (pick is vs) H1 Q' (fun cls d H' => W cls d σ H')) fun vs H1 ds M1 c1 s1 r1 ⟨l1, q⟩ => ⟨by rw [r1.length, l1], ?_⟩) pos pins s I) fun ws s2 ⟨zs, H2, I2, rz, l1, q2⟩ => ⟨I2.kIn, ?_⟩
  · exact q.lift (at_.step c1 s1) (r1.pick is) (fun C dd v d σ' H' Γ' M' c2 sl2 st2 => hW C dd v d σ' H' Γ' M' c2 sl2 (s1.trans st2)) fun v H' d M' c2 st2 => hq v H' d M' c2 (s1.trans st2)
  · rw [hks]
    have rp : Vals (pick is zs) (pick is ws) := by
      have : ∀ is : List Nat, Vals (pick is zs) (pick is ws) := by
        intro is
        induction is with
        | nil => exact .nil
        | cons i is ih =>
          unfold pick at ih ⊢
          cases e : zs[i]? with
          | none =>
            have e2 := rz.none_of e
            rw [List.filterMap_cons, List.filterMap_cons, e, e2]
            exact ih
          | some v =>
            obtain ⟨u, hu, ru⟩ := rz.get e
            rw [List.filterMap_cons, List.filterMap_cons, e, hu]
            exact .cons ru ih
      exact this is
    refine wpAny_call (codeAny_mono (G.run X.A X.stack s2 H2 ⟨[], ks.zip ws⟩ (pick is ws) (pick is zs) Q' (fun cls d H' => W cls d σ H') ((at_.is.room hcm).mono hk) I2.env0 (B.to s2 ws (by rw [← eK]; exact I2.kIn) (by rw [← rz.length, l1])) rp q2) fun r s' hq' => ?_)
    cases r with
    | error e => exact passAt tk σ _ _ _ _ _ I2 hq'
    | ok fl =>
      cases fl with
      | ret u => exact I2.after hq'
      | next => exact False.elim hq'
      | brk => exact False.elim hq'
      | cont => exact False.elim hq'
theorem we_powK {i j v : Int} {ni nj : Nat} {p1 p2 : Pos} (h1 : CPow i j) (hv : i ^ j.toNat = v) (q : Q (.int v) M) : WE c (.BinOp (.Constant (.int i) ni p1) .Pow (.Constant (.int j) nj p2) pos) Γ M Q :=
  we_pow (we_int (we_int ⟨_, _, rfl, rfl, h1, by rw [hv]; exact q⟩))
end
end PL
namespace PL
open PySem PySem.Spec PyProof.Rows L2
/-! ### sizes -/
/-- no more than three hundred figures -/
def Sm (i : Int) : Prop := -1000000000000000000000000000000000000000000000000000000000000000000000000000000000000000000000000000000000000000000000000000000000000000000000000000000000000000000000000000000000000000000000000000000000000000000000000000000000000000000000000000000000000000000000000000000000000000000000000000000000000 < i ∧ i < 1000000000000000000000000000000000000000000000000000000000000000000000000000000000000000000000000000000000000000000000000000000000000000000000000000000000000000000000000000000000000000000000000000000000000000000000000000000000000000000000000000000000000000000000000000000000000000000000000000000000000
theorem Sm.nat {i : Int} (h : Sm i) : i.natAbs < 2 ^ 1000 := by
  obtain ⟨h1, h2⟩ := h
  have e : 1000000000000000000000000000000000000000000000000000000000000000000000000000000000000000000000000000000000000000000000000000000000000000000000000000000000000000000000000000000000000000000000000000000000000000000000000000000000000000000000000000000000000000000000000000000000000000000000000000000000000 ≤ 2 ^ 1000 := by decide +kernel
  omega
theorem cmulB {i j : Int} (h1 : Sm i) (h2 : Sm j) : CMulW i j := wide_mul h1.nat h2.nat (by decide) (by decide) (by decide)
theorem cdivB {i j : Int} (h1 : 0 < j) (h2 : Sm j) : CDivW i j := wide_div h1 h2.nat (by decide) (by decide)
theorem mulB {a b A B : Int} (ha : -A ≤ a ∧ a ≤ A) (hb : -B ≤ b ∧ b ≤ B) : -(A * B) ≤ a * b ∧ a * b ≤ A * B := by
  have h1 : a.natAbs ≤ A.natAbs := by omega
  have h2 : b.natAbs ≤ B.natAbs := by omega
  have h3 : a.natAbs * b.natAbs ≤ A.natAbs * B.natAbs := Nat.mul_le_mul h1 h2
  rw [← Int.natAbs_mul, ← Int.natAbs_mul] at h3
  have h4 : 0 ≤ A * B := Int.mul_nonneg (by omega) (by omega)
  omega
theorem len_app {α : Type} (l : List α) (x : α) : (l ++ [x]).length = l.length + 1 := by simp
/-- small lists -/
theorem lenB {n : Nat} (h : n < 10000000) : n < sizeLine := Nat.lt_trans h (by decide)
theorem lenB' {n : Nat} (h : n < 10000000) : n ≤ sizeLine := Nat.le_of_lt (lenB h)
theorem br_decT {p : Prop} [Decidable p] {A B : Prop} (h : p) (a : A) : Br (decide p) A B := ⟨fun _ => a, fun z => absurd h (of_decide_eq_false z)⟩
theorem br_decF {p : Prop} [Decidable p] {A B : Prop} (h : ¬ p) (b : B) : Br (decide p) A B := ⟨fun z => absurd (of_decide_eq_true z) h, fun _ => b⟩
theorem br_nd {p : Prop} [Decidable p] {A B : Prop} (h1 : ¬ p → A) (h2 : p → B) : Br (!decide p) A B := br_not (br_dec h2 h1)
theorem br_nk {k : Bool} {A B : Prop} (h1 : k = false → A) (h2 : k = true → B) : Br (!k) A B := br_not ⟨h2, h1⟩
theorem br_nkF {k : Bool} {A B : Prop} (h : k = true) (b : B) : Br (!k) A B := by
  subst h
  exact ⟨fun z => (by cases z), fun _ => b⟩
theorem br_kT {k : Bool} {A B : Prop} (h : k = true) (a : A) : Br k A B := by
  subst h
  exact br_t a
theorem br_kF {k : Bool} {A B : Prop} (h : k = false) (b : B) : Br k A B := by
  subst h
  exact br_f b
/-- how keywords alone bind -/
theorem kwb_of {K : PySem.W.Frag} {x qual : Str} {st : Stmt} {f : Addr} {fd : FuncData} {ps ks : List Str} {is : List Nat} (F : Fun K x qual st f fd)
    (h : ∀ (kV doc pm : Value) (an : Option Addr) (cdv ct : Value) (ws : List Value), ws.length = ks.length → bindArgs (PySem.W.fnOf x qual (defArgs st) (defBody st) (defScope st) .none kV doc pm an cdv ct) ⟨[], ks.zip ws⟩ = pure (ps.zip (pick is ws))) : KwB K fd ps ks is := by
  obtain ⟨oc, od, kV, doc, pm, an, cdv, ct, osl, rfl, lk, hcd⟩ := F.ex
  exact ⟨fun s ws _ hl => .of_eq (h kV doc pm an cdv ct ws hl)⟩
section
variable {c : Ctx} {Γ : Gam} {M : Cells} {a b : Expr} {pos : Pos} {Q : D → Cells → Prop}
theorem atI_some {α : Type} {xs : List α} {i : Int} (h : 0 ≤ i ∧ i < xs.length) : ∃ j, ∃ hj : j < xs.length, i = (j : Int) ∧ atI xs i = some xs[j] := by
  obtain ⟨j, rfl⟩ : ∃ j : Nat, i = (j : Int) := ⟨i.toNat, by omega⟩
  refine ⟨j, by omega, rfl, ?_⟩
  exact atI_nat (List.getElem?_eq_getElem (by omega))
/-- an item of a written tuple of ints at some place in bounds, by what is so of each -/
theorem we_ixI (P : Int → Prop) (h : WE c a Γ M fun x M1 => WE c b Γ M1 fun y M2 => ∃ (ns : List Int) (i : Int), x = .tup (ns.map D.int) ∧ y = .int i ∧ (0 ≤ i ∧ i < ns.length) ∧ (∀ v ∈ ns, P v) ∧ ∀ v, P v → Q (.int v) M2) (hs : PlainIx b := by exact fun _ _ => rfl) :
    WE c (.Subscript a b pos) Γ M Q :=
  we_ix (.mk fun X S σ H at_ Q' hq => h.run X S σ H at_ Q' fun v H' d M' c1 s1 r1 q => hq v H' d M' c1 s1 r1 (.mk fun X S σ H at_ Q' hq => q.run X S σ H at_ Q' fun v H' d M' c1 s1 r1 ⟨ns, i, e1, e2, hi, hP, q⟩ => hq v H' d M' c1 s1 r1 (by
    obtain ⟨j, hj, _, e⟩ := atI_some (xs := ns.map D.int) (by rw [List.length_map]; exact hi)
    refine ⟨ns.map D.int, i, .int ns[j], .inl e1, e2, by rw [e]; simp, q _ (hP _ (List.getElem_mem _))⟩))) hs
end
theorem callee0 {c : Ctx} {pf : PF} {Γ : Gam} {ds : List D} {M : Cells} {Q : D → Cells → Prop} (h : ∀ (R : D → Cells → Prop) (Z : Addr → D → Cells → Prop), (∀ d M2, Q d M2 → R d M2) → (∀ C d M2, c.Z C d Γ M2 → Z C d M2) → pf ds M R Z) : Callee c pf Γ ds M Q := ⟨[], M, rfl, h⟩
end PL
namespace PL
open PySem PySem.Spec PyProof.Rows L2

/-! ### comprehensions -/
def wipeG (Γ : Gam) : List Nat → Gam
  | [] => Γ
  | v :: vs => (wipeG Γ vs).set v none
def setG (Γ : Gam) : List Nat → List D → Gam
  | i :: is, d :: ds => setG (Γ.set i (some d)) is ds
  | _, _ => Γ
theorem Slots.wipe2 {K : PySem.W.Frag} {A : AS} {H : Hp} {Γ : Gam} {σ : L2.St} (s : Slots K A H Γ σ) (i : Nat) : Slots K A H (Γ.set i none) (σ.set i none) := by
  refine ⟨by simp [s.len], fun j e h => ?_⟩
  by_cases hij : i = j
  · subst hij
    by_cases hi : i < Γ.length
    · rw [List.getElem?_set_self hi] at h
      cases h
    · rw [List.getElem?_eq_none (by simp; omega)] at h
      cases h
  · rw [List.getElem?_set_ne hij] at h
    obtain ⟨v, hv, r⟩ := s.at_ j e h
    exact ⟨v, by rw [List.getElem?_set_ne hij]; exact hv, r⟩
theorem Slots.wipes {K : PySem.W.Frag} {A : AS} {H : Hp} {Γ : Gam} {σ : L2.St} (s : Slots K A H Γ σ) : ∀ vs : List Nat, Slots K A H (wipeG Γ vs) (L2.wipe σ vs)
  | [] => s
  | v :: vs => (s.wipes vs).wipe2 v
theorem wipe_get {σ : L2.St} {j : Nat} : ∀ {vs : List Nat}, j ∈ vs → (wipe σ vs)[j]? = if j < σ.length then some none else none
  | v :: vs, h => by
    unfold wipe
    by_cases e : v = j
    · subst e
      split
      · rename_i hl
        rw [List.getElem?_set_self (by rw [wipe_length]; exact hl)]
      · rename_i hl
        rw [List.getElem?_eq_none (by rw [List.length_set, wipe_length]; omega)]
    · rw [List.getElem?_set_ne e]
      exact wipe_get ((List.mem_cons.mp h).resolve_left fun z => e z.symm)
theorem wipe_out' {σ : L2.St} {i : Nat} : ∀ {vs : List Nat}, i ∉ vs → (wipe σ vs)[i]? = σ[i]?
  | [], _ => rfl
  | v :: vs, h => by
    unfold wipe
    rw [List.getElem?_set_ne (fun e => h (by rw [e]; exact List.mem_cons_self))]
    exact wipe_out' fun z => h (List.mem_cons_of_mem _ z)
theorem wipe_same {σ σ2 : L2.St} {vs : List Nat} (hl : σ2.length = σ.length) (h : ∀ j, j ∉ vs → σ2[j]? = (wipe σ vs)[j]?) : wipe σ2 vs = wipe σ vs := by
  apply List.ext_getElem?
  intro j
  by_cases hj : j ∈ vs
  · rw [wipe_get hj, wipe_get hj, hl]
  · rw [wipe_out' hj, h j hj]
/-- targets of names: which slots get what -/
inductive Tgt (c : Ctx) : Expr → D → List Nat → List D → Prop
  | name {x : Str} {i : Nat} {pos : Pos} {d : D} : c.N[i]? = some x → LocC c x → Tgt c (.Name x pos) d [i] [d]
mutual
inductive TgtT (c : Ctx) : Expr → D → List Nat → List D → Prop
  | name {x : Str} {i : Nat} {pos : Pos} {d : D} : c.N[i]? = some x → LocC c x → TgtT c (.Name x pos) d [i] [d]
  | tup {tgs : List Expr} {k : Nat} {pos : Pos} {ds us : List D} {is : List Nat} : tgs.length = ds.length → (∀ env, (assignEach tgs env).length = tgs.length) → (∀ env, (assignEach tgs env).findIdx? (·.1) = none) → TgtS c tgs ds is us → TgtT c (.Tuple tgs k pos) (.tup ds) is us
inductive TgtS (c : Ctx) : List Expr → List D → List Nat → List D → Prop
  | nil : TgtS c [] [] [] []
  | cons {tg : Expr} {tgs : List Expr} {d : D} {ds u1 u2 : List D} {i1 i2 : List Nat} : (∀ env, (assignEach (tg :: tgs) env).map (·.2) = assign tg env :: (assignEach tgs env).map (·.2)) → TgtT c tg d i1 u1 → TgtS c tgs ds i2 u2 → TgtS c (tg :: tgs) (d :: ds) (i1 ++ i2) (u1 ++ u2)
end
theorem setG_app {Γ : Gam} : ∀ {i1 : List Nat} {u1 : List D} {i2 : List Nat} {u2 : List D}, i1.length = u1.length → setG Γ (i1 ++ i2) (u1 ++ u2) = setG (setG Γ i1 u1) i2 u2
  | [], [], _, _, _ => rfl
  | i :: i1, d :: u1, i2, u2, h => by
    show setG (Γ.set i (some d)) (i1 ++ i2) (u1 ++ u2) = setG (setG (Γ.set i (some d)) i1 u1) i2 u2
    exact setG_app (by simpa using h)
mutual
theorem TgtT.len {c : Ctx} : ∀ {tg : Expr} {d : D} {is : List Nat} {us : List D}, TgtT c tg d is us → is.length = us.length
  | _, _, _, _, .name _ _ => rfl
  | _, _, _, _, .tup _ _ _ h => h.len
theorem TgtS.len {c : Ctx} : ∀ {tg : List Expr} {d : List D} {is : List Nat} {us : List D}, TgtS c tg d is us → is.length = us.length
  | _, _, _, _, .nil => rfl
  | _, _, _, _, .cons _ h1 h2 => by rw [List.length_append, List.length_append, h1.len, h2.len]
end
mutual
theorem TgtT.run {c : Ctx} {X : Cx} (is_ : c.Is X) (hcm : c.calm = true) {A : AS} {H : Hp} : ∀ {tg : Expr} {d : D} {is : List Nat} {us : List D}, TgtT c tg d is us → ∀ {Γ : Gam} {σ : L2.St} {v : V} {Q : L2.St → Hp → Prop}, Slots c.K A H Γ σ → Rep c.K A H v d →
    (∀ σ', Slots c.K A H (setG Γ is us) σ' → σ'.length = σ.length → (∀ j, j ∉ is → σ'[j]? = σ[j]?) → Q σ' H) → wG X tg v σ H Q
  | _, _, _, _, .name hN hl, Γ, σ, v, Q, sl, r, h =>
    PG.to (pg_name is_.nd (is_.nm hN) (is_.loc hl) (is_.st hl)) (h _ (sl.set r) (by simp) fun j hj => by
      rw [List.getElem?_set_ne (fun e => hj (by rw [e]; exact List.mem_singleton.mpr rfl))])
  | _, _, _, _, .tup hl hn hst hs, Γ, σ, v, Q, sl, r, h => by
    cases r with
    | tup h1 h2 =>
      refine PG.to (L2.pg_tup (is_.calm hcm) wGs.pgs (hn _) (hst _)) ⟨_, _, rfl, ?_, by rw [h2.length, hl], hs.run is_ hcm sl h2 h⟩
      rw [is_.K]
      exact h1.sq
theorem TgtS.run {c : Ctx} {X : Cx} (is_ : c.Is X) (hcm : c.calm = true) {A : AS} {H : Hp} : ∀ {tgs : List Expr} {ds : List D} {is : List Nat} {us : List D}, TgtS c tgs ds is us → ∀ {Γ : Gam} {σ : L2.St} {vs : List V} {Q : L2.St → Hp → Prop}, Slots c.K A H Γ σ → Reps c.K A H vs ds →
    (∀ σ', Slots c.K A H (setG Γ is us) σ' → σ'.length = σ.length → (∀ j, j ∉ is → σ'[j]? = σ[j]?) → Q σ' H) → wGs X tgs vs σ H Q
  | _, _, _, _, .nil, Γ, σ, vs, Q, sl, r, h => by
    cases r
    exact PGs.to L2.pgs_nil ⟨rfl, h _ sl rfl fun _ _ => rfl⟩
  | _, _, _, _, .cons (i1 := i1) (i2 := i2) (u1 := u1) (u2 := u2) hs h1 h2, Γ, σ, vs, Q, sl, r, h => by
    cases r with
    | cons r rs =>
      exact PGs.to (L2.pgs_cons wG.pg wGs.pgs (hs _)) ⟨_, _, rfl, h1.run is_ hcm sl r fun σ1 sl1 l1 k1 => h2.run is_ hcm sl1 rs fun σ2 sl2 l2 k2 => h σ2 (by rw [setG_app h1.len]; exact sl2) (l2.trans l1) fun j hj => by
        rw [k2 j fun z => hj (List.mem_append_right _ z), k1 j fun z => hj (List.mem_append_left _ z)]⟩
end

/-! ### a clause's tests -/
def wTs (X : Cx) (ifs : List Expr) : TT := fun σ H Q => ∀ pins s, Inv X pins σ H s →
  wpAny (model X.prog X.w) X.A (forIn ifs true fun c r => if r = true then do let ok ← isTrue c X.env (eval c X.env); pure (ForInStep.yield ok) else pure (ForInStep.yield r)) (TP X pins σ Q) X.xe s
structure WIs (c : Ctx) (ifs : List Expr) (Γ : Gam) (M : Cells) (Q : Bool → Cells → Prop) : Prop where
  run : ∀ X S σ H, At c X S Γ M σ H → ∀ Q' : Bool → Hp → Prop, (∀ b H' M', Core c.K S M' H' → Step M M' H H' → Q b M' → Q' b H') → wTs X ifs σ H Q'
section
variable {c : Ctx} {X : Cx} {S : AS} {Γ Γ' : Gam} {M M' : Cells} {σ σ' : L2.St} {H H' : Hp} {a b e elt tg iter : Expr} {es ifs : List Expr} {pos pos' : Pos} {Q : D → Cells → Prop} {R : Bool → Cells → Prop} {x : Str} {E : PEnds} {scope : Scope} {own : List (Str × Nat)}
theorem wis_nil {R : Bool → Cells → Prop} (q : R true M) : WIs c [] Γ M R := .mk fun X S σ H at_ Q' hq pins s I => pts_nil.run pins s σ H Q' I (hq _ _ _ at_.core .refl q)
theorem wis_one {R : Bool → Cells → Prop} (h : WT c e Γ M R) : WIs c [e] Γ M R := .mk fun X S σ H at_ Q' hq pins s I => (pts_one wT.pt).run pins s σ H Q' I (h.run X S σ H at_ Q' hq)
/-- the context of a comprehension's block -/
def Ctx.blk (c : Ctx) (scope : Scope) : Ctx := ⟨c.P, c.w, c.K, c.mg, c.base, c.N, relS scope c.sc, c.k, fun _ _ _ _ => False, fun x => scope.names.lookup x == some .cell, false, c.calm, none⟩
theorem Ctx.Is.blk (i : c.Is X) (s : Shared) (H0 : Hp) (C : Addr) (cl : List (Str × Addr)) (fp : List Addr) : (c.blk scope).Is (X.blk s H0 scope (compEnvC scope cl C X.env) fp) := by
  refine ⟨i.prog, i.w, i.K, i.mg, i.base, i.N, ?_, i.room, i.calm, i.nd, fun x _ h => h, PySem.PassesOwn.never, fun z => (by cases z), i.roomH, fun _ _ _ z => (by cases z)⟩
  show relS scope X.env.scope = relS scope c.sc
  rw [i.sc]
theorem land_blk (s : Shared) (H0 : Hp) (C : Addr) (cl : List (Str × Addr)) (fp : List Addr) : Land (c.blk scope) (X.blk s H0 scope (compEnvC scope cl C X.env) fp) S M H :=
  ⟨fun _ _ _ _ => False, fun u s' ⟨_, _, _, _, _, _, _, _, _, _, _, _, _, _, _, _, w⟩ => w, fun _ _ _ _ _ _ _ _ _ _ _ _ _ z => z⟩
def gB (X : Cx) (scope : Scope) (tg : Expr) : TG := fun v σ H Q => ∀ (s : Shared) (H0 : Hp) (C : Addr) (cl : List (Str × Addr)) (fp : List Addr), wG (X.blk s H0 scope (compEnvC scope cl C X.env) fp) tg v σ H Q
def tB (X : Cx) (scope : Scope) (e : Expr) : TE := fun σ H Q => ∀ (s : Shared) (H0 : Hp) (C : Addr) (cl : List (Str × Addr)) (fp : List Addr), wE (X.blk s H0 scope (compEnvC scope cl C X.env) fp) e σ H Q
def ttB (X : Cx) (scope : Scope) (ifs : List Expr) : TT := fun σ H Q => ∀ (s : Shared) (H0 : Hp) (C : Addr) (cl : List (Str × Addr)) (fp : List Addr), wTs (X.blk s H0 scope (compEnvC scope cl C X.env) fp) ifs σ H Q
theorem gB.pg (s : Shared) (H0 : Hp) (C : Addr) (cl : List (Str × Addr)) (fp : List Addr) : PG (X.blk s H0 scope (compEnvC scope cl C X.env) fp) tg (gB X scope tg) := ⟨fun pins s1 σ H v u Q I r h => h s H0 C cl fp pins s1 u I r⟩
theorem tB.pe (s : Shared) (H0 : Hp) (C : Addr) (cl : List (Str × Addr)) (fp : List Addr) : PE (X.blk s H0 scope (compEnvC scope cl C X.env) fp) e (tB X scope e) := ⟨fun pins s1 σ H Q I h => h s H0 C cl fp pins s1 I⟩
theorem ttB.pts (s : Shared) (H0 : Hp) (C : Addr) (cl : List (Str × Addr)) (fp : List Addr) : PTs (X.blk s H0 scope (compEnvC scope cl C X.env) fp) ifs (ttB X scope ifs) := ⟨fun pins s1 σ H Q I h => h s H0 C cl fp pins s1 I⟩
/-- one turn -/
def Turn1 (c : Ctx) (scope : Scope) (vs : List Nat) (tg elt : Expr) (ifs : List Expr) (d : D) (Γ : Gam) (M : Cells) (N1 : D → Cells → Prop) (N0 : Cells → Prop) : Prop :=
  ∃ is us, TgtT (c.blk scope) tg d is us ∧ (is.all fun i => vs.contains i) = true ∧ WIs (c.blk scope) ifs (setG (wipeG Γ vs) is us) M fun k M3 => Br k (WE (c.blk scope) elt (setG (wipeG Γ vs) is us) M3 N1) (N0 M3)
theorem lc_turn {vs : List Nat} {D0 : Addr} {acc : List D} {M1 M2 : Cells} {H1 : Hp} {v : V} {d : D} {N1 : D → Cells → Prop} {N0 : Cells → Prop} {Nx : Hp → Prop} (is_ : c.Is X) (hcm : c.calm = true) (sl : Slots c.K (av S M1) H1 Γ σ)
    (cr : Core c.K S ((D0, .lst acc) :: M2) H) (st : Step M1 ((D0, .lst acc) :: M2) H1 H) (rv : Rep c.K (av S ((D0, .lst acc) :: M2)) H v d) (hz : acc.length < sizeLine)
    (h : Turn1 c scope vs tg elt ifs d Γ M2 N1 N0)
    (n1 : ∀ d M4 H', Core c.K S ((D0, .lst (acc ++ [d])) :: M4) H' → Step M1 ((D0, .lst (acc ++ [d])) :: M4) H1 H' → N1 d M4 → Nx H')
    (n0 : ∀ M4 H', Core c.K S ((D0, .lst acc) :: M4) H' → Step M1 ((D0, .lst acc) :: M4) H1 H' → N0 M4 → Nx H') :
    gB X scope tg v (wipe σ vs) H fun σ2 H2 => wipe σ2 vs = wipe σ vs ∧ ttB X scope ifs σ2 H2 fun b H3 =>
      if b = true then tB X scope elt σ2 H3 fun y H4 => ∃ acc, H4 D0 = some (.lst acc) ∧ acc.length < sizeLine ∧ Nx (upd H4 D0 (.lst (acc ++ [y]))) else Nx H3 := by
  obtain ⟨is, us, ht, hv, hi⟩ := h
  intro s H0 C cl fp
  have e1 : (D0, MO.lst acc) :: M2 = [(D0, MO.lst acc)] ++ M2 := rfl
  have cl2 : Core c.K (av S [(D0, .lst acc)]) M2 H := Core.lend (kept := [(D0, MO.lst acc)]) cr
  have toL : To (av S ((D0, .lst acc) :: M2)) (av (av S [(D0, .lst acc)]) M2) H H := To.of_iff fun b z => av_app.mp z
  have sl2 : Slots c.K (av (av S [(D0, .lst acc)]) M2) H (wipeG Γ vs) (wipe σ vs) := ((sl.wipes vs).to st.to).to toL
  refine ht.run (is_.blk s H0 C cl fp) hcm sl2 (rv.to toL) fun σ2 sl3 hl hk => ⟨?_, ?_⟩
  · refine wipe_same (by rw [hl, wipe_length]) fun j hj => hk j fun z => hj ?_
    exact List.contains_iff_mem.mp (List.all_eq_true.mp hv j z)
  · intro s2 H02 C2 cl3 fp2
    refine hi.run _ (av S [(D0, .lst acc)]) σ2 H ⟨is_.blk s2 H02 C2 cl3 fp2, cl2, sl3, land_blk s2 H02 C2 cl3 fp2⟩ _ fun k H3 M3 c3 s3 q => ?_
    obtain ⟨b3, bs3⟩ := Core.back (kept := [(D0, MO.lst acc)]) cr c3 s3
    cases k with
    | false =>
      simp only [Bool.false_eq_true, if_false]
      exact n0 M3 H3 b3 (st.trans bs3) (q.2 rfl)
    | true =>
      simp only [if_true]
      intro s4 H04 C4 cl4 fp4
      refine (q.1 rfl).run _ (av S [(D0, .lst acc)]) σ2 H3 ⟨is_.blk s4 H04 C4 cl4 fp4, c3, sl3.to s3.to, land_blk s4 H04 C4 cl4 fp4⟩ _ fun y H4 d4 M4 c4 s4' r4 q4 => ?_
      obtain ⟨b4, bs4⟩ := Core.back (kept := [(D0, MO.lst acc)]) b3 c4 s4'
      obtain ⟨o, ho, ws, eo, rs⟩ := b4.at_ (i := 0) (a := D0) (m := .lst acc) rfl
      subst eo
      refine ⟨ws, ho, by rw [rs.length]; exact hz, ?_⟩
      have r5 : Rep c.K (av S ([(D0, MO.lst acc)] ++ M4)) H4 y d4 := r4.to (To.of_iff fun b z => av_app.mpr z)
      have kp := b4.put (i := 0) (a := D0) (m := .lst acc) (m' := .lst (acc ++ [d4])) (o := .lst (ws ++ [y])) rfl ⟨_, rfl, rs.append (.cons r5 .nil)⟩
      exact n1 d4 M4 _ kp.1 (((st.trans bs3).trans bs4).trans kp.2) q4
/-- the whole -/
theorem lc_whole {α : Type} {xs : List α} {vs0 : List Nat} {D0 : Addr} {M1 : Cells} {H1 : Hp} {Qd : V → Hp → Prop} {Inv : List α → List D → Cells → Prop} {f : α → D} (hn : H1 D0 = none) (is_ : c.Is X) (hcm : c.calm = true) (sl : Slots c.K (av S M1) H1 Γ σ) (cr : Core c.K S M1 H1) (hz : xs.length ≤ sizeLine)
    (h0 : Inv [] [] M1) (hs : ∀ pre y post acc M2, xs = pre ++ y :: post → acc.length ≤ pre.length → Inv pre acc M2 → Turn1 c scope vs0 tg elt ifs (f y) Γ M2 (fun d M4 => Inv (pre ++ [y]) (acc ++ [d]) M4) (fun M4 => Inv (pre ++ [y]) acc M4))
    (hd : ∀ acc M2 H2, acc.length ≤ xs.length → Inv xs acc M2 → Core c.K S M2 H2 → Step M1 M2 H1 H2 → Rep c.K (av S M2) H2 (.ref D0) (.lst acc) → Qd (.ref D0) H2) :
    ∃ Pv : Nat → Hp → Prop, Pv 0 (upd H1 D0 (.lst [])) ∧ (∀ i H2, Pv i H2 → ∃ M2, Step M1 M2 H1 H2) ∧
      (∀ i y H2 v, xs[i]? = some y → Pv i H2 → (∀ M2, Core c.K S M2 H2 → Step M1 M2 H1 H2 → Rep c.K (av S M2) H2 v (f y)) → gB X scope tg v (wipe σ vs0) H2 fun σ2 H2 => wipe σ2 vs0 = wipe σ vs0 ∧ ttB X scope ifs σ2 H2 fun b H3 =>
        if b = true then tB X scope elt σ2 H3 fun y H4 => ∃ acc, H4 D0 = some (.lst acc) ∧ acc.length < sizeLine ∧ Pv (i + 1) (upd H4 D0 (.lst (acc ++ [y]))) else Pv (i + 1) H3) ∧ ∀ H2, Pv xs.length H2 → Qd (.ref D0) H2 := by
  refine ⟨fun i H2 => ∃ acc M2, Core c.K S ((D0, .lst acc) :: M2) H2 ∧ Step M1 ((D0, .lst acc) :: M2) H1 H2 ∧ acc.length ≤ i ∧ Inv (xs.take i) acc M2, ?_, ?_, ?_, ?_⟩
  · have k := cr.cell (o := .lst []) (m := .lst []) hn ⟨[], rfl, .nil⟩
    exact ⟨[], M1, k.1, k.2, Nat.le_refl _, h0⟩
  · rintro i H2 ⟨acc, M2, c2, s2, _, _⟩
    exact ⟨_, s2⟩
  · rintro i y H2 v hy ⟨acc, M2, c2, s2, hl, inv⟩ rv
    obtain ⟨hi, _⟩ := List.getElem?_eq_some_iff.mp hy
    obtain ⟨sp, tk⟩ := split_at hy
    refine lc_turn is_ hcm sl c2 s2 (rv _ c2 s2) (by omega) (hs _ y _ acc M2 sp (by rw [List.length_take]; omega) inv) ?_ ?_
    · intro d M4 H' c4 s4 q
      exact ⟨_, M4, c4, s4, by simp; omega, by rw [tk]; exact q⟩
    · intro M4 H' c4 s4 q
      exact ⟨_, M4, c4, s4, by omega, by rw [tk]; exact q⟩
  · rintro H2 ⟨acc, M2, c2, s2, hl, inv⟩
    rw [List.take_length] at inv
    obtain ⟨c3, r3, s3⟩ := c2.freeze (i := 0) (p := D0) (ds := acc) rfl
    exact hd acc M2 H2 hl inv c3 (s2.trans s3) r3
/-- what a comprehension asks, behind its iterable's value -/
def LcQ (c : Ctx) (scope : Scope) (vs0 : List Nat) (tg elt : Expr) (ifs : List Expr) (Γ : Gam) {α : Type} (xs : List α) (f : α → D) (Inv : List α → List D → Cells → Prop) (M1 : Cells) (Q : D → Cells → Prop) : Prop :=
  xs.length ≤ sizeLine ∧ Inv [] [] M1 ∧ (∀ pre y post acc M2, xs = pre ++ y :: post → acc.length ≤ pre.length → Inv pre acc M2 → Turn1 c scope vs0 tg elt ifs (f y) Γ M2 (fun d M4 => Inv (pre ++ [y]) (acc ++ [d]) M4) (fun M4 => Inv (pre ++ [y]) acc M4)) ∧
  ∀ acc M2, acc.length ≤ xs.length → Inv xs acc M2 → Q (.lst acc) M2
section
variable {α : Type} {xs : List α} {f : α → D} {Inv : List α → List D → Cells → Prop}
theorem lcL_core (is_ : c.Is X) (hcm : c.calm = true) {M1 : Cells} {H1 : Hp} {a : Addr} {us : List V} (cr : Core c.K S M1 H1) (sl : Slots c.K (av S M1) H1 Γ σ) (h1 : RdL c.K (av S M1) H1 a us) (h2 : Reps c.K (av S M1) H1 us (xs.map f))
    (h : LcQ c scope (own.map (·.2)) tg elt ifs Γ xs f Inv M1 Q) {Q' : VK} (hq : ∀ v H' d M', Core c.K S M' H' → Step M1 M' H1 H' → Rep c.K (av S M') H' v d → Q d M' → Q' v H') :
    ∀ D, H1 D = none → ∃ W : Nat → Nat → Hp → Prop, (∃ m, W 0 m (upd H1 D (.lst []))) ∧ ∀ i m H, W i m H →
      ((Itl X.K a).stop i H ∧ Q' (.ref D) H) ∨ ((Itl X.K a).go i H ∧ ∃ Nx : Hp → Prop, (∀ H', Nx H' → ∃ m', m' < m ∧ W (i + 1) m' H') ∧ ∀ x H', (Itl X.K a).yld i H x H' → gB X scope tg x (wipe σ (own.map (·.2))) H' fun σ2 H2 => wipe σ2 (own.map (·.2)) = wipe σ (own.map (·.2)) ∧ ttB X scope ifs σ2 H2 fun b H3 =>
        if b = true then tB X scope elt σ2 H3 fun y H4 => ∃ acc, H4 D = some (.lst acc) ∧ acc.length < sizeLine ∧ Nx (upd H4 D (.lst (acc ++ [y]))) else Nx H3) := by
  intro D0 hn
  obtain ⟨hz, h0, hs, hd⟩ := h
  have hl : us.length = xs.length := by rw [h2.length, List.length_map]
  obtain ⟨Pv, p0, pst, pt, pd⟩ := lc_whole (Qd := Q') (D0 := D0) hn is_ hcm sl cr hz h0 hs fun acc M2 H2 l i c2 s2 r2 => hq _ _ _ _ c2 s2 r2 (hd acc M2 l i)
  refine lc_list (xs := us) (Qd := Q' (.ref D0)) Pv p0 (fun i H _ p => ?_) (fun i v H hv p => ?_) (fun H p => pd H (by rw [← hl]; exact p))
  · obtain ⟨M2, s2⟩ := pst i H p
    rw [is_.K]
    exact (s2.to.rdl h1).sq
  · obtain ⟨d, hd', rd⟩ := h2.getV hv
    rw [List.getElem?_map] at hd'
    cases ex : xs[i]? with
    | none => rw [ex] at hd'; cases hd'
    | some z =>
      rw [ex] at hd'
      have ed : f z = d := Option.some.inj hd'
      subst ed
      exact pt i z H v ex p fun M2 _ s2 => rd.to s2.to
theorem lcT_core (is_ : c.Is X) (hcm : c.calm = true) {M1 : Cells} {H1 : Hp} {a : Addr} {us : List V} (cr : Core c.K S M1 H1) (sl : Slots c.K (av S M1) H1 Γ σ) (h1 : RdT c.K (av S M1) H1 a us) (h2 : Reps c.K (av S M1) H1 us (xs.map f))
    (h : LcQ c scope (own.map (·.2)) tg elt ifs Γ xs f Inv M1 Q) {Q' : VK} (hq : ∀ v H' d M', Core c.K S M' H' → Step M1 M' H1 H' → Rep c.K (av S M') H' v d → Q d M' → Q' v H') :
    ∀ D, H1 D = none → ∃ W : Nat → Nat → Hp → Prop, (∃ m, W 0 m (upd H1 D (.lst []))) ∧ ∀ i m H, W i m H →
      ((Itt X.K a).stop i H ∧ Q' (.ref D) H) ∨ ((Itt X.K a).go i H ∧ ∃ Nx : Hp → Prop, (∀ H', Nx H' → ∃ m', m' < m ∧ W (i + 1) m' H') ∧ ∀ x H', (Itt X.K a).yld i H x H' → gB X scope tg x (wipe σ (own.map (·.2))) H' fun σ2 H2 => wipe σ2 (own.map (·.2)) = wipe σ (own.map (·.2)) ∧ ttB X scope ifs σ2 H2 fun b H3 =>
        if b = true then tB X scope elt σ2 H3 fun y H4 => ∃ acc, H4 D = some (.lst acc) ∧ acc.length < sizeLine ∧ Nx (upd H4 D (.lst (acc ++ [y]))) else Nx H3) := by
  intro D0 hn
  obtain ⟨hz, h0, hs, hd⟩ := h
  have hl : us.length = xs.length := by rw [h2.length, List.length_map]
  obtain ⟨Pv, p0, pst, pt, pd⟩ := lc_whole (Qd := Q') (D0 := D0) hn is_ hcm sl cr hz h0 hs fun acc M2 H2 l i c2 s2 r2 => hq _ _ _ _ c2 s2 r2 (hd acc M2 l i)
  refine lc_tup (xs := us) (Qd := Q' (.ref D0)) Pv p0 (fun i H _ p => ?_) (fun i v H hv p => ?_) (fun H p => pd H (by rw [← hl]; exact p))
  · obtain ⟨M2, s2⟩ := pst i H p
    rw [is_.K]
    exact (s2.to.rdt h1).sq
  · obtain ⟨d, hd', rd⟩ := h2.getV hv
    rw [List.getElem?_map] at hd'
    cases ex : xs[i]? with
    | none => rw [ex] at hd'; cases hd'
    | some z =>
      rw [ex] at hd'
      have ed : f z = d := Option.some.inj hd'
      subst ed
      exact pt i z H v ex p fun M2 _ s2 => rd.to s2.to
theorem lcR_core (is_ : c.Is X) (hcm : c.calm = true) {M1 : Cells} {H1 : Hp} {lo : Int} {n : Nat} (cr : Core c.K S M1 H1) (sl : Slots c.K (av S M1) H1 Γ σ)
    {Inv : List Nat → List D → Cells → Prop} (h : LcQ c scope (own.map (·.2)) tg elt ifs Γ (List.range n) (fun k => .int (lo + (k : Int))) Inv M1 Q) {Q' : VK} (hq : ∀ v H' d M', Core c.K S M' H' → Step M1 M' H1 H' → Rep c.K (av S M') H' v d → Q d M' → Q' v H') :
    ∀ D, H1 D = none → ∃ W : Nat → Nat → Hp → Prop, (∃ m, W 0 m (upd H1 D (.lst []))) ∧ ∀ i m H, W i m H →
      ((Itr lo n).stop i H ∧ Q' (.ref D) H) ∨ ((Itr lo n).go i H ∧ ∃ Nx : Hp → Prop, (∀ H', Nx H' → ∃ m', m' < m ∧ W (i + 1) m' H') ∧ ∀ x H', (Itr lo n).yld i H x H' → gB X scope tg x (wipe σ (own.map (·.2))) H' fun σ2 H2 => wipe σ2 (own.map (·.2)) = wipe σ (own.map (·.2)) ∧ ttB X scope ifs σ2 H2 fun b H3 =>
        if b = true then tB X scope elt σ2 H3 fun y H4 => ∃ acc, H4 D = some (.lst acc) ∧ acc.length < sizeLine ∧ Nx (upd H4 D (.lst (acc ++ [y]))) else Nx H3) := by
  intro D0 hn
  obtain ⟨hz, h0, hs, hd⟩ := h
  obtain ⟨Pv, p0, pst, pt, pd⟩ := lc_whole (Qd := Q') (D0 := D0) hn is_ hcm sl cr hz h0 hs fun acc M2 H2 l i c2 s2 r2 => hq _ _ _ _ c2 s2 r2 (hd acc M2 l i)
  refine lc_range (Qd := Q' (.ref D0)) Pv p0 (fun i H hi p => ?_) (fun H p => pd H (by rw [List.length_range]; exact p))
  exact pt i i H _ (List.getElem?_range hi) p fun M2 _ s2 => .int
theorem At.blkOk (at_ : At c X S Γ M σ H) (hb : blkC c.N c.sc scope own = true) : BlkOk X.N X.env.scope scope own := by
  rw [at_.is.N, at_.is.sc]
  exact blkOk_by hb
/-- [elt for tg in iter if ..] -/
theorem we_lcL (own : List (Str × Nat)) (hb : blkC c.N c.sc scope own = true) (xs : List α) (f : α → D) (Inv : List α → List D → Cells → Prop) (h : WE c iter Γ M fun d M1 => d = .lst (xs.map f) ∧ LcQ c scope (own.map (·.2)) tg elt ifs Γ xs f Inv M1 Q)
    (hs : ∀ env x, foldedSetIterable iter env x = pure x := by intro _ _; rfl) (hcm : c.calm = true := by first | rfl | assumption) : WE c (.ListComp elt [⟨tg, iter, ifs, 0⟩] scope pos) Γ M Q := .mk fun X S σ H at_ Q' hq =>
  PE.to (pe_lc (at_.is.calm hcm) at_.is.nd (pi_list wE.pe) (at_.blkOk hb) (fun s H C cl fp => gB.pg s H C cl fp) (fun s H C cl fp => ttB.pts s H C cl fp) (fun s H C cl fp => tB.pe s H C cl fp) (hs _)) (h.run X S σ H at_ _ fun v1 H1 d1 M1 c1 s1 r1 ⟨e1, q⟩ => by
    subst e1
    cases r1 with
    | lst h1 h2 => exact ⟨_, rfl, ⟨_, by rw [at_.is.K]; exact h1.sq⟩, lcL_core at_.is hcm c1 (at_.slots.to s1.to) h1 h2 q fun v H' d M' c2 s2 r2 q2 => hq v H' d M' c2 (s1.trans s2) r2 q2⟩)
theorem we_lcT (own : List (Str × Nat)) (hb : blkC c.N c.sc scope own = true) (xs : List α) (f : α → D) (Inv : List α → List D → Cells → Prop) (h : WE c iter Γ M fun d M1 => d = .tup (xs.map f) ∧ LcQ c scope (own.map (·.2)) tg elt ifs Γ xs f Inv M1 Q)
    (hs : ∀ env x, foldedSetIterable iter env x = pure x := by intro _ _; rfl) (hcm : c.calm = true := by first | rfl | assumption) : WE c (.ListComp elt [⟨tg, iter, ifs, 0⟩] scope pos) Γ M Q := .mk fun X S σ H at_ Q' hq =>
  PE.to (pe_lc (at_.is.calm hcm) at_.is.nd (pi_tup wE.pe) (at_.blkOk hb) (fun s H C cl fp => gB.pg s H C cl fp) (fun s H C cl fp => ttB.pts s H C cl fp) (fun s H C cl fp => tB.pe s H C cl fp) (hs _)) (h.run X S σ H at_ _ fun v1 H1 d1 M1 c1 s1 r1 ⟨e1, q⟩ => by
    subst e1
    cases r1 with
    | tup h1 h2 => exact ⟨_, rfl, ⟨_, by rw [at_.is.K]; exact h1.sq⟩, lcT_core at_.is hcm c1 (at_.slots.to s1.to) h1 h2 q fun v H' d M' c2 s2 r2 q2 => hq v H' d M' c2 (s1.trans s2) r2 q2⟩)
theorem we_lcR {p p' : Pos} (own : List (Str × Nat)) (hb : blkC c.N c.sc scope own = true) (hg : GlC c.sc "range") (hm : c.mg "range" = none) (Inv : List Nat → List D → Cells → Prop)
    (h : WE c a Γ M fun d M1 => ∃ n : Int, d = .int n ∧ -(2 ^ 62) ≤ n ∧ n < 2 ^ 62 ∧ LcQ c scope (own.map (·.2)) tg elt ifs Γ (List.range n.toNat) (fun k => .int (0 + (k : Int))) Inv M1 Q)
    (hst : ∀ env, starEach [a] env = (false, eval a env) :: starEach [] env := by intro _; rfl) (hs : ∀ env x, foldedSetIterable (.Call (.Name "range" p) [a] [] p') env x = pure x := by intro _ _; rfl) (hcm : c.calm = true := by first | rfl | assumption) : WE c (.ListComp elt [⟨tg, .Call (.Name "range" p) [a] [] p', ifs, 0⟩] scope pos) Γ M Q := .mk fun X S σ H at_ Q' hq =>
  PE.to (pe_lc (at_.is.calm hcm) at_.is.nd (pi_range1 (at_.is.gl hg) (at_.is.mgN hm) (pa_cons wE.pe pa_nil (hst _)) (by rw [hst]; rfl)) (at_.blkOk hb) (fun s H C cl fp => gB.pg s H C cl fp) (fun s H C cl fp => ttB.pts s H C cl fp) (fun s H C cl fp => tB.pe s H C cl fp) (hs _)) (h.run X S σ H at_ _ fun v1 H1 d1 M1 c1 s1 r1 ⟨n, e1, b1, b2, q⟩ => by
    subst e1
    cases r1
    exact ⟨n, rfl, b1, b2, lcR_core at_.is hcm c1 (at_.slots.to s1.to) q fun v H' d M' c2 s2 r2 q2 => hq v H' d M' c2 (s1.trans s2) r2 q2⟩)
/-- name = [..] on one line -/
theorem ws_lcL {i : Nat} {y : Str} {py spos : Pos} (own : List (Str × Nat)) (hb : blkC c.N c.sc scope own = true) (hy : c.N[i]? = some y) (hyl : c.sc.names.lookup y = some .local) (xs : List α) (f : α → D) (Inv : List α → List D → Cells → Prop) (h : WE c iter Γ M fun d M1 => d = .lst (xs.map f) ∧ LcQ c scope (own.map (·.2)) tg elt ifs Γ xs f Inv M1 fun d M2 => E.nx (Γ.set i (some d)) M2)
    (hsw : ∀ env, env.scope = c.sc → swapsWith (.ListComp elt [⟨tg, iter, ifs, 0⟩] scope pos) (some (.Name y py)) spos.line env = pure true := by (rintro ⟨_, _, _, _, _, _, _, _, _⟩ rfl; rfl)) (hs : ∀ env x, foldedSetIterable iter env x = pure x := by intro _ _; rfl) (hcm : c.calm = true := by first | rfl | assumption) : WS c (.Assign [.Name y py] (.ListComp elt [⟨tg, iter, ifs, 0⟩] scope pos) spos) E Γ M := .mk fun X S σ H at_ Ds l =>
  PS.to (ps_setLc (at_.is.calm hcm) at_.is.nd (at_.is.nm hy) (by rw [at_.is.sc]; exact hyl) (hsw _ at_.is.sc) (pi_list wE.pe) (at_.blkOk hb) (fun s H C cl fp => gB.pg s H C cl fp) (fun s H C cl fp => ttB.pts s H C cl fp) (fun s H C cl fp => tB.pe s H C cl fp) (hs _)) (h.run X S σ H at_ _ fun v1 H1 d1 M1 c1 s1 r1 ⟨e1, q⟩ => by
    subst e1
    cases r1 with
    | lst h1 h2 => exact ⟨_, rfl, ⟨_, by rw [at_.is.K]; exact h1.sq⟩, lcL_core at_.is hcm c1 (at_.slots.to s1.to) h1 h2 q fun v H' d M' c2 s2 r2 q2 => l.nx _ _ _ _ c2 ((at_.slots.to (s1.trans s2).to).set r2) (s1.trans s2) q2⟩)
theorem ws_lcT {i : Nat} {y : Str} {py spos : Pos} (own : List (Str × Nat)) (hb : blkC c.N c.sc scope own = true) (hy : c.N[i]? = some y) (hyl : c.sc.names.lookup y = some .local) (xs : List α) (f : α → D) (Inv : List α → List D → Cells → Prop) (h : WE c iter Γ M fun d M1 => d = .tup (xs.map f) ∧ LcQ c scope (own.map (·.2)) tg elt ifs Γ xs f Inv M1 fun d M2 => E.nx (Γ.set i (some d)) M2)
    (hsw : ∀ env, env.scope = c.sc → swapsWith (.ListComp elt [⟨tg, iter, ifs, 0⟩] scope pos) (some (.Name y py)) spos.line env = pure true := by (rintro ⟨_, _, _, _, _, _, _, _, _⟩ rfl; rfl)) (hs : ∀ env x, foldedSetIterable iter env x = pure x := by intro _ _; rfl) (hcm : c.calm = true := by first | rfl | assumption) : WS c (.Assign [.Name y py] (.ListComp elt [⟨tg, iter, ifs, 0⟩] scope pos) spos) E Γ M := .mk fun X S σ H at_ Ds l =>
  PS.to (ps_setLc (at_.is.calm hcm) at_.is.nd (at_.is.nm hy) (by rw [at_.is.sc]; exact hyl) (hsw _ at_.is.sc) (pi_tup wE.pe) (at_.blkOk hb) (fun s H C cl fp => gB.pg s H C cl fp) (fun s H C cl fp => ttB.pts s H C cl fp) (fun s H C cl fp => tB.pe s H C cl fp) (hs _)) (h.run X S σ H at_ _ fun v1 H1 d1 M1 c1 s1 r1 ⟨e1, q⟩ => by
    subst e1
    cases r1 with
    | tup h1 h2 => exact ⟨_, rfl, ⟨_, by rw [at_.is.K]; exact h1.sq⟩, lcT_core at_.is hcm c1 (at_.slots.to s1.to) h1 h2 q fun v H' d M' c2 s2 r2 q2 => l.nx _ _ _ _ c2 ((at_.slots.to (s1.trans s2).to).set r2) (s1.trans s2) q2⟩)
theorem ws_lcR {p p' : Pos} {i : Nat} {y : Str} {py spos : Pos} (own : List (Str × Nat)) (hb : blkC c.N c.sc scope own = true) (hy : c.N[i]? = some y) (hyl : c.sc.names.lookup y = some .local) (hg : GlC c.sc "range") (hm : c.mg "range" = none) (Inv : List Nat → List D → Cells → Prop)
    (h : WE c a Γ M fun d M1 => ∃ n : Int, d = .int n ∧ -(2 ^ 62) ≤ n ∧ n < 2 ^ 62 ∧ LcQ c scope (own.map (·.2)) tg elt ifs Γ (List.range n.toNat) (fun k => .int (0 + (k : Int))) Inv M1 fun d M2 => E.nx (Γ.set i (some d)) M2)
    (hsw : ∀ env, env.scope = c.sc → swapsWith (.ListComp elt [⟨tg, .Call (.Name "range" p) [a] [] p', ifs, 0⟩] scope pos) (some (.Name y py)) spos.line env = pure true := by (rintro ⟨_, _, _, _, _, _, _, _, _⟩ rfl; rfl))
    (hst : ∀ env, starEach [a] env = (false, eval a env) :: starEach [] env := by intro _; rfl) (hs : ∀ env x, foldedSetIterable (.Call (.Name "range" p) [a] [] p') env x = pure x := by intro _ _; rfl) (hcm : c.calm = true := by first | rfl | assumption) : WS c (.Assign [.Name y py] (.ListComp elt [⟨tg, .Call (.Name "range" p) [a] [] p', ifs, 0⟩] scope pos) spos) E Γ M := .mk fun X S σ H at_ Ds l =>
  PS.to (ps_setLc (at_.is.calm hcm) at_.is.nd (at_.is.nm hy) (by rw [at_.is.sc]; exact hyl) (hsw _ at_.is.sc) (pi_range1 (at_.is.gl hg) (at_.is.mgN hm) (pa_cons wE.pe pa_nil (hst _)) (by rw [hst]; rfl)) (at_.blkOk hb) (fun s H C cl fp => gB.pg s H C cl fp) (fun s H C cl fp => ttB.pts s H C cl fp) (fun s H C cl fp => tB.pe s H C cl fp) (hs _)) (h.run X S σ H at_ _ fun v1 H1 d1 M1 c1 s1 r1 ⟨n, e1, b1, b2, q⟩ => by
    subst e1
    cases r1
    exact ⟨n, rfl, b1, b2, lcR_core at_.is hcm c1 (at_.slots.to s1.to) q fun v H' d M' c2 s2 r2 q2 => l.nx _ _ _ _ c2 ((at_.slots.to (s1.trans s2).to).set r2) (s1.trans s2) q2⟩)
/-- elements that are told by what is taken, nothing changed -/
theorem lcq_map (g : α → D) {vs0 : List Nat} (hz : xs.length ≤ sizeLine) (hs : ∀ y ∈ xs, Turn1 c scope vs0 tg elt ifs (f y) Γ M (fun d M4 => d = g y ∧ M4 = M) (fun _ => False)) (q : Q (.lst (xs.map g)) M) :
    LcQ c scope vs0 tg elt ifs Γ xs f (fun pre acc M2 => acc = pre.map g ∧ M2 = M) M Q := by
  refine ⟨hz, ⟨rfl, rfl⟩, ?_, ?_⟩
  · rintro pre y post acc M2 e _ ⟨rfl, rfl⟩
    obtain ⟨is, us, ht, hv, hi⟩ := hs y (by rw [e]; simp)
    refine ⟨is, us, ht, hv, .mk fun X S σ H at_ Q' hq => hi.run X S σ H at_ Q' fun k H' M' c1 s1 b => hq k H' M' c1 s1 ⟨fun hk => .mk fun X S σ H at_ Q' hq => (b.1 hk).run X S σ H at_ Q' fun v H' d M' c1 s1 r1 ⟨e1, e2⟩ => hq v H' d M' c1 s1 r1 ⟨by rw [e1, List.map_append]; rfl, e2⟩, fun hk => (b.2 hk).elim⟩⟩
  · rintro acc M2 _ ⟨rfl, rfl⟩
    exact q
theorem lcq_filter (p : α → Bool) (g : α → D) {vs0 : List Nat} (hz : xs.length ≤ sizeLine) (hs : ∀ y ∈ xs, Turn1 c scope vs0 tg elt ifs (f y) Γ M (fun d M4 => p y = true ∧ d = g y ∧ M4 = M) (fun M4 => p y = false ∧ M4 = M)) (q : Q (.lst ((xs.filter p).map g)) M) :
    LcQ c scope vs0 tg elt ifs Γ xs f (fun pre acc M2 => acc = (pre.filter p).map g ∧ M2 = M) M Q := by
  refine ⟨hz, ⟨rfl, rfl⟩, ?_, ?_⟩
  · rintro pre y post acc M2 e _ ⟨rfl, rfl⟩
    obtain ⟨is, us, ht, hv, hi⟩ := hs y (by rw [e]; simp)
    refine ⟨is, us, ht, hv, .mk fun X S σ H at_ Q' hq => hi.run X S σ H at_ Q' fun k H' M' c1 s1 b => hq k H' M' c1 s1 ⟨fun hk => .mk fun X S σ H at_ Q' hq => (b.1 hk).run X S σ H at_ Q' fun v H' d M' c1 s1 r1 ⟨e0, e1, e2⟩ => hq v H' d M' c1 s1 r1 ⟨by rw [e1, List.filter_append, List.map_append]; simp [e0], e2⟩, fun hk => ?_⟩⟩
    obtain ⟨e0, e2⟩ := b.2 hk
    exact ⟨by rw [List.filter_append, List.map_append]; simp [e0], e2⟩
  · rintro acc M2 _ ⟨rfl, rfl⟩
    exact q
end
end
end PL
namespace PL
open PySem PySem.Spec PyProof.Rows L2

section
variable {c : Ctx} {X : Cx} {S : AS} {Γ Γ' : Gam} {M M' : Cells} {σ σ' : L2.St} {H H' : Hp} {a b e : Expr} {es : List Expr} {pos pos' p : Pos} {Q : D → Cells → Prop} {R : Bool → Cells → Prop} {x : Str} {E : PEnds}
/-! ### built-in calls of one argument -/
def Arg1 (c : Ctx) (r : List V → Hp → VK → Prop) (Q : D → Cells → Prop) (d : D) (M1 : Cells) : Prop :=
  ∀ (S : AS) (H : Hp) (v : V), Core c.K S M1 H → Rep c.K (av S M1) H v d → ∀ Q' : VK, (∀ v H' d M', Core c.K S M' H' → Step M1 M' H H' → Rep c.K (av S M') H' v d → Q d M' → Q' v H') → r [v] H Q'
theorem wa_one {R : List D → Cells → Prop} (h : WE c e Γ M fun d M1 => R [d] M1) (he : ∀ env, starEach [e] env = (false, eval e env) :: starEach [] env := by intro _; rfl) : WA c [e] Γ M R :=
  wa_cons (.mk fun X S σ H at_ Q' hq => h.run X S σ H at_ Q' fun v H' d M' c1 s1 r1 q => hq v H' d M' c1 s1 r1 (wa_nil q)) he
theorem we_callB1 {id : String} {r : List V → Hp → VK → Prop} (hc : ∀ X : Cx, c.Is X → CallR X (.builtin id) r) (hg : GlC c.sc x) (hm : c.mg x = none) (hv : bootBuiltins x = some (.builtin id))
    (h : WE c e Γ M (Arg1 c r Q)) (hn : x ≠ "__name__" := by decide) (hdb : (x == ("__debug__" : Str)) = false := by decide)
    (he : ∀ env, starEach [e] env = (false, eval e env) :: starEach [] env := by intro _; rfl) : WE c (.Call (.Name x p) [e] [] pos) Γ M Q := .mk fun X S σ H at_ Q' hq =>
  PE.to (pe_callB (hc X at_.is) (at_.is.gl hg) (at_.is.mgN hm) hv wA.pa hn hdb (he _) (by rfl)) ((wa_one (R := fun ds M1 => ∃ d, ds = [d] ∧ Arg1 c r Q d M1) (.mk fun X S σ H at_ Q' hq => h.run X S σ H at_ Q' fun v H' d M' c1 s1 r1 q => hq v H' d M' c1 s1 r1 ⟨d, rfl, q⟩) he).run X S σ H at_ _ fun vs H1 ds M1 c1 s1 r1 ⟨d, e1, q⟩ => by
    subst e1
    cases r1 with
    | cons r r' =>
      cases r'
      exact q S H1 _ c1 r Q' fun v H' d M' c2 s2 r2 q2 => hq v H' d M' c2 (s1.trans s2) r2 q2)
theorem we_callT1 {T : String} {r : List V → Hp → VK → Prop} (hc : ∀ X : Cx, c.Is X → CallR X (.type T) r) (hg : GlC c.sc x) (hm : c.mg x = none) (hv : bootBuiltins x = some (.type T))
    (h : WE c e Γ M (Arg1 c r Q)) (hn : x ≠ "__name__" := by decide) (hdb : (x == ("__debug__" : Str)) = false := by decide)
    (he : ∀ env, starEach [e] env = (false, eval e env) :: starEach [] env := by intro _; rfl) : WE c (.Call (.Name x p) [e] [] pos) Γ M Q := .mk fun X S σ H at_ Q' hq =>
  PE.to (pe_callTy (hc X at_.is) (at_.is.gl hg) (at_.is.mgN hm) hv wA.pa hn hdb (he _) (by rfl)) ((wa_one (R := fun ds M1 => ∃ d, ds = [d] ∧ Arg1 c r Q d M1) (.mk fun X S σ H at_ Q' hq => h.run X S σ H at_ Q' fun v H' d M' c1 s1 r1 q => hq v H' d M' c1 s1 r1 ⟨d, rfl, q⟩) he).run X S σ H at_ _ fun vs H1 ds M1 c1 s1 r1 ⟨d, e1, q⟩ => by
    subst e1
    cases r1 with
    | cons r r' =>
      cases r'
      exact q S H1 _ c1 r Q' fun v H' d M' c2 s2 r2 q2 => hq v H' d M' c2 (s1.trans s2) r2 q2)
theorem WE.imp {Q2 : D → Cells → Prop} (h : WE c e Γ M Q) (k : ∀ d M1, Q d M1 → Q2 d M1) : WE c e Γ M Q2 := .mk fun X S σ H at_ Q' hq => h.run X S σ H at_ Q' fun v H' d M' c1 s1 r1 q => hq v H' d M' c1 s1 r1 (k d M' q)
/-- a fresh list -/
theorem fresh_lst {K : PySem.W.Frag} {c : Ctx} {S : AS} {M : Cells} {H : Hp} {q : Addr} {vs : List V} {ds : List D} (cr : Core c.K S M H) (np : H q = none) (r : Reps c.K (av S M) H vs ds) :
    Core c.K S M (upd H q (.lst vs)) ∧ Step M M H (upd H q (.lst vs)) ∧ Rep c.K (av S M) (upd H q (.lst vs)) (.ref q) (.lst ds) :=
  ⟨cr.new np, Step.same (same_new np), .lst (.inl ⟨cr.free np, .inl upd_same⟩) (r.to (Step.same (same_new np)).to)⟩
/-- sorted(e), ints -/
theorem we_sortedI (hg : GlC c.sc "sorted") (hm : c.mg "sorted" = none) (h : WE c e Γ M fun d M1 => ∃ ns : List Int, View M1 d (.lst (ns.map D.int)) ∧ ∀ ns' : List Int, ns'.Perm ns → ns'.Pairwise (· ≤ ·) → Q (.lst (ns'.map D.int)) M1)
    (he : ∀ env, starEach [e] env = (false, eval e env) :: starEach [] env := by intro _; rfl) : WE c (.Call (.Name "sorted" p) [e] [] pos) Γ M Q :=
  we_callB1 (r := rSortedI c.K) (fun X i => by rw [← i.K]; exact cr_sortedI) hg hm PyProof.Rows.boot_sorted (h.imp fun d M1 ⟨ns, w, q⟩ S H v c1 r1 Q' hq => by
    have rr := w.rep c1 r1
    cases rr with
    | lst h1 h2 =>
      have e1 := h2.ints
      subst e1
      refine ⟨_, ns, rfl, h1.sq, fun ns' p hp hs np => ?_⟩
      obtain ⟨k1, k2, k3⟩ := fresh_lst (K := c.K) c1 np (Reps.of_ints (K := c.K) (A := av S M1) (H := H) ns')
      exact hq _ _ _ _ k1 k2 k3 (q ns' hp hs)) (he := he)
/-- max(e), min(e), ints -/
theorem we_maxI (hg : GlC c.sc "max") (hm : c.mg "max" = none) (h : WE c e Γ M fun d M1 => ∃ ns : List Int, View M1 d (.lst (ns.map D.int)) ∧ 0 < ns.length ∧ ∀ m, m ∈ ns → (∀ y, y ∈ ns → y ≤ m) → Q (.int m) M1)
    (he : ∀ env, starEach [e] env = (false, eval e env) :: starEach [] env := by intro _; rfl) (hcm : c.calm = true := by first | rfl | assumption) : WE c (.Call (.Name "max" p) [e] [] pos) Γ M Q :=
  we_callB1 (r := rMax c.K) (fun X i => by rw [← i.K]; exact cr_max (i.calm hcm)) hg hm PyProof.Rows.boot_max (h.imp fun d M1 ⟨ns, w, hne, q⟩ S H v c1 r1 Q' hq => by
    have rr := w.rep c1 r1
    cases rr with
    | lst h1 h2 =>
      have e1 := h2.ints
      subst e1
      exact ⟨_, ns, rfl, h1.sq, hne, fun m h1 h2 => hq _ _ _ _ c1 .refl .int (q m h1 h2)⟩) (he := he)
theorem we_minI (hg : GlC c.sc "min") (hm : c.mg "min" = none) (h : WE c e Γ M fun d M1 => ∃ ns : List Int, View M1 d (.lst (ns.map D.int)) ∧ 0 < ns.length ∧ ∀ m, m ∈ ns → (∀ y, y ∈ ns → m ≤ y) → Q (.int m) M1)
    (he : ∀ env, starEach [e] env = (false, eval e env) :: starEach [] env := by intro _; rfl) (hcm : c.calm = true := by first | rfl | assumption) : WE c (.Call (.Name "min" p) [e] [] pos) Γ M Q :=
  we_callB1 (r := rMin c.K) (fun X i => by rw [← i.K]; exact cr_min (i.calm hcm)) hg hm (by decide +kernel) (h.imp fun d M1 ⟨ns, w, hne, q⟩ S H v c1 r1 Q' hq => by
    have rr := w.rep c1 r1
    cases rr with
    | lst h1 h2 =>
      have e1 := h2.ints
      subst e1
      exact ⟨_, ns, rfl, h1.sq, hne, fun m h1 h2 => hq _ _ _ _ c1 .refl .int (q m h1 h2)⟩) (he := he)
/-- list(e): a new list, to stay as it is, or a cell -/
theorem we_listOf (hg : GlC c.sc "list") (hm : c.mg "list" = none) (h : WE c e Γ M fun d M1 => ∃ ds, (View M1 d (.lst ds) ∨ View M1 d (.tup ds)) ∧ Q (.lst ds) M1)
    (he : ∀ env, starEach [e] env = (false, eval e env) :: starEach [] env := by intro _; rfl) : WE c (.Call (.Name "list" p) [e] [] pos) Γ M Q :=
  we_callT1 (r := fun xs H Q => ∃ p ys, xs = [.ref p] ∧ (SqL c.K H p ys ∨ SqT c.K H p ys) ∧ ∀ l, H l = none → Q (.ref l) (upd H l (.lst ys))) (fun X i => by rw [← i.K]; exact call_list_of) hg hm (by decide +kernel) (h.imp fun d M1 ⟨ds, w, q⟩ S H v c1 r1 Q' hq => by
    rcases w with w | w
    · cases w with
      | self =>
        cases r1 with
        | lst h1 h2 => exact ⟨_, _, rfl, .inl h1.sq, fun l np => by
            obtain ⟨k1, k2, k3⟩ := fresh_lst (K := c.K) c1 np h2
            exact hq _ _ _ _ k1 k2 k3 q⟩
      | cell hc =>
        cases r1
        obtain ⟨o, ho, vs, eo, rs⟩ := c1.at_ hc
        subst eo
        exact ⟨_, _, rfl, .inl (.of ho), fun l np => by
          obtain ⟨k1, k2, k3⟩ := fresh_lst (K := c.K) c1 np rs
          exact hq _ _ _ _ k1 k2 k3 q⟩
    · cases w with
      | self =>
        cases r1 with
        | tup h1 h2 => exact ⟨_, _, rfl, .inr h1.sq, fun l np => by
            obtain ⟨k1, k2, k3⟩ := fresh_lst (K := c.K) c1 np h2
            exact hq _ _ _ _ k1 k2 k3 q⟩) (he := he)
theorem we_listOfC (hg : GlC c.sc "list") (hm : c.mg "list" = none) (h : WE c e Γ M fun d M1 => ∃ ds, (View M1 d (.lst ds) ∨ View M1 d (.tup ds)) ∧ ∀ p, Q (.ptr p) ((p, .lst ds) :: M1))
    (he : ∀ env, starEach [e] env = (false, eval e env) :: starEach [] env := by intro _; rfl) : WE c (.Call (.Name "list" p) [e] [] pos) Γ M Q :=
  we_callT1 (r := fun xs H Q => ∃ p ys, xs = [.ref p] ∧ (SqL c.K H p ys ∨ SqT c.K H p ys) ∧ ∀ l, H l = none → Q (.ref l) (upd H l (.lst ys))) (fun X i => by rw [← i.K]; exact call_list_of) hg hm (by decide +kernel) (h.imp fun d M1 ⟨ds, w, q⟩ S H v c1 r1 Q' hq => by
    rcases w with w | w
    · cases w with
      | self =>
        cases r1 with
        | lst h1 h2 => exact ⟨_, _, rfl, .inl h1.sq, fun l np => by
            have k := c1.cell (o := .lst _) (m := .lst ds) np ⟨_, rfl, h2⟩
            exact hq _ _ _ _ k.1 k.2 .ptr (q l)⟩
      | cell hc =>
        cases r1
        obtain ⟨o, ho, vs, eo, rs⟩ := c1.at_ hc
        subst eo
        exact ⟨_, _, rfl, .inl (.of ho), fun l np => by
          have k := c1.cell (o := .lst _) (m := .lst ds) np ⟨_, rfl, rs⟩
          exact hq _ _ _ _ k.1 k.2 .ptr (q l)⟩
    · cases w with
      | self =>
        cases r1 with
        | tup h1 h2 => exact ⟨_, _, rfl, .inr h1.sq, fun l np => by
            have k := c1.cell (o := .lst _) (m := .lst ds) np ⟨_, rfl, h2⟩
            exact hq _ _ _ _ k.1 k.2 .ptr (q l)⟩) (he := he)
/-- int(e), e a truth or an int -/
theorem we_intOf (hg : GlC c.sc "int") (hm : c.mg "int" = none) (h : WE c e Γ M fun d M1 => (∃ k, d = .bl k ∧ Q (.int (if k then 1 else 0)) M1) ∨ ∃ i, d = .int i ∧ Q (.int i) M1)
    (he : ∀ env, starEach [e] env = (false, eval e env) :: starEach [] env := by intro _; rfl) : WE c (.Call (.Name "int" p) [e] [] pos) Γ M Q :=
  we_callT1 (fun X i => call_int1) hg hm (by decide +kernel) (h.imp fun d M1 w S H v c1 r1 Q' hq => by
    rcases w with ⟨k, e1, q⟩ | ⟨i, e1, q⟩
    · subst e1; cases r1
      exact .inr ⟨k, rfl, hq _ _ _ _ c1 .refl .int q⟩
    · subst e1; cases r1
      exact .inl ⟨i, rfl, hq _ _ _ _ c1 .refl .int q⟩) (he := he)

/-! ### sorted(e), data of one kind -/
theorem view_dp {n : Nat} {d : D} {ds : List D} {v : V} (w : View M d (.lst ds)) (cr : Core c.K S M H) (r : Rep c.K (av S M) H v d) (o : D.okds n ds = true) : ∃ a vs, v = .ref a ∧ RdL c.K S H a vs ∧ Reps c.K S H vs ds := by
  have rr := w.rep cr r
  cases rr with
  | lst h1 h2 => exact ⟨_, _, rfl, h1, h2⟩
def rSortD (K : PySem.W.Frag) : List V → Hp → VK → Prop := fun xs H Q => ∃ (a : Addr) (bs : List (V × PyData)), xs = [.ref a] ∧ SqL K H a (bs.map (·.1)) ∧ (∀ b ∈ bs, Dp K H b.1 b.2) ∧ PySem.W.AllAlike (bs.map (·.2)) ∧ PySem.W.Sortable (bs.map (·.2)) ∧ (∀ b ∈ bs, b.2.depth ≤ 60) ∧
  ∀ p, H p = none → Q (.ref p) (upd H p (.lst ((bs.mergeSort (PySem.W.dataLe false (·.2))).map (·.1))))
theorem cr_sortedD (hu : X.A.units + 64 < cLine) : CallR X (.builtin "sorted") (rSortD X.K) := by
  intro pins s σ H xs us Q I r h
  obtain ⟨a, bs, rfl, hs, hd, hal, hk, hdep, q⟩ := h
  obtain ⟨its, rv, hl, hz⟩ := I.list hs
  rw [Vals.ref1 r]
  have each : ∀ (bs : List (V × PyData)) (its : List Value), Vals (bs.map (·.1)) its → PySem.W.EachIs (fun v b => RelV b.1 v) its bs := by
    intro bs
    induction bs with
    | nil => intro its r; cases r; exact .nil
    | cons b bs ih =>
      intro its r
      rw [List.map_cons] at r
      cases r with
      | cons r1 r2 => exact .cons r1 (ih _ r2)
  have ev := each bs its rv
  have er : ∀ (bs : List (V × PyData)) (its : List Value), (∀ b ∈ bs, Dp X.K H b.1 b.2) → PySem.W.EachIs (fun v (b : V × PyData) => RelV b.1 v) its bs → PySem.W.EachIs (fun v (b : V × PyData) => ∃ as, Reads s.heap v b.2 as) its bs := by
    intro bs
    induction bs with
    | nil => intro its _ r; cases r; exact .nil
    | cons b bs ih =>
      intro its hd r
      cases r with
      | cons r1 r2 => exact .cons (Dp.reads I b.2 b.1 _ (hd b List.mem_cons_self) r1) (ih _ (fun b hb => hd b (List.mem_cons_of_mem _ hb)) r2)
  have hlen : its.length = bs.length := by rw [← rv.length, List.length_map]
  refine PySem.W.sorted_data (vs := its) (enc := fun b : V × PyData => b.2) hl.isList ev (er bs its hd ev) hal hk (by rw [List.length_map] at hz; exact hz) (fun b hb => by have := hdep b hb; omega) fun out ho eo => ?_
  obtain ⟨ep, he'⟩ := PyProof.Rows.sortedAll_at s.heap its out.toArray
  have vo : ∀ (zs : List (V × PyData)) (out : List Value), PySem.W.EachIs (fun v (b : V × PyData) => RelV b.1 v) out zs → Vals (zs.map (·.1)) out := by
    intro zs
    induction zs with
    | nil => intro out r; cases r; exact .nil
    | cons z zs ih =>
      intro out r
      cases r with
      | cons r1 r2 => exact .cons r1 (ih _ r2)
  have hvo := vo _ _ eo
  exact ⟨.ref _, upd H (s.heap.objs.size + 1) (.lst ((bs.mergeSort (PySem.W.dataLe false (·.2))).map (·.1))), I.laid (t' := s.toks) (fun _ _ => PyProof.Rows.sortedAll_old) (Nat.le_succ _) ⟨by rw [hvo.length, ho]; rw [List.length_map] at hz; exact hz, out, ep, hvo, he'⟩, rfl, q _ (I.hok.fresh (Nat.le_succ _))⟩
theorem Reps.zip {K : PySem.W.Frag} {A : AS} : ∀ {vs : List V} {ds : List D}, Reps K A H vs ds → (vs.zip ds).map (·.1) = vs ∧ (vs.zip ds).map (·.2) = ds ∧ ∀ b ∈ vs.zip ds, Rep K A H b.1 b.2
  | _, _, .nil => ⟨rfl, rfl, fun b hb => absurd hb (by simp)⟩
  | v :: vs, d :: ds, .cons r rs => by
    obtain ⟨h1, h2, h3⟩ := rs.zip
    refine ⟨by rw [List.zip_cons_cons, List.map_cons, h1], by rw [List.zip_cons_cons, List.map_cons, h2], fun b hb => ?_⟩
    rw [List.zip_cons_cons] at hb
    rcases List.mem_cons.mp hb with e | hb
    · subst e; exact r
    · exact h3 b hb
theorem Reps.of_zip {K : PySem.W.Frag} {A : AS} : ∀ {bs : List (V × D)}, (∀ b ∈ bs, Rep K A H b.1 b.2) → Reps K A H (bs.map (·.1)) (bs.map (·.2))
  | [], _ => .nil
  | b :: bs, h => .cons (h b List.mem_cons_self) (Reps.of_zip fun b hb => h b (List.mem_cons_of_mem _ hb))
/-- how sorted orders data -/
def leD (a b : D) : Bool := PySem.W.dataLe false D.py a b
theorem sortD_fin {M1 : Cells} {a : Addr} {vs : List V} {ds : List D} (c1 : Core c.K S M1 H) (h1 : SqL c.K H a vs) (h2 : Reps c.K (av S M1) H vs ds) (o : D.okds 60 ds = true) (hal : PySem.W.AllAlike (ds.map D.py)) (hk : PySem.W.Sortable (ds.map D.py)) (q : Q (.lst (ds.mergeSort leD)) M1)
    {Q' : VK} (hq : ∀ v H' d M', Core c.K S M' H' → Step M1 M' H H' → Rep c.K (av S M') H' v d → Q d M' → Q' v H') : rSortD c.K [.ref a] H Q' := by
  obtain ⟨z1, z2, z3⟩ := h2.zip
  have eb : ((vs.zip ds).map fun b => (b.1, b.2.py)).map (·.1) = vs := by rw [List.map_map]; exact z1
  have ed : ((vs.zip ds).map fun b => (b.1, b.2.py)).map (·.2) = ds.map D.py := by
    have z := congrArg (List.map D.py) z2
    rw [List.map_map] at z ⊢
    exact z
  have od : ∀ b ∈ ds, b.okd 60 = true := by
    intro b hb
    clear h2 hal hk q z1 z2 z3 eb ed
    induction ds with
    | nil => exact absurd hb (by simp)
    | cons d ds ih =>
      have o' : d.okd 60 = true ∧ D.okds 60 ds = true := by simpa [D.okds] using o
      rcases List.mem_cons.mp hb with e | hb
      · subst e; exact o'.1
      · exact ih o'.2 hb
  have mz : ∀ b ∈ vs.zip ds, b.2 ∈ ds := fun b hb => by rw [← z2]; exact List.mem_map.mpr ⟨b, hb, rfl⟩
  refine ⟨a, (vs.zip ds).map fun b => (b.1, b.2.py), rfl, by rw [eb]; exact h1, ?_, by rw [ed]; exact hal, by rw [ed]; exact hk, ?_, fun p np => ?_⟩
  · rintro b hb
    obtain ⟨b', hb', rfl⟩ := List.mem_map.mp hb
    exact (z3 b' hb').dp 60 _ (od _ (mz _ hb'))
  · rintro b hb
    obtain ⟨b', hb', rfl⟩ := List.mem_map.mp hb
    exact (D.plain_ok 60 _ (od _ (mz _ hb'))).2
  · have e1 : ((vs.zip ds).map fun b => (b.1, b.2.py)).mergeSort (PySem.W.dataLe false (·.2)) = ((vs.zip ds).mergeSort fun a b => leD a.2 b.2).map fun b => (b.1, b.2.py) :=
      (List.map_mergeSort (f := fun b : V × D => (b.1, b.2.py)) fun _ _ _ _ => rfl).symm
    have e2 : ((vs.zip ds).mergeSort fun a b => leD a.2 b.2).map (·.2) = ds.mergeSort leD := by
      rw [List.map_mergeSort (f := fun b : V × D => b.2) (s := leD) fun _ _ _ _ => rfl, z2]
    rw [e1, List.map_map]
    have rr : Reps c.K (av S M1) H (((vs.zip ds).mergeSort fun a b => leD a.2 b.2).map (·.1)) (((vs.zip ds).mergeSort fun a b => leD a.2 b.2).map (·.2)) := Reps.of_zip fun b hb => z3 b ((List.mergeSort_perm _ _).mem_iff.mp hb)
    rw [e2] at rr
    obtain ⟨k1, k2, k3⟩ := fresh_lst (K := c.K) c1 np rr
    exact hq _ _ _ _ k1 k2 k3 q
theorem we_sortedD (hg : GlC c.sc "sorted") (hm : c.mg "sorted" = none) (h : WE c e Γ M fun d M1 => ∃ ds, View M1 d (.lst ds) ∧ D.okds 60 ds = true ∧ PySem.W.AllAlike (ds.map D.py) ∧ PySem.W.Sortable (ds.map D.py) ∧ Q (.lst (ds.mergeSort leD)) M1)
    (he : ∀ env, starEach [e] env = (false, eval e env) :: starEach [] env := by intro _; rfl) : WE c (.Call (.Name "sorted" p) [e] [] pos) Γ M Q :=
  .mk fun X S σ H at_ Q' hq => (we_callB1 (c := c) (r := fun xs H Q => X.A.units + 64 < cLine → rSortD c.K xs H Q) (fun X2 i => by
      intro pins s σ H xs us Q I r h
      have hu := i.hu
      exact (by rw [← i.K] at h; exact cr_sortedD (X := X2) hu pins s σ H xs us Q I r (h at_.is.hu))) hg hm PyProof.Rows.boot_sorted (h.imp fun d M1 ⟨ds, w, o, hal, hk, q⟩ S H v c1 r1 Q' hq _ => by
    cases w with
    | self =>
      cases r1 with
      | @lst a vs ds h1 h2 =>
        refine sortD_fin c1 h1.sq h2 o hal hk q hq
    | cell hc =>
      cases r1
      obtain ⟨oo, ho, vs, eo, rs⟩ := c1.at_ hc
      subst eo
      exact sortD_fin c1 (.of ho) rs o hal hk q hq) (he := he)).run X S σ H at_ Q' hq
end
end PL
/-! set(xs) by its update loop alone -/
namespace PL
open PySem PySem.Spec PyProof.Rows L2
section
variable {P : Program} {w : World} {A : Around} {E : Value → Shared → Prop} {s : Shared}
/-- an empty set -/
abbrev setNew (w : World) : Obj := { cls := .type "set", dict := none, data := .set #[] 0 (.fresh 0 0 (!w.params.followText "set-order")) }
/-- a list's iterator at its beginning -/
abbrev iterNew (l : Addr) : Obj := { cls := .type "list_iterator", data := .fields #[.ref l, .int 0 0] }
/-- set(xs), told by what the loop over xs leaves: T, with all objects kept -/
theorem call_set_loop {l : Addr} {items : Array Value} {T : Heap → Prop} {Q : Value → Shared → Prop} (hl : s.heap.IsList l items)
    (loop : ∀ R : Result → Shared → Prop, (∀ h' tk, T h' → (∀ b o, s.heap.get? b = some o → h'.get? b = some o) → R (.ok (.ret .none)) { s with heap := h', toks := tk }) →
      codeAny (model P w) A.in1.in1 (.builtin "set.update.loop" ⟨[.ref s.heap.objs.size, .ref (s.heap.push (setNew w)).objs.size], []⟩) R { s with heap := (s.heap.push (setNew w)).push (iterNew l) })
    (h : ∀ h' tk, T h' → (∀ b o, s.heap.get? b = some o → h'.get? b = some o) → Q (.ref s.heap.objs.size) { s with heap := h', toks := tk }) : wpAny (model P w) A (call (.type "set") [.ref l]) Q E s := by
  obtain ⟨c, tl, hmro⟩ := F.called_set.mro
  have made := F.called_set.made
  have sub := F.called_set.sub
  have nt := F.called_set.notType
  have cc := F.called_set.canCreate
  have one := F.typeCall_set_1 (.ref l)
  refine wpAny_call (codeAny_of_tree ?_)
  show wpAny _ _ (callAny (.type "set") _) _ _ _
  refine wpAny_pure ⟨Code.quiet_builtin _ (by decide +kernel), codeAny_builtin F.entry_type_call ?_⟩
  rw [Around.under_plain (weight_type_call_type "set" [.ref l] []) rfl]
  repeat (any_goals (first | assumption | wp_step))
  refine codeAny_mono (code_set_led1 (.ref l) (E := E) (Q₁ := fun v s₁ => v = .ref s.heap.objs.size ∧ s₁ = { s with heap := s.heap.push (setNew w) }) ⟨rfl, rfl⟩) fun r s₁ hr => ?_
  match r, hr with
  | .error e, hr => exact hr
  | .ok (.ret v), ⟨e1, e2⟩ =>
    subst e1 e2
    have new : (s.heap.push (setNew w)).get? s.heap.objs.size = some (setNew w) := Heap.get?_push_size _ rfl
    have ty : Shared.TypeIs { s with heap := s.heap.push (setNew w) } (.ref s.heap.objs.size) "set" := ⟨_, new, rfl⟩
    have il := F.called_set.init.lookup
    have ib := F.called_set.init.bind (.ref s.heap.objs.size)
    repeat (any_goals (first | assumption | wp_step))
    refine codeAny_mono (codeAny_call_builtin (R := wants (fun v s₂ => v = .none ∧ ∃ h' tk, s₂ = { s with heap := h', toks := tk } ∧ T h' ∧ ∀ b o, s.heap.get? b = some o → h'.get? b = some o) E) F.called_set.init.plain F.entry_set_init (check_set_init_1 ty ?_)) fun r₂ s₂ hr₂ => ?_
    · obtain ⟨⟨cls, dict, data, slots⟩, ol, cl, n, dl⟩ := hl
      simp only at cl dl
      subst cl dl
      have ol' := Heap.get?_push_of_some (setNew w) ol
      have ll : (s.heap.push (setNew w)).IsList l items := ⟨_, ol', rfl, n, rfl⟩
      have ns := F.sub_list_set
      have nf := F.sub_list_frozenset
      have nd : (Value.type "list" == Value.type "dict") = false := by decide
      unfold Builtin.«set.__init__» noKeywords Builtin.Frozenset.updateFrom
      generalize hI : pyIter = I
      wp_walk
      subst hI
      refine wpAny_pyIter_list ll (wpAny_bind (wpAny_runValue (loop _ fun h' tk t k => ?_)))
      show wpAny _ _ _ _ _ _
      refine wpAny_pure ?_
      show wpAny _ _ (ret Value.none) _ _ _
      exact wpAny_pure ⟨rfl, h', tk, rfl, t, k⟩
    · match r₂, hr₂ with
      | .error e, hr₂ => exact hr₂
      | .ok (.ret v), ⟨e1, h', tk, e2, t, k⟩ =>
        subst e1 e2
        repeat (any_goals (first | assumption | wp_step))
        exact h _ _ t k
/-- set(xs) of a list of ints -/
theorem call_set_listI {l : Addr} {items : Array Value} (ns : List Int) {Q : Value → Shared → Prop} (hh : A.handled = none) (hl : s.heap.IsList l items) (hit : IntsAre items.toList ns) (hb : ns.length + 1 < scanBound)
    (h : ∀ (h' : Heap) (tk c : Nat), SetR w h' s.heap.objs.size (fun j => decide (j ∈ ns)) c → c ≤ ns.length → (∀ b o, s.heap.get? b = some o → h'.get? b = some o) → Q (.ref s.heap.objs.size) { s with heap := h', toks := tk }) :
    wpAny (model P w) A (call (.type "set") [.ref l]) Q E s := by
  refine call_set_loop (T := fun h' => ∃ c, SetR w h' s.heap.objs.size (fun j => decide (j ∈ ns)) c ∧ c ≤ ns.length) hl (fun R hR => ?_) fun h' tk ⟨c, r, hc⟩ k => h h' tk c r hc k
  have sz : items.size = ns.length := by simpa using IntsAre.length hit
  have ln : l < s.heap.objs.size := by obtain ⟨o, ho, _⟩ := hl; exact Heap.lt_size ho
  have nI : l ≠ (s.heap.push (setNew w)).objs.size := by rw [Heap.size_push]; exact Nat.ne_of_lt (Nat.lt_succ_of_lt ln)
  have val : ∀ (i : Nat) (v : Value), items[i]? = some v → ∃ k t, ns[i]? = some k ∧ v = .int k t := fun i v hv => by
    have hi : i < ns.length := by rw [← sz]; exact (Array.getElem?_eq_some_iff.mp hv).1
    obtain ⟨t, e⟩ := PyProof.Rows.IntsAre.int_at hit i v (by rw [Array.getElem?_toList]; exact hv)
    refine ⟨ns[i], t, List.getElem?_eq_getElem hi, ?_⟩
    rw [e, List.getD_eq_getElem?_getD, List.getElem?_eq_getElem hi]
    rfl
  refine set_update_ints ((Walks.list (by simp [hh]) (s.heap.push (setNew w)).objs.size l nI items).toS) s.heap.objs.size ?_ ns sz hb val items.size 0 _ (by omega) (Nat.zero_le _) ⟨⟨_, Heap.get?_push_size _ rfl, rfl, rfl⟩, (hl.push _).push _⟩
    ⟨0, Nat.le_refl 0, setR_new_at (Heap.get?_push_of_some _ (Heap.get?_push_size _ rfl))⟩ fun s' c hm hc r => ?_
  · rw [Heap.size_push]
    simp only [List.mem_cons, List.not_mem_nil, or_false, not_or]
    exact ⟨Nat.ne_of_lt (Nat.lt_succ_self _), Nat.ne_of_gt ln⟩
  · obtain ⟨h', g2, d', tk', os'⟩ := s'
    obtain rfl : g2 = s.gens := hm.gens
    obtain rfl : d' = s.drawn := hm.drawn
    obtain rfl : os' = s.os := hm.os
    refine hR h' tk' ⟨c, r, by omega⟩ fun b o e => ?_
    have lb := Heap.lt_size e
    refine hm.heap b o ?_ (Heap.get?_push_of_some _ (Heap.get?_push_of_some _ e))
    rw [Heap.size_push]
    simp only [List.mem_cons, List.not_mem_nil, or_false, not_or]
    exact ⟨Nat.ne_of_lt lb, Nat.ne_of_lt (Nat.lt_succ_of_lt lb)⟩
end
end PL
namespace PL
open PySem PySem.Spec PyProof.Rows L2
section
variable {c : Ctx} {X : Cx} {S : AS} {Γ Γ' : Gam} {M M' : Cells} {σ σ' : L2.St} {H H' : Hp} {a b e : Expr} {es : List Expr} {pos pos' p : Pos} {Q : D → Cells → Prop} {R : Bool → Cells → Prop} {x : Str} {E : PEnds}
def tSortSetI (K : PySem.W.Frag) (ta : TE) : TE := fun σ H Q => ta σ H fun x H1 => ∃ (l : Addr) (ns : List Int), x = V.ref l ∧ SqL K H1 l (ns.map V.int) ∧ ns.length < 64 ∧
  ∀ (ns' : List Int) (p : Addr), ns'.Pairwise (· < ·) → (∀ k : Int, k ∈ ns' ↔ k ∈ ns) → H1 p = none → Q (.ref p) (upd H1 p (.lst (ns'.map V.int)))
theorem pe_sortSetI {ta : TE} {p p2 q pos : Pos} (hc : X.calm = true) (hg : Gl X "sorted") (hm : X.mg "sorted" = none) (hg2 : Gl X "set") (hm2 : X.mg "set" = none) (ha : PE X a ta)
    (na : starEach [a] X.env = (false, eval a X.env) :: starEach [] X.env := by rfl) : PE X (.Call (.Name "sorted" p) [.Call (.Name "set" p2) [a] [] q] [] pos) (tSortSetI X.K ta) := by
  refine ⟨fun pins s σ H Q I h => ?_⟩
  refine Call_ (ld_blt I hg hm PyProof.Rows.boot_sorted ?_)
  refine PyProof.Rows.callWith_builtin1 (PyProof.Rows.args_cons ?_ rfl) rfl rfl
  refine Call_ (ld_blt I hg2 hm2 PyProof.Rows.boot_set ?_)
  refine PyProof.Rows.callWith_type1 (PyProof.Rows.args_cons (thn (ha.run pins s σ H _ I h) fun v s1 ⟨x, H1, I1, r1, q1⟩ => PyProof.Rows.args_nil ?_) na) na rfl
  obtain ⟨l, ns, rfl, hq, h1, q1⟩ := q1
  cases r1
  obtain ⟨its, r, pl, hz⟩ := I1.list hq
  have h64 : ns.length + 1 < scanBound := by unfold scanBound; omega
  refine call_set_listI ns (I1.ok.hd hc) pl.isList (by simpa using r.ints) h64 fun h' tk k hS hk hkp => ?_
  refine PyProof.Rows.args_nil ?_
  have I2 : Inv X pins σ H1 { s1 with heap := h', toks := tk } := I1.kept fun b o e => hkp b o e
  refine sorted_set (s := { s1 with heap := h', toks := tk }) hS (I2.ok.hd hc) (by omega) fun s' p out cc ms kk g o hp hg' hi hs hm hl => ?_
  have hlen : (ms.map V.int).length ≤ sizeLine := by rw [List.length_map, hl, sizeLine_eq]; omega
  have hn : H1 p = none := I2.hok.fresh hp
  have J : Inv X pins σ (upd H1 p (.lst (ms.map V.int))) { ({ s1 with heap := h', toks := tk } : Shared) with heap := s'.heap, gens := s'.gens, drawn := s'.drawn, toks := s'.toks } :=
    I2.call (ch := []) (Un.laid kk hp hn) (I2.hok.laid kk hp ⟨hlen, out.toList, cc, vals_of_ints hi, hg'⟩) (by rw [g]; exact I2.bare) (fun _ z => nomatch z)
  have e : s' = { ({ s1 with heap := h', toks := tk } : Shared) with heap := s'.heap, gens := s'.gens, drawn := s'.drawn, toks := s'.toks } := by
    cases s'
    cases s1
    cases o
    rfl
  rw [e]
  exact ⟨.ref p, _, J, rfl, q1 ms p hs (fun k => by rw [hm]; exact decide_eq_true_iff) hn⟩
theorem we_sortSetI {p p2 q : Pos} (hg : GlC c.sc "sorted") (hm : c.mg "sorted" = none) (hg2 : GlC c.sc "set") (hm2 : c.mg "set" = none)
    (h : WE c a Γ M fun d M1 => ∃ ns : List Int, View M1 d (.lst (ns.map D.int)) ∧ ns.length < 64 ∧ ∀ ns' : List Int, ns'.Pairwise (· < ·) → (∀ k : Int, k ∈ ns' ↔ k ∈ ns) → Q (.lst (ns'.map D.int)) M1)
    (na : ∀ env, starEach [a] env = (false, eval a env) :: starEach [] env := by intro _; rfl) (hcm : c.calm = true := by first | rfl | assumption) : WE c (.Call (.Name "sorted" p) [.Call (.Name "set" p2) [a] [] q] [] pos) Γ M Q := .mk fun X S σ H at_ Q' hq =>
  PE.to (pe_sortSetI (at_.is.calm hcm) (at_.is.gl hg) (at_.is.mgN hm) (at_.is.gl hg2) (at_.is.mgN hm2) wE.pe (na _)) (h.run X S σ H at_ _ fun v1 H1 d1 M1 c1 s1 r1 ⟨ns, w, h64, q⟩ => by
    have rr := w.rep c1 r1
    cases rr with
    | lst h1 h2 =>
      have e1 := h2.ints
      subst e1
      refine ⟨_, ns, rfl, by rw [at_.is.K]; exact h1.sq, h64, fun ns' p hp hs np => ?_⟩
      obtain ⟨k1, k2, k3⟩ := fresh_lst (K := c.K) c1 np (Reps.of_ints (K := c.K) (A := av S M1) (H := H1) ns')
      exact hq _ _ _ _ k1 (s1.trans k2) k3 (q ns' hp hs))

/-! ### isinstance with a built-in type -/
def D.tyN : D → Option String
  | .non => some "NoneType"
  | .bl _ => some "bool"
  | .int _ => some "int"
  | .str _ => some "str"
  | .tup _ => some "tuple"
  | .lst _ => some "list"
  | _ => none
theorem Rep.ty {K : PySem.W.Frag} {A : AS} {v : V} {d : D} {t : String} (r : Rep K A H v d) (h : d.tyN = some t) : TyX K H v (.type t) := by
  cases d with
  | non => cases r; cases h; exact .base .non
  | bl b => cases r; cases h; exact .base (.bl b)
  | int b => cases r; cases h; exact .base (.int b)
  | str b => cases r; cases h; exact .base (.str b)
  | tup ds =>
    cases r with
    | tup h1 h2 =>
      cases h
      rcases h1 with ⟨_, h1 | ⟨o, h1⟩⟩ | ⟨o, its, n, h1, h2, _⟩
      · exact .base (.tup h1)
      · exact .fTuple h1
      · exact .kTuple h1 h2
  | lst ds =>
    cases r with
    | lst h1 h2 =>
      cases h
      rcases h1 with ⟨_, h1 | ⟨o, h1⟩⟩ | ⟨o, its, n, h1, h2, _⟩
      · exact .base (.lst h1)
      · exact .base (.frz h1)
      · exact .kList h1 h2
  | ptr a => cases h
  | obj C fs => cases h
  | exc C w => cases h
theorem we_isi {T : String} {n : Str} {p2 : Pos} {p3 : Pos} (hg : GlC c.sc "isinstance") (hm : c.mg "isinstance" = none) (hg2 : GlC c.sc n) (hm2 : c.mg n = none) (hT : bootBuiltins n = some (.type T))
    (h : WE c a Γ M fun d M1 => ∃ d' t k, View M1 d d' ∧ d'.tyN = some t ∧ kitB t T = some k ∧ Q (.bl k) M1)
    (na : ∀ env, starEach [a, .Name n p3] env = (false, eval a env) :: starEach [.Name n p3] env := by intro _; rfl) (hn : n ≠ "__name__" := by decide) (hd : (n == ("__debug__" : Str)) = false := by decide) : WE c (.Call (.Name "isinstance" p2) [a, .Name n p3] [] pos) Γ M Q := .mk fun X S σ H at_ Q' hq =>
  PE.to (pe_callB call_isi (at_.is.gl hg) (at_.is.mgN hm) PyProof.Rows.boot_isinstance (pa_cons wE.pe (pa_cons (pe_bltn (v := .ty T) (at_.is.gl hg2) (at_.is.mgN hm2) hT rfl hn hd) pa_nil) (na _)) (by decide) (by decide) (na _) (by rfl)) (h.run X S σ H at_ _ fun v1 H1 d1 M1 c1 s1 r1 ⟨d', t, k, w, ht, hk, q⟩ => by
    refine ⟨v1, .ty T, .type t, .type T, k, rfl, .ty T, ?_, kit_ty hk, hq _ _ _ _ c1 s1 .bl q⟩
    rw [at_.is.K]
    exact (w.rep c1 r1).ty ht)
theorem kit_bb : kitB "bool" "bool" = some true := by decide +kernel
theorem kit_ib : kitB "int" "bool" = some false := by decide +kernel
theorem kit_sb : kitB "str" "bool" = some false := by decide +kernel
theorem kit_tb : kitB "tuple" "bool" = some false := by decide +kernel
theorem kit_lb : kitB "list" "bool" = some false := by decide +kernel
theorem kit_bi : kitB "bool" "int" = some true := by decide +kernel
theorem kit_ii : kitB "int" "int" = some true := by decide +kernel
theorem kit_si : kitB "str" "int" = some false := by decide +kernel
theorem kit_ti : kitB "tuple" "int" = some false := by decide +kernel
theorem kit_li : kitB "list" "int" = some false := by decide +kernel
theorem kit_ss : kitB "str" "str" = some true := by decide +kernel
theorem kit_ts : kitB "tuple" "str" = some false := by decide +kernel
theorem kit_ls : kitB "list" "str" = some false := by decide +kernel
theorem kit_tl : kitB "tuple" "list" = some false := by decide +kernel
theorem kit_ll : kitB "list" "list" = some true := by decide +kernel
theorem kit_tt : kitB "tuple" "tuple" = some true := by decide +kernel
theorem kit_lt : kitB "list" "tuple" = some false := by decide +kernel
theorem kit_nb : kitB "NoneType" "bool" = some false := by decide +kernel
theorem kit_ni : kitB "NoneType" "int" = some false := by decide +kernel

/-! ### list + list, tuple + tuple -/
def rCatL (K : PySem.W.Frag) : R2 := fun x y H Q => ∃ l b xs zs, x = .ref l ∧ y = .ref b ∧ SqL K H l xs ∧ SqL K H b zs ∧ xs.length + zs.length ≤ sizeLine ∧ ∀ p, H p = none → Q (.ref p) (upd H p (.lst (xs ++ zs)))
theorem op_catL : OpR X (binaryOp .Add) (rCatL X.K) := by
  intro pins s σ H x y v u Q I rx ry h
  obtain ⟨l, b, xs, zs, rfl, rfl, hH, hB, hz, q⟩ := h
  cases rx
  cases ry
  obtain ⟨its, r, hl, _⟩ := I.list hH
  obtain ⟨its2, r2, hl2, _⟩ := I.list hB
  obtain ⟨⟨cls, dd, data, sl⟩, ho, hc, n, hd⟩ := hl.isList
  obtain ⟨⟨cls2, dd2, data2, sl2⟩, ho2, hc2, n2, hd2⟩ := hl2.isList
  simp only at hc hd hc2 hd2
  subst hc hd hc2 hd2
  refine concat_meets ⟨_, ho, rfl⟩ ⟨_, ho2, rfl⟩ noFill_list_add seq_list_add PySem.F.slot_list_add PySem.F.entry_list_add (PySem.F.args_list_add_2 _ _) (list_addW l b its.toArray its2.toArray n n2 dd dd2 sl sl2 (by rw [List.size_toArray, List.size_toArray, ← r.length, ← r2.length]; exact hz)) ⟨ho, ho2, ?_⟩
  have ea : its.toArray ++ its2.toArray = (its ++ its2).toArray := by simp
  rw [ea]
  exact ⟨.ref _, _, I.lnew (t' := s.toks) (r.append r2) (by rw [List.length_append]; omega), rfl, q _ I.fresh⟩
theorem we_addL (h : WE c a Γ M fun x M1 => WE c b Γ M1 fun y M2 => ∃ ds es, View M2 x (.lst ds) ∧ View M2 y (.lst es) ∧ ds.length + es.length ≤ sizeLine ∧ Q (.lst (ds ++ es)) M2) : WE c (.BinOp a .Add b pos) Γ M Q := .mk fun X S σ H at_ Q' hq =>
  PE.to (pe_op op_catL wE.pe wE.pe) (two h at_ fun v1 v2 H2 d1 d2 M2 c2 s2 r1 r2 ⟨ds, es, w1, w2, hz, q⟩ => by
    have toA : To S (av S M2) H2 H2 ∨ True := .inr trivial
    have get : ∀ {d : D} {ds : List D} {v : V}, View M2 d (.lst ds) → Rep c.K (av S M2) H2 v d → ∃ a vs, v = .ref a ∧ SqL c.K H2 a vs ∧ Reps c.K (av S M2) H2 vs ds := by
      intro d ds v w r
      cases w with
      | self =>
        cases r with
        | lst h1 h2 => exact ⟨_, _, rfl, h1.sq, h2⟩
      | cell hc =>
        cases r
        obtain ⟨o, ho, vs, eo, rs⟩ := c2.at_ hc
        subst eo
        exact ⟨_, _, rfl, .of ho, rs⟩
    obtain ⟨a1, v1, e1, q1, p1⟩ := get w1 r1
    obtain ⟨a2, v2, e2, q2, p2⟩ := get w2 r2
    subst e1 e2
    rw [at_.is.K]
    refine ⟨a1, a2, v1, v2, rfl, rfl, q1, q2, by rw [p1.length, p2.length]; exact hz, fun p np => ?_⟩
    obtain ⟨k1, k2, k3⟩ := fresh_lst (K := c.K) c2 np (p1.append p2)
    exact hq _ _ _ _ k1 (s2.trans k2) k3 q)
theorem we_addT (h : WE c a Γ M fun x M1 => WE c b Γ M1 fun y M2 => ∃ ds es, x = .tup ds ∧ y = .tup es ∧ ds ≠ [] ∧ ds.length + es.length ≤ sizeLine ∧ Q (.tup (ds ++ es)) M2) : WE c (.BinOp a .Add b pos) Γ M Q := .mk fun X S σ H at_ Q' hq =>
  PE.to (pe_op op_catT wE.pe wE.pe) (two h at_ fun v1 v2 H2 d1 d2 M2 c2 s2 r1 r2 ⟨ds, es, e1, e2, hn, hz, q⟩ => by
    subst e1 e2
    cases r1 with
    | tup h1 h2 =>
      cases r2 with
      | tup h3 h4 =>
        rw [at_.is.K]
        refine ⟨_, _, _, _, rfl, rfl, h1.sq, h3.sq, fun z => hn ?_, by rw [h2.length, h4.length]; exact hz, fun z => ?_, fun _ p np => ?_⟩
        · subst z; cases h2; rfl
        · subst z; cases h4
          rw [List.append_nil] at q
          exact hq _ _ _ _ c2 s2 (.tup h1 h2) q
        · exact hq _ _ _ _ (c2.new np) (s2.trans (Step.same (same_new np))) (.tup (.inl ⟨c2.free np, .inl upd_same⟩) ((h2.append h4).to (Step.same (same_new np)).to)) q)
theorem we_addS (h : WE c a Γ M fun x M1 => WE c b Γ M1 fun y M2 => ∃ i j, x = .str i ∧ y = .str j ∧ i.length + j.length ≤ sizeLine ∧ Q (.str (i ++ j)) M2) : WE c (.BinOp a .Add b pos) Γ M Q := .mk fun X S σ H at_ Q' hq =>
  PE.to (pe_op op_add_str wE.pe wE.pe) (two h at_ fun v1 v2 H2 d1 d2 M2 c2 s2 r1 r2 ⟨i, j, e1, e2, hz, q⟩ => by
    subst e1 e2; cases r1; cases r2
    exact ⟨i, j, rfl, rfl, hz, hq _ _ _ _ c2 s2 .str q⟩)
/-- e[lo:] of a tuple, lo written, below the length, not 0 -/
theorem cutV_D {K : PySem.W.Frag} {A : AS} {vs : List V} {ds : List D} {lo hi : Option Int} (r : Reps K A H vs ds) : Reps K A H (cutV vs lo hi) ((ds.drop (HT.sIx ds.length 0 lo)).take (HT.sIx ds.length ds.length hi - HT.sIx ds.length 0 lo)) := by
  unfold cutV
  rw [r.length]
  exact (r.drop _).take _
theorem we_tail {k : Int} {n : Nat} {p2 p3 : Pos} (h : WE c a Γ M fun x M1 => ∃ ds, x = .tup ds ∧ k = 1 ∧ 1 ≤ ds.length ∧ Q (.tup (ds.drop 1)) M1) : WE c (.Subscript a (.Slice (some (.Constant (.int k) n p3)) none none p2) pos) Γ M Q := .mk fun X S σ H at_ Q' hq =>
  PE.to (pe_slice sl_tup wE.pe (po_some pe_int) po_none) (h.run X S σ H at_ _ fun v1 H1 d1 M1 c1 s1 r1 ⟨ds, e1, ek, hl, q⟩ => by
    subst e1 ek
    cases r1 with
    | tup h1 h2 =>
      rw [at_.is.K]
      have e2 : (ds.drop (HT.sIx ds.length 0 (some (1 : Int)))).take (HT.sIx ds.length ds.length none - HT.sIx ds.length 0 (some (1 : Int))) = ds.drop 1 := by
        have e3 : HT.sIx ds.length 0 (some (1 : Int)) = 1 := (HT.sIx_nat ds.length 0 1).trans (Nat.min_eq_left hl)
        rw [e3]
        show (ds.drop 1).take (ds.length - 1) = ds.drop 1
        rw [List.take_of_length_le (by simp)]
      refine ⟨1, rfl, _, _, rfl, h1.sq, ?_, fun p np => ?_⟩
      · rintro ⟨z, _⟩
        have e3 : HT.sIx ds.length 0 (some (1 : Int)) = 1 := (HT.sIx_nat ds.length 0 1).trans (Nat.min_eq_left hl)
        rw [h2.length, e3] at z
        cases z
      · have r2 := cutV_D (lo := some 1) (hi := none) h2
        rw [e2] at r2
        exact hq _ _ _ _ (c1.new np) (s1.trans (Step.same (same_new np))) (.tup (.inl ⟨c1.free np, .inl upd_same⟩) (r2.to (Step.same (same_new np)).to)) q)
end
end PL
namespace PL
open PySem PySem.Spec PyProof.Rows L2
section
variable {K : PySem.W.Frag} {A : AS} {H : Hp}
theorem RepF.look : ∀ {vs : List (Str × V)} {ds : List (Str × D)} (f : Str), RepF K A H vs ds → (ds.lookup f = none ∧ vs.lookup f = none) ∨ ∃ d v, ds.lookup f = some d ∧ vs.lookup f = some v ∧ Rep K A H v d
  | _, _, _, .nil => .inl ⟨rfl, rfl⟩
  | _, _, f, .cons (f := g) (v := v) (d := d) r rs => by
    rw [List.lookup_cons, List.lookup_cons]
    cases e : f == g with
    | true => exact .inr ⟨d, v, rfl, rfl, r⟩
    | false => exact RepF.look f rs
def putD (f : Str) (v : D) : List (Str × D) → List (Str × D)
  | [] => [(f, v)]
  | (k, x) :: r => if k = f then (k, v) :: r else (k, x) :: putD f v r
theorem RepF.put : ∀ {vs : List (Str × V)} {ds : List (Str × D)} (f : Str) {v : V} {d : D}, RepF K A H vs ds → Rep K A H v d → RepF K A H (putF f v vs) (putD f d ds)
  | _, _, f, v, d, .nil, q => .cons q .nil
  | _, _, f, v, d, .cons (f := g) r rs, q => by
    unfold putF putD
    by_cases e : g = f
    · rw [if_pos e, if_pos e]; exact .cons q rs
    · rw [if_neg e, if_neg e]; exact .cons r (rs.put f q)
theorem RepF.length : ∀ {vs : List (Str × V)} {ds : List (Str × D)}, RepF K A H vs ds → vs.length = ds.length
  | _, _, .nil => rfl
  | _, _, .cons _ rs => by rw [List.length_cons, List.length_cons, rs.length]
end
/-- an instance, a cell or data -/
inductive ObjAt (M : Cells) : D → Addr → List (Str × D) → Prop
  | obj {C fs} : ObjAt M (.obj C fs) C fs
  | cell {i : Nat} {p : Addr} {C : Addr} {fs : List (Str × D)} : M[i]? = some (p, .ins C fs) → ObjAt M (.ptr p) C fs
section
variable {c : Ctx} {X : Cx} {S : AS} {Γ Γ' : Gam} {M M' : Cells} {σ σ' : L2.St} {H H' : Hp} {a b e o value : Expr} {es : List Expr} {pos pos' p apos : Pos} {Q : D → Cells → Prop} {R : Bool → Cells → Prop} {x m : Str} {E : PEnds} {C : Addr}
theorem ObjAt.get {d : D} {fs : List (Str × D)} {v : V} (h : ObjAt M d C fs) (cr : Core c.K S M H) (r : Rep c.K (av S M) H v d) : ∃ a dx vs, v = .ref a ∧ H a = some (.ins C dx vs) ∧ RepF c.K (av S M) H vs fs := by
  cases h with
  | obj =>
    cases r with
    | obj h1 h2 h3 => exact ⟨_, _, _, rfl, h2, h3⟩
  | cell hi =>
    cases r
    obtain ⟨o, ho, dx, vs, eo, rs⟩ := cr.at_ hi
    subst eo
    exact ⟨_, dx, vs, rfl, ho, rs⟩
/-- e.f -/
theorem we_fld {f : Str} (h : WE c e Γ M fun x M1 => ∃ C fs d, ObjAt M1 x C fs ∧ Cls c.K C ∧ NoAttr c.K C f ∧ fs.lookup f = some d ∧ Q d M1) (hb : ∀ env, attributeBase e f env (eval e env) = eval e env := by intro _; rfl) : WE c (.Attribute e f pos) Γ M Q := .mk fun X S σ H at_ Q' hq =>
  PE.to (pe_fld wE.pe (hb _)) (h.run X S σ H at_ _ fun v1 H1 d1 M1 c1 s1 r1 ⟨C, fs, d, ho, cl, na, l, q⟩ => by
    obtain ⟨a, dx, vs, e1, h1, rf⟩ := ho.get c1 r1
    rcases rf.look f with ⟨l1, _⟩ | ⟨d', v, l1, l2, r⟩
    · rw [l] at l1; cases l1
    · rw [l] at l1
      have := Option.some.inj l1
      subst this
      rw [at_.is.K]
      exact ⟨a, C, dx, vs, v, e1, h1, cl, na, l2, hq _ _ _ _ c1 s1 r q⟩)
/-- o.f = value -/
theorem ws_fld {f : Str} (h : WE c value Γ M fun d M1 => WE c o Γ M1 fun x M2 => ∃ p i C fs, x = .ptr p ∧ M2[i]? = some (p, .ins C fs) ∧ Cls c.K C ∧ NoAttr c.K C f ∧ fs.length < 1000 ∧ E.nx Γ (M2.set i (p, .ins C (putD f d fs))))
    (hs : ∀ env, swapsWith value (some (.Attribute o f pos')) pos.line env = pure false := by intro _; rfl) : WS c (.Assign [.Attribute o f pos'] value pos) E Γ M := .mk fun X S σ H at_ Ds l =>
  PS.to (ps_fld wE.pe wE.pe (hs _)) (two h at_ fun v1 v2 H2 d1 d2 M2 c2 s2 r1 r2 ⟨p, i, C, fs, e1, hi, cl, na, hl, q⟩ => by
    subst e1; cases r2
    obtain ⟨oo, ho, dx, vs, eo, rs⟩ := c2.at_ hi
    subst eo
    have kp := c2.put (m' := .ins C (putD f d1 fs)) (o := .ins C dx (putF f v1 vs)) hi ⟨dx, _, rfl, rs.put f r1⟩
    rw [at_.is.K]
    exact ⟨p, C, dx, vs, rfl, ho, cl, na, by rw [rs.length]; exact hl, l.nx _ _ _ _ kp.1 (at_.slots.to (s2.trans kp.2).to) (s2.trans kp.2) q⟩)
/-- a method that stands -/
structure MDef (P : Program) (w : World) (K : PySem.W.Frag) (mg : Str → Option Value) (base : Heap) (C : Addr) (m : Str) (f : Addr) (fd : FuncData) (ps : List Str) (k : Nat) (pf : PF) : Prop where
  cl : Cls K C
  me : Meth K C m f
  binds : Binds K fd ps []
  ok : FnOk P w K mg base (L2.CX P w) k f fd ps (liftF K pf)
/-- a class that stands, by its __init__ -/
structure CDef (P : Program) (w : World) (K : PySem.W.Frag) (mg : Str → Option Value) (base : Heap) (x : Str) (C f : Addr) (fd : FuncData) (ps : List Str) (k : Nat) (pf : PF) : Prop where
  mgx : mg x = some (.ref C)
  cl : Cls K C
  mkc : Mk K C f
  binds : Binds K fd ps []
  ok : FnOk P w K mg base (L2.CX P w) k f fd ps (liftF K pf)
theorem we_meth {pl : Env → Sem Bool} {f : Addr} {fd : FuncData} {ps : List Str} {k : Nat} {pf : PF} (F : MDef c.P c.w c.K c.mg c.base C m f fd ps k pf) (hk : k ≤ c.k)
    (h : WE c o Γ M fun x M1 => ∃ fs, ObjAt M1 x C fs ∧ fs.lookup m = none ∧ WA c (e :: es) Γ M1 fun ds M2 => Callee c pf Γ (x :: ds) M2 Q)
    (he : ∀ env, starEach (e :: es) env = (false, eval e env) :: starEach es env := by intro _; rfl) (hpl : ∀ env, (backTo pos (starEach es env)).any (·.1) = false := by intro _; rfl)
    (ht : ∀ env, eval (.Call (.Attribute o m apos) (e :: es) [] pos) env = (do
      let ov ← eval o env
      standAt apos.atName
      let (f, first) ← holding [ov] (getMethod ov m (pl env))
      callWith pos f first (backTo pos (starEach (e :: es) env)) (backToKw pos (keywordEach [] env))) := by intro _; rfl) (hcm : c.calm = true := by first | rfl | assumption) :
    WE c (.Call (.Attribute o m apos) (e :: es) [] pos) Γ M Q := .mk fun X S σ H at_ Q' hq => by
  obtain ⟨W, tk, hW⟩ := at_.land
  have eP := at_.is.prog; have ew := at_.is.w; have eK := at_.is.K; have emg := at_.is.mg; have eb := at_.is.base
  have G : FnOk X.prog X.w X.K X.mg X.base (L2.CX X.prog X.w) k f fd ps (liftF c.K pf) := by rw [eP, ew, eK, emg, eb]; exact F.ok
  have hc : Cls X.K C := by rw [eK]; exact F.cl
  have hm : Meth X.K C m f := by rw [eK]; exact F.me
  have hb : Binds X.K fd ps [] := by rw [eK]; exact F.binds
  intro pins s I
  refine PySem.W.methodCall_KW (pl := pl X.env) (thn ((h.run X S σ H at_ (fun x H1 => ∃ a dx fs, x = .ref a ∧ H1 a = some (.ins C dx fs) ∧ fs.lookup m = none ∧ wA X (e :: es) σ H1 fun vs H2 => liftF c.K pf (x :: vs) H2 Q' (fun cls d H' => W cls d σ H')) ?_) pins s I) fun u s1 ⟨x, H1, I1, rx, a, dx, fs, ex, ea, l, q⟩ => ?_) (ht _)
  · rintro v1 H1 d1 M1 c1 s1 r1 ⟨fs, ho, l, q⟩
    obtain ⟨a, dx, vs, e1, h1, rf⟩ := ho.get c1 r1
    refine ⟨a, dx, vs, e1, h1, ?_, ?_⟩
    · rcases rf.look m with ⟨_, l2⟩ | ⟨d', v, l1, l2, r⟩
      · exact l2
      · rw [l] at l1; cases l1
    · refine q.run X S σ H1 (at_.step c1 s1) _ fun vs H2 ds M2 c2 s2 r2 q2 => ?_
      exact q2.lift (at_.step c2 (s1.trans s2)) (.cons (r1.to s2.to) r2) (fun C dd v d σ' H' Γ' M' c3 sl3 st3 => hW C dd v d σ' H' Γ' M' c3 sl3 ((s1.trans s2).trans st3)) fun v H' d M' c3 st3 => hq v H' d M' c3 ((s1.trans s2).trans st3)
  · subst ex
    obtain rfl : u = Value.ref a := rx
    refine getmeth_ok I1 ea hc hm l ?_
    refine PySem.W.callWith_K (first := [.ref a]) (h₀ := X.base) I.ok.mod.kin hm.kp (thn (q pos pins s1 I1) fun us s2 ⟨vs, H2, I2, r, q2⟩ => ⟨I2.kIn, ?_⟩) (he _) (hpl _)
    exact run_fnS (E := L2.WE W) (us := .ref a :: us) (vs := .ref a :: vs) G ((at_.is.room hcm).mono hk) hb (passAt tk σ) I2 (.cons rfl r) q2
theorem we_meth0 {pl : Env → Sem Bool} {f : Addr} {fd : FuncData} {ps : List Str} {k : Nat} {pf : PF} (F : MDef c.P c.w c.K c.mg c.base C m f fd ps k pf) (hk : k ≤ c.k)
    (h : WE c o Γ M fun x M1 => ∃ fs, ObjAt M1 x C fs ∧ fs.lookup m = none ∧ Callee c pf Γ [x] M1 Q)
    (ht : ∀ env, eval (.Call (.Attribute o m apos) [] [] pos) env = (do
      let ov ← eval o env
      standAt apos.atName
      let (f, first) ← holding [ov] (getMethod ov m (pl env))
      callWith pos f first (backTo pos (starEach [] env)) (backToKw pos (keywordEach [] env))) := by intro _; rfl) (hcm : c.calm = true := by first | rfl | assumption) :
    WE c (.Call (.Attribute o m apos) [] [] pos) Γ M Q := .mk fun X S σ H at_ Q' hq => by
  obtain ⟨W, tk, hW⟩ := at_.land
  have eP := at_.is.prog; have ew := at_.is.w; have eK := at_.is.K; have emg := at_.is.mg; have eb := at_.is.base
  have G : FnOk X.prog X.w X.K X.mg X.base (L2.CX X.prog X.w) k f fd ps (liftF c.K pf) := by rw [eP, ew, eK, emg, eb]; exact F.ok
  have hc : Cls X.K C := by rw [eK]; exact F.cl
  have hm : Meth X.K C m f := by rw [eK]; exact F.me
  have hb : Binds X.K fd ps [] := by rw [eK]; exact F.binds
  intro pins s I
  refine PySem.W.methodCall_KW (pl := pl X.env) (thn ((h.run X S σ H at_ (fun x H1 => ∃ a dx fs, x = .ref a ∧ H1 a = some (.ins C dx fs) ∧ fs.lookup m = none ∧ liftF c.K pf [x] H1 Q' (fun cls d H' => W cls d σ H')) ?_) pins s I) fun u s1 ⟨x, H1, I1, rx, a, dx, fs, ex, ea, l, q⟩ => ?_) (ht _)
  · rintro v1 H1 d1 M1 c1 s1 r1 ⟨fs, ho, l, q⟩
    obtain ⟨a, dx, vs, e1, h1, rf⟩ := ho.get c1 r1
    refine ⟨a, dx, vs, e1, h1, ?_, ?_⟩
    · rcases rf.look m with ⟨_, l2⟩ | ⟨d', v, l1, l2, r⟩
      · exact l2
      · rw [l] at l1; cases l1
    · exact q.lift (at_.step c1 s1) (.cons r1 .nil) (fun C dd v d σ' H' Γ' M' c3 sl3 st3 => hW C dd v d σ' H' Γ' M' c3 sl3 (s1.trans st3)) fun v H' d M' c3 st3 => hq v H' d M' c3 (s1.trans st3)
  · subst ex
    obtain rfl : u = Value.ref a := rx
    refine getmeth_ok I1 ea hc hm l ?_
    exact PySem.W.callWith_K0 (first := [.ref a]) I1.kIn hm.kp (run_fnS (E := L2.WE W) (us := [.ref a]) (vs := [.ref a]) G ((at_.is.room hcm).mono hk) hb (passAt tk σ) I1 (.cons rfl .nil) q)
/-- n values, then names alone, all parameters given: is puts the keywords' values in the parameters' order -/
structure KwN (K : PySem.W.Frag) (fd : FuncData) (ps ks : List Str) (is : List Nat) (n : Nat) : Prop where
  to : ∀ (s : Shared) (us ws : List Value), K.In s.heap → us.length = n → ws.length = ks.length → BindsTo s fd ⟨us, ks.zip ws⟩ (ps.zip (us ++ pick is ws))
theorem Vals.pick {zs : List V} {ws : List Value} (rz : Vals zs ws) : ∀ is : List Nat, Vals (PL.pick is zs) (PL.pick is ws)
  | [] => .nil
  | i :: is => by
    have ih := Vals.pick rz is
    unfold PL.pick at ih ⊢
    cases e : zs[i]? with
    | none =>
      have e2 := rz.none_of e
      rw [List.filterMap_cons, List.filterMap_cons, e, e2]
      exact ih
    | some v =>
      obtain ⟨u, hu, ru⟩ := rz.get e
      rw [List.filterMap_cons, List.filterMap_cons, e, hu]
      exact .cons ru ih
theorem run_fnK {CX : CXT} {k n : Nat} {f : Addr} {fd : FuncData} {ps ks : List Str} {is : List Nat} {sp : Sp} {E : XK} {pins : List (Addr × Obj)} {σ : L2.St} {H : Hp} {s : Shared} {Q : VK} {us ws : List Value} {vs zs : List V} (F : FnOk X.prog X.w X.K X.mg X.base CX k f fd ps sp) (hr : Room k X.A) (hb : KwN X.K fd ps ks is n) (hx : PassesAt CX X σ E)
    (I : Inv X pins σ H s) (r : Vals vs us) (rz : Vals zs ws) (l1 : vs.length = n) (l2 : zs.length = ks.length) (h : sp (vs ++ pick is zs) H Q E) : wpAny (model X.prog X.w) X.A (call (.ref f) us (ks.zip ws)) (EP X pins σ Q) X.xe s := by
  refine wpAny_call (codeAny_mono (F.run X.A X.stack s H ⟨us, ks.zip ws⟩ (us ++ pick is ws) (vs ++ pick is zs) Q E hr I.env0 (hb.to s us ws I.kIn (by rw [← r.length, l1]) (by rw [← rz.length, l2])) (r.append (Vals.pick rz is)) h) fun r s' hq => ?_)
  cases r with
  | error e => exact hx pins H s e s' I hq
  | ok fl =>
    cases fl with
    | ret u => exact I.after hq
    | next => exact False.elim hq
    | brk => exact False.elim hq
    | cont => exact False.elim hq
theorem kwn_of {K : PySem.W.Frag} {x qual : Str} {st : Stmt} {f : Addr} {fd : FuncData} {ps ks : List Str} {is : List Nat} {n : Nat} (F : Fun K x qual st f fd)
    (h : ∀ (kV doc pm : Value) (an : Option Addr) (cdv ct : Value) (us ws : List Value), us.length = n → ws.length = ks.length → bindArgs (PySem.W.fnOf x qual (defArgs st) (defBody st) (defScope st) .none kV doc pm an cdv ct) ⟨us, ks.zip ws⟩ = pure (ps.zip (us ++ pick is ws))) : KwN K fd ps ks is n := by
  obtain ⟨oc, od, kV, doc, pm, an, cdv, ct, osl, rfl, lk, hcd⟩ := F.ex
  exact ⟨fun s us ws _ h1 hl => .of_eq (h kV doc pm an cdv ct us ws h1 hl)⟩
/-- o.m(k = v, ..) -/
theorem we_methK {pl : Env → Sem Bool} {f : Addr} {fd : FuncData} {ps ks : List Str} {is : List Nat} {k : Nat} {pf : PF} {kws : List Keyword} (F : MDef c.P c.w c.K c.mg c.base C m f fd ps k pf) (B : KwN c.K fd ps ks is 1) (hk : k ≤ c.k)
    (h : WE c o Γ M fun x M1 => ∃ fs, ObjAt M1 x C fs ∧ fs.lookup m = none ∧ WK c kws Γ M1 fun ds M2 => ds.length = ks.length ∧ Callee c pf Γ (x :: pick is ds) M2 Q)
    (hall : ∀ env, (backToKw pos (keywordEach kws env)).all (·.1.isSome) = true := by intro _; rfl) (hks : ∀ env, (backToKw pos (keywordEach kws env)).filterMap (·.1) = ks := by intro _; rfl)
    (hpl : ∀ env, ((backTo pos (starEach [] env)).any (·.1) || (backToKw pos (keywordEach kws env)).any (·.1.isNone)) = false := by intro _; rfl)
    (ht : ∀ env, eval (.Call (.Attribute o m apos) [] kws pos) env = (do
      let ov ← eval o env
      standAt apos.atName
      let (f, first) ← holding [ov] (getMethod ov m (pl env))
      callWith pos f first (backTo pos (starEach [] env)) (backToKw pos (keywordEach kws env))) := by intro _; rfl) (hcm : c.calm = true := by first | rfl | assumption) :
    WE c (.Call (.Attribute o m apos) [] kws pos) Γ M Q := .mk fun X S σ H at_ Q' hq => by
  obtain ⟨W, tk, hW⟩ := at_.land
  have eP := at_.is.prog; have ew := at_.is.w; have eK := at_.is.K; have emg := at_.is.mg; have eb := at_.is.base
  have G : FnOk X.prog X.w X.K X.mg X.base (L2.CX X.prog X.w) k f fd ps (liftF c.K pf) := by rw [eP, ew, eK, emg, eb]; exact F.ok
  have hc : Cls X.K C := by rw [eK]; exact F.cl
  have hm : Meth X.K C m f := by rw [eK]; exact F.me
  have hb : KwN X.K fd ps ks is 1 := by rw [eK]; exact B
  intro pins s I
  refine PySem.W.methodCall_KW (pl := pl X.env) (thn ((h.run X S σ H at_ (fun x H1 => ∃ a dx fs, x = .ref a ∧ H1 a = some (.ins C dx fs) ∧ fs.lookup m = none ∧ wK X kws σ H1 fun vs H2 => vs.length = ks.length ∧ liftF c.K pf (x :: pick is vs) H2 Q' (fun cls d H' => W cls d σ H')) ?_) pins s I) fun u s1 ⟨x, H1, I1, rx, a, dx, fs, ex, ea, l, q⟩ => ?_) (ht _)
  · rintro v1 H1 d1 M1 c1 s1 r1 ⟨fs, ho, l, q⟩
    obtain ⟨a, dx, vs, e1, h1, rf⟩ := ho.get c1 r1
    refine ⟨a, dx, vs, e1, h1, ?_, ?_⟩
    · rcases rf.look m with ⟨_, l2⟩ | ⟨d', v, l1, l2, r⟩
      · exact l2
      · rw [l] at l1; cases l1
    · refine q.run X S σ H1 (at_.step c1 s1) _ fun vs H2 ds M2 c2 s2 r2 ⟨lq, q2⟩ => ⟨by rw [r2.length, lq], ?_⟩
      exact q2.lift (at_.step c2 (s1.trans s2)) (.cons (r1.to s2.to) (r2.pick is)) (fun C dd v d σ' H' Γ' M' c3 sl3 st3 => hW C dd v d σ' H' Γ' M' c3 sl3 ((s1.trans s2).trans st3)) fun v H' d M' c3 st3 => hq v H' d M' c3 ((s1.trans s2).trans st3)
  · subst ex
    obtain rfl : u = Value.ref a := rx
    refine getmeth_ok I1 ea hc hm l ?_
    refine PySem.W.callWith_KW0 (first := [.ref a]) (h₀ := X.base) I.ok.mod.kin hm.kp (hall _) ?_ (hpl _)
    refine thn (q pos pins s1 I1) fun ws s2 ⟨zs, H2, I2, rz, l2, q2⟩ => ⟨I2.kIn, ?_⟩
    rw [hks]
    exact run_fnK (E := L2.WE W σ) (us := [.ref a]) (vs := [.ref a]) G ((at_.is.room hcm).mono hk) hb (passAt tk σ) I2 (.cons rfl .nil) rz rfl l2 q2

/-! ### new instances -/
theorem Core.perm {K : PySem.W.Frag} {M M2 : Cells} (pm : M.Perm M2) (cr : Core K S M H) : Core K S M2 H ∧ Step M M2 H H := by
  have pd : (dom M).Perm (dom M2) := pm.map _
  have st : Step M M2 H H := ⟨fun _ _ _ h => h, fun _ h => h, fun b hb => .inl (pd.mem_iff.mpr hb)⟩
  exact ⟨⟨cr.known, pd.nodup_iff.mp cr.nod, fun a ha => cr.dis a (pd.mem_iff.mpr ha), fun q hq => CellAt.to st.to (fun _ e => e) (cr.cells q (pm.mem_iff.mpr hq))⟩, st⟩
theorem wss_perm {rest : List Stmt} {M2 : Cells} (pm : M.Perm M2) (h : WSs c rest E Γ M2) : WSs c rest E Γ M := .mk fun X S σ H at_ Ds l => by
  obtain ⟨c1, s1⟩ := at_.core.perm pm
  exact h.run X S σ H (at_.step c1 s1) Ds (l.step s1)
/-- an instance that was made is done: data from now on -/
theorem Core.freezeO (cr : Core c.K S M H) {i : Nat} {p : Addr} {fs : List (Str × D)} (h : M[i]? = some (p, .ins C fs)) : Core c.K S (M.eraseIdx i) H ∧ Rep c.K (av S (M.eraseIdx i)) H (.ref p) (.obj C fs) ∧ Step M (M.eraseIdx i) H H := by
  have sub : (M.eraseIdx i).Sublist M := List.eraseIdx_sublist _ _
  have subd : (dom (M.eraseIdx i)).Sublist (dom M) := sub.map _
  have np : p ∉ dom (M.eraseIdx i) := by
    intro z
    obtain ⟨q, hq, e⟩ := List.mem_map.mp z
    obtain ⟨j, hj⟩ := List.getElem?_of_mem hq
    rw [List.getElem?_eraseIdx] at hj
    have e1 : (dom M)[i]? = some p := by unfold dom; rw [List.getElem?_map, h]; rfl
    have nd := cr.nod
    obtain ⟨h1, g1⟩ := List.getElem?_eq_some_iff.mp e1
    have fin : ∀ m, (dom M)[m]? = some p → m = i := fun m hm => by
      obtain ⟨h2, g2⟩ := List.getElem?_eq_some_iff.mp hm
      exact (List.getElem_inj nd).mp (g2.trans g1.symm)
    split at hj
    · have := fin j (by unfold dom; rw [List.getElem?_map, hj]; show some q.1 = some p; rw [e])
      omega
    · have := fin (j + 1) (by unfold dom; rw [List.getElem?_map, hj]; show some q.1 = some p; rw [e])
      omega
  have st : Step M (M.eraseIdx i) H H := ⟨fun _ _ _ h => h, fun _ h => h, fun b hb => .inl (subd.subset hb)⟩
  obtain ⟨o, ho, dx, vs, e, rs⟩ := cr.at_ h
  subst e
  have hp : p ∈ dom M := List.mem_map.mpr ⟨_, List.mem_of_getElem? h, rfl⟩
  refine ⟨⟨cr.known, cr.nod.sublist subd, fun a ha => cr.dis a (subd.subset ha), fun q hq => CellAt.to st.to (fun _ e => e) (cr.cells q (sub.subset hq))⟩, .obj (fun z => ?_) ho (rs.to st.to), st⟩
  rcases z with z | z
  · exact cr.dis p hp z
  · exact np z
theorem wss_freezeO {rest : List Stmt} {j i : Nat} {p : Addr} {fs : List (Str × D)} (hΓ : Γ[j]? = some (some (.ptr p))) (hM : M[i]? = some (p, .ins C fs)) (h : WSs c rest E (Γ.set j (some (.obj C fs))) (M.eraseIdx i)) : WSs c rest E Γ M := .mk fun X S σ H at_ Ds l => by
  obtain ⟨c1, r1, s1⟩ := at_.core.freezeO hM
  obtain ⟨v, hv, r⟩ := at_.slots.at_ j _ hΓ
  cases r
  have sl := (at_.slots.to s1.to).set (i := j) r1
  have e : σ.set j (some (V.ref p)) = σ := by
    obtain ⟨h1, g1⟩ := List.getElem?_eq_some_iff.mp hv
    rw [← g1, List.set_getElem_self]
  rw [e] at sl
  exact h.run X S σ H (at_.slot c1 sl s1) Ds (l.step s1)
/-- what __init__ is given -/
theorem make_core {K : PySem.W.Frag} {q dx : Addr} (cr : Core c.K S M H) (h1 : H q = none) (h2 : H dx = none) (hne : dx ≠ q) :
    Core c.K S (M ++ [(q, .ins C [])]) (upd (upd H dx (.own q)) q (.ins C dx [])) ∧ Step M (M ++ [(q, .ins C [])]) H (upd (upd H dx (.own q)) q (.ins C dx [])) := by
  have c1 := cr.new (p := dx) (o := .own q) h2
  have n1 : upd H dx (.own q) q = none := by rw [upd_ne (fun z => hne z.symm)]; exact h1
  have k := c1.cell (p := q) (o := .ins C dx []) (m := .ins C []) n1 ⟨dx, [], rfl, .nil⟩
  have pm : ((q, MO.ins C []) :: M).Perm (M ++ [(q, .ins C [])]) := (List.perm_append_comm (l₁ := [(q, MO.ins C [])]) (l₂ := M))
  obtain ⟨c2, s2⟩ := k.1.perm pm
  exact ⟨c2, ((Step.same (same_new h2)).trans k.2).trans s2⟩
/-- C(e, ..) -/
theorem we_make {f : Addr} {fd : FuncData} {ps : List Str} {k : Nat} {pf : PF} (F : CDef c.P c.w c.K c.mg c.base x C f fd ps k pf) (hk : k + 1 ≤ c.k) (hg : GlC c.sc x)
    (h : WA c (e :: es) Γ M fun ds M1 => ∀ q, Callee c pf Γ (.ptr q :: ds) (M1 ++ [(q, .ins C [])]) fun d M2 => d = .non ∧ Q (.ptr q) M2)
    (hdb : (x == ("__debug__" : Str)) = false := by decide) (he : ∀ env, starEach (e :: es) env = (false, eval e env) :: starEach es env := by intro _; rfl) (hpl : ∀ env, (backTo pos (starEach es env)).any (·.1) = false := by intro _; rfl) (hcm : c.calm = true := by first | rfl | assumption) :
    WE c (.Call (.Name x p) (e :: es) [] pos) Γ M Q := .mk fun X S σ H at_ Q' hq => by
  obtain ⟨W, tk, hW⟩ := at_.land
  have eP := at_.is.prog; have ew := at_.is.w; have eK := at_.is.K; have emg := at_.is.mg; have eb := at_.is.base
  have G : FnOk X.prog X.w X.K X.mg X.base (L2.CX X.prog X.w) k f fd ps (liftF c.K pf) := by rw [eP, ew, eK, emg, eb]; exact F.ok
  have hM : Mk X.K C f := by rw [eK]; exact F.mkc
  have hb : Binds X.K fd ps [] := by rw [eK]; exact F.binds
  intro pins s I
  refine wpAny_Call_Name_kw (ld_glob I (at_.is.gl hg) (at_.is.mgN F.mgx) ?_ hdb)
  refine PySem.W.callWith_K (h₀ := X.base) I.ok.mod.kin hM.kp (thn ((h.run X S σ H at_ (fun vs H1 => ∀ q dx, H1 q = none → H1 dx = none → dx ≠ q → liftF c.K pf (.ref q :: vs) (upd (upd H1 dx (.own q)) q (.ins C dx [])) (fun v H2 => v = .non ∧ Q' (.ref q) H2) (fun cls d H' => W cls d σ H')) ?_) pos pins s I) fun us s1 ⟨vs, H1, I1, r, q1⟩ => ⟨I1.kIn, ?_⟩) (he _) (hpl _)
  · intro vs H1 ds M1 c1 s1 r1 q q0 dx n1 n2 ne
    obtain ⟨c2, s2⟩ := make_core (K := c.K) (C := C) c1 n1 n2 ne
    refine (q q0).lift (at_.step c2 (s1.trans s2)) (.cons .ptr (r1.to s2.to)) (fun C dd v d σ' H' Γ' M' c3 sl3 st3 => hW C dd v d σ' H' Γ' M' c3 sl3 ((s1.trans s2).trans st3)) fun v H' d M' c3 st3 r3 ⟨ed, q3⟩ => ?_
    subst ed; cases r3
    exact ⟨rfl, hq _ _ _ _ c3 ((s1.trans s2).trans st3) .ptr q3⟩
  · have hq0 := q1 (s1.heap.objs.size + 1) s1.heap.objs.size (I1.hok.fresh (Nat.le_succ _)) (I1.hok.fresh (Nat.le_refl _)) (Nat.ne_of_lt (Nat.lt_succ_self _))
    have I2 := Inv.made (C := C) I1
    have r2 : Vals (V.ref (s1.heap.objs.size + 1) :: vs) (Value.ref (s1.heap.objs.size + 1) :: us) := .cons rfl r
    have hl : (Value.ref (s1.heap.objs.size + 1) :: us).length = ps.length := by rw [← r2.length]; exact G.len _ _ _ _ hq0
    have b := hb _ (Value.ref (s1.heap.objs.size + 1) :: us) I2.kIn (by rw [List.append_nil]; exact hl)
    rw [List.append_nil] at b
    refine wpAny_call (make_map (f := f) I1.kIn hM.makes hM.init (beq_iff_eq.mp hM.fn) (codeAny_mono (G.run _ X.stack _ _ ⟨Value.ref (s1.heap.objs.size + 1) :: us, []⟩ (Value.ref (s1.heap.objs.size + 1) :: us) _ _ _ (((at_.is.room hcm).mono hk).make C us [])
      (I2.env0.make C us []) b r2 hq0) fun r s' hq' => ?_))
    cases r with
    | error e => exact passAt tk σ pins _ _ e s' I2 hq'
    | ok fl =>
      cases fl with
      | ret u =>
        obtain ⟨v, H', I3, rv, ev, q3⟩ := I2.after hq'
        subst ev
        exact ⟨rv, ⟨V.ref (s1.heap.objs.size + 1), H', I3, rfl, q3⟩⟩
      | next => exact False.elim hq'
      | brk => exact False.elim hq'
      | cont => exact False.elim hq'
/-- C(k = v, ..) -/
theorem we_makeK {f : Addr} {fd : FuncData} {ps ks : List Str} {is : List Nat} {k : Nat} {pf : PF} {kws : List Keyword} (F : CDef c.P c.w c.K c.mg c.base x C f fd ps k pf) (B : KwN c.K fd ps ks is 1) (hk : k + 1 ≤ c.k) (hg : GlC c.sc x)
    (h : WK c kws Γ M fun ds M1 => ds.length = ks.length ∧ ∀ q, Callee c pf Γ (.ptr q :: pick is ds) (M1 ++ [(q, .ins C [])]) fun d M2 => d = .non ∧ Q (.ptr q) M2)
    (hall : ∀ env, (backToKw pos (keywordEach kws env)).all (·.1.isSome) = true := by intro _; rfl) (hks : ∀ env, (backToKw pos (keywordEach kws env)).filterMap (·.1) = ks := by intro _; rfl)
    (hpl : ∀ env, ((backTo pos (starEach [] env)).any (·.1) || (backToKw pos (keywordEach kws env)).any (·.1.isNone)) = false := by intro _; rfl)
    (hdb : (x == ("__debug__" : Str)) = false := by decide) (hcm : c.calm = true := by first | rfl | assumption) :
    WE c (.Call (.Name x p) [] kws pos) Γ M Q := .mk fun X S σ H at_ Q' hq => by
  obtain ⟨W, tk, hW⟩ := at_.land
  have eP := at_.is.prog; have ew := at_.is.w; have eK := at_.is.K; have emg := at_.is.mg; have eb := at_.is.base
  have G : FnOk X.prog X.w X.K X.mg X.base (L2.CX X.prog X.w) k f fd ps (liftF c.K pf) := by rw [eP, ew, eK, emg, eb]; exact F.ok
  have hM : Mk X.K C f := by rw [eK]; exact F.mkc
  have hb : KwN X.K fd ps ks is 1 := by rw [eK]; exact B
  intro pins s I
  refine wpAny_Call_Name_kw (ld_glob I (at_.is.gl hg) (at_.is.mgN F.mgx) ?_ hdb)
  refine PySem.W.callWith_KW0 (h₀ := X.base) I.ok.mod.kin hM.kp (hall _) ?_ (hpl _)
  refine thn ((h.run X S σ H at_ (fun vs H1 => vs.length = ks.length ∧ ∀ q dx, H1 q = none → H1 dx = none → dx ≠ q → liftF c.K pf (.ref q :: pick is vs) (upd (upd H1 dx (.own q)) q (.ins C dx [])) (fun v H2 => v = .non ∧ Q' (.ref q) H2) (fun cls d H' => W cls d σ H')) ?_) pos pins s I) fun ws s1 ⟨zs, H1, I1, rz, l1, q1⟩ => ⟨I1.kIn, ?_⟩
  · rintro vs H1 ds M1 c1 s1 r1 ⟨lq, q⟩
    refine ⟨by rw [r1.length, lq], fun q0 dx n1 n2 ne => ?_⟩
    obtain ⟨c2, s2⟩ := make_core (K := c.K) (C := C) c1 n1 n2 ne
    refine (q q0).lift (at_.step c2 (s1.trans s2)) (.cons .ptr ((r1.pick is).to s2.to)) (fun C dd v d σ' H' Γ' M' c3 sl3 st3 => hW C dd v d σ' H' Γ' M' c3 sl3 ((s1.trans s2).trans st3)) fun v H' d M' c3 st3 r3 ⟨ed, q3⟩ => ?_
    subst ed; cases r3
    exact ⟨rfl, hq _ _ _ _ c3 ((s1.trans s2).trans st3) .ptr q3⟩
  · rw [hks]
    have hq0 := q1 (s1.heap.objs.size + 1) s1.heap.objs.size (I1.hok.fresh (Nat.le_succ _)) (I1.hok.fresh (Nat.le_refl _)) (Nat.ne_of_lt (Nat.lt_succ_self _))
    have I2 := Inv.made (C := C) I1
    have r2 : Vals (V.ref (s1.heap.objs.size + 1) :: pick is zs) (Value.ref (s1.heap.objs.size + 1) :: pick is ws) := .cons rfl (Vals.pick rz is)
    refine wpAny_call (make_map (f := f) I1.kIn hM.makes hM.init (beq_iff_eq.mp hM.fn) (codeAny_mono (G.run _ X.stack _ _ ⟨[Value.ref (s1.heap.objs.size + 1)], ks.zip ws⟩ ([Value.ref (s1.heap.objs.size + 1)] ++ pick is ws) _ _ _ (((at_.is.room hcm).mono hk).make C [] (ks.zip ws))
      (I2.env0.make C [] (ks.zip ws)) (hb.to _ [Value.ref (s1.heap.objs.size + 1)] ws I2.kIn rfl (by rw [← rz.length, l1])) r2 hq0) fun r s' hq' => ?_))
    cases r with
    | error e => exact passAt tk σ pins _ _ e s' I2 hq'
    | ok fl =>
      cases fl with
      | ret u =>
        obtain ⟨v, H', I3, rv, ev, q3⟩ := I2.after hq'
        subst ev
        exact ⟨rv, ⟨V.ref (s1.heap.objs.size + 1), H', I3, rfl, q3⟩⟩
      | next => exact False.elim hq'
      | brk => exact False.elim hq'
      | cont => exact False.elim hq'
end
end PL
namespace PL
open PySem PySem.Spec PyProof.Rows L2
/-- a module's constant -/
def PGlob (K : PySem.W.Frag) (mg : Str → Option Value) (x : Str) (d : D) : Prop := ∃ u v, mg x = some u ∧ RelV v u ∧ ∀ A H, Rep K A H v d
theorem glob_str {K : PySem.W.Frag} {mg : Str → Option Value} {x s : Str} {t : Tok} (h : mg x = some (.str s t)) : PGlob K mg x (.str s) := ⟨_, .str s, h, ⟨_, rfl⟩, fun _ _ => .str⟩
theorem glob_int {K : PySem.W.Frag} {mg : Str → Option Value} {x : Str} {i : Int} {t : Tok} (h : mg x = some (.int i t)) : PGlob K mg x (.int i) := ⟨_, .int i, h, ⟨_, rfl⟩, fun _ _ => .int⟩
theorem reps_strs {K : PySem.W.Frag} {A : AS} {H : Hp} : ∀ xs : List Str, Reps K A H (xs.map V.str) (xs.map D.str)
  | [] => .nil
  | _ :: xs => .cons .str (reps_strs xs)
theorem glob_strs {K : PySem.W.Frag} {mg : Str → Option Value} {x : Str} {a : Addr} {o : Obj} {its : Array Value} {n : Nat} {xs : List Str} (h : mg x = some (.ref a)) (l : K.lookup a = some o) (hc : o.cls = .type "tuple") (hd : o.data = .seq its n) (hz : its.size ≤ sizeLine) (hv : Vals (xs.map V.str) its.toList) : PGlob K mg x (.tup (xs.map D.str)) :=
  ⟨_, .ref a, h, rfl, fun A H => .tup (.inr ⟨o, its, n, l, hc, hd, hz, hv⟩) (reps_strs xs)⟩
section
variable {c : Ctx} {X : Cx} {S : AS} {Γ Γ' : Gam} {M M' : Cells} {σ σ' : L2.St} {H H' : Hp} {a b e : Expr} {es : List Expr} {pos pos' p apos : Pos} {Q : D → Cells → Prop} {R : Bool → Cells → Prop} {x : Str} {E : PEnds}
theorem we_glob {d : D} (hg : GlC c.sc x) (g : PGlob c.K c.mg x d) (q : Q d M) (hd : (x == ("__debug__" : Str)) = false := by decide) : WE c (.Name x pos) Γ M Q := .mk fun X S σ H at_ Q' hq => by
  obtain ⟨u, v, hm, r, rp⟩ := g
  exact PE.to (pe_glob (at_.is.gl hg) (at_.is.mgN hm) r hd) (hq v H d M at_.core .refl (rp _ _) q)
theorem we_maxM {α : Type} (xs : List α) (f : α → Int) (hg : GlC c.sc "max") (hm : c.mg "max" = none) (h : WE c e Γ M fun d M1 => d = .lst (xs.map fun p => D.int (f p)) ∧ 0 < xs.length ∧ ∀ m, (∃ y ∈ xs, f y = m) → (∀ y, y ∈ xs → f y ≤ m) → Q (.int m) M1)
    (he : ∀ env, starEach [e] env = (false, eval e env) :: starEach [] env := by intro _; rfl) (hcm : c.calm = true := by first | rfl | assumption) : WE c (.Call (.Name "max" p) [e] [] pos) Γ M Q :=
  we_maxI hg hm (h.imp fun d M1 ⟨e1, hl, q⟩ => ⟨xs.map f, by rw [e1, List.map_map]; exact .self, by rw [List.length_map]; exact hl, fun m h1 h2 => q m (by obtain ⟨y, hy, e⟩ := List.mem_map.mp h1; exact ⟨y, hy, e⟩) fun y hy => h2 _ (List.mem_map.mpr ⟨y, hy, rfl⟩)⟩) he
theorem we_minM {α : Type} (xs : List α) (f : α → Int) (hg : GlC c.sc "min") (hm : c.mg "min" = none) (h : WE c e Γ M fun d M1 => d = .lst (xs.map fun p => D.int (f p)) ∧ 0 < xs.length ∧ ∀ m, (∃ y ∈ xs, f y = m) → (∀ y, y ∈ xs → m ≤ f y) → Q (.int m) M1)
    (he : ∀ env, starEach [e] env = (false, eval e env) :: starEach [] env := by intro _; rfl) (hcm : c.calm = true := by first | rfl | assumption) : WE c (.Call (.Name "min" p) [e] [] pos) Γ M Q :=
  we_minI hg hm (h.imp fun d M1 ⟨e1, hl, q⟩ => ⟨xs.map f, by rw [e1, List.map_map]; exact .self, by rw [List.length_map]; exact hl, fun m h1 h2 => q m (by obtain ⟨y, hy, e⟩ := List.mem_map.mp h1; exact ⟨y, hy, e⟩) fun y hy => h2 _ (List.mem_map.mpr ⟨y, hy, rfl⟩)⟩) he
/-- the cells in another order -/
theorem we_perm {M' : Cells} (pm : M.Perm M') (h : WE c e Γ M' fun d M2 => ∃ M3, M2.Perm M3 ∧ Q d M3) : WE c e Γ M Q := .mk fun X S σ H at_ Q' hq => by
  obtain ⟨c1, s1⟩ := at_.core.perm pm
  refine h.run X S σ H (at_.step c1 s1) Q' fun v H' d M2 c2 s2 r2 ⟨M3, pm3, q⟩ => ?_
  obtain ⟨c3, s3⟩ := c2.perm pm3
  exact hq v H' d M3 c3 ((s1.trans s2).trans s3) (r2.to s3.to) q
theorem perm_pick {α : Type} {x : α} : ∀ {l : List α} {i : Nat}, l[i]? = some x → l.Perm (l.eraseIdx i ++ [x])
  | [], _, h => by simp at h
  | y :: l, 0, h => by
    have : y = x := by simpa using h
    subst this
    exact (List.perm_append_comm (l₁ := [y]) (l₂ := l))
  | y :: l, i + 1, h => (perm_pick (l := l) (i := i) (by simpa using h)).cons y
theorem at_end {α : Type} {x : α} {l : List α} : (l ++ [x])[l.length]? = some x := by
  rw [List.getElem?_append_right (Nat.le_refl _), Nat.sub_self]
  rfl
/-- cells that nobody needs any more -/
theorem we_dropC (h : WE c e Γ M fun d M2 => ∃ M3, M3.Sublist M2 ∧ Q d M3) : WE c e Γ M Q := .mk fun X S σ H at_ Q' hq =>
  h.run X S σ H at_ Q' fun v H' d M2 c2 s2 r2 ⟨M3, sub, q⟩ => by
    have subd : (dom M3).Sublist (dom M2) := sub.map _
    have st : Step M2 M3 H' H' := ⟨fun _ _ _ h => h, fun _ h => h, fun b hb => .inl (subd.subset hb)⟩
    exact hq v H' d M3 ⟨c2.known, c2.nod.sublist subd, fun a ha => c2.dis a (subd.subset ha), fun q hq => CellAt.to st.to (fun _ e => e) (c2.cells q (sub.subset hq))⟩ (s2.trans st) (r2.to st.to) q
/-- e[:k] of a list -/
theorem we_takeL {k : Int} {n : Nat} {p2 p3 : Pos} (h : WE c a Γ M fun x M1 => ∃ ds, x = .lst ds ∧ 0 ≤ k ∧ Q (.lst (ds.take k.toNat)) M1) : WE c (.Subscript a (.Slice none (some (.Constant (.int k) n p3)) none p2) pos) Γ M Q := .mk fun X S σ H at_ Q' hq =>
  PE.to (pe_slice sl_list wE.pe po_none (po_some pe_int)) (h.run X S σ H at_ _ fun v1 H1 d1 M1 c1 s1 r1 ⟨ds, e1, hk, q⟩ => by
    subst e1
    cases r1 with
    | lst h1 h2 =>
      rw [at_.is.K]
      obtain ⟨m, rfl⟩ : ∃ m : Nat, k = (m : Int) := ⟨k.toNat, by omega⟩
      have e2 : (ds.drop (HT.sIx ds.length 0 none)).take (HT.sIx ds.length ds.length (some (m : Int)) - HT.sIx ds.length 0 none) = ds.take m := by
        rw [HT.sIx_nat, HT.sIx_none, List.drop_zero, Nat.sub_zero]
        by_cases hm : m ≤ ds.length
        · rw [Nat.min_eq_left hm]
        · rw [Nat.min_eq_right (by omega), List.take_of_length_le (Nat.le_refl _), List.take_of_length_le (by omega)]
      refine ⟨m, rfl, _, _, rfl, h1.sq, fun p np => ?_⟩
      have r2 := cutV_D (lo := none) (hi := some (m : Int)) h2
      rw [e2] at r2
      obtain ⟨k1, k2, k3⟩ := fresh_lst (K := c.K) c1 np r2
      exact hq _ _ _ _ k1 (s1.trans k2) k3 q)
/-- an item of a list (a tuple) of data at some place in bounds -/
theorem we_ixA {α : Type} (xs : List α) (f : α → D) (h : WE c a Γ M fun x M1 => WE c b Γ M1 fun y M2 => ∃ (i : Int), (x = .lst (xs.map f) ∨ x = .tup (xs.map f)) ∧ y = .int i ∧ (0 ≤ i ∧ i < xs.length) ∧ ∀ z, z ∈ xs → xs[i.toNat]? = some z → Q (f z) M2) (hs : PlainIx b := by exact fun _ _ => rfl) :
    WE c (.Subscript a b pos) Γ M Q :=
  we_ix (.mk fun X S σ H at_ Q' hq => h.run X S σ H at_ Q' fun v H' d M' c1 s1 r1 q => hq v H' d M' c1 s1 r1 (.mk fun X S σ H at_ Q' hq => q.run X S σ H at_ Q' fun v H' d M' c1 s1 r1 ⟨i, e1, e2, hi, q⟩ => hq v H' d M' c1 s1 r1 (by
    obtain ⟨j, hj, ej, e⟩ := atI_some (xs := xs.map f) (by rw [List.length_map]; exact hi)
    subst ej
    rw [List.length_map] at hj
    refine ⟨xs.map f, j, f xs[j], ?_, e2, by rw [e]; simp, q _ (List.getElem_mem hj) ?_⟩
    · rcases e1 with e1 | e1
      · exact .inr (.inl e1)
      · exact .inl e1
    · rw [Int.toNat_natCast]; exact List.getElem?_eq_getElem hj))) hs
theorem we_ixJ (P : Int → Prop) (h : WE c a Γ M fun x M1 => WE c b Γ M1 fun y M2 => ∃ (ns : List Int) (i : Int), x = .lst (ns.map D.int) ∧ y = .int i ∧ (0 ≤ i ∧ i < ns.length) ∧ (∀ v ∈ ns, P v) ∧ ∀ v, P v → Q (.int v) M2) (hs : PlainIx b := by exact fun _ _ => rfl) :
    WE c (.Subscript a b pos) Γ M Q :=
  we_ix (.mk fun X S σ H at_ Q' hq => h.run X S σ H at_ Q' fun v H' d M' c1 s1 r1 q => hq v H' d M' c1 s1 r1 (.mk fun X S σ H at_ Q' hq => q.run X S σ H at_ Q' fun v H' d M' c1 s1 r1 ⟨ns, i, e1, e2, hi, hP, q⟩ => hq v H' d M' c1 s1 r1 (by
    obtain ⟨j, hj, _, e⟩ := atI_some (xs := ns.map D.int) (by rw [List.length_map]; exact hi)
    refine ⟨ns.map D.int, i, .int ns[j], .inr (.inl e1), e2, by rw [e]; simp, q _ (hP _ (List.getElem_mem _))⟩))) hs
/-- an item of a list of data at some place in bounds, as getD -/
theorem we_ixG {α : Type} (xs : List α) (f : α → D) (z0 : α) (h : WE c a Γ M fun x M1 => WE c b Γ M1 fun y M2 => ∃ (i : Int), x = .lst (xs.map f) ∧ y = .int i ∧ (0 ≤ i ∧ i < xs.length) ∧ Q (f (xs.getD i.toNat z0)) M2) (hs : PlainIx b := by exact fun _ _ => rfl) :
    WE c (.Subscript a b pos) Γ M Q :=
  we_ix (.mk fun X S σ H at_ Q' hq => h.run X S σ H at_ Q' fun v H' d M' c1 s1 r1 q => hq v H' d M' c1 s1 r1 (.mk fun X S σ H at_ Q' hq => q.run X S σ H at_ Q' fun v H' d M' c1 s1 r1 ⟨i, e1, e2, hi, q⟩ => hq v H' d M' c1 s1 r1 (by
    obtain ⟨j, hj, ej, e⟩ := atI_some (xs := xs.map f) (by rw [List.length_map]; exact hi)
    subst ej
    rw [List.length_map] at hj
    refine ⟨xs.map f, j, f xs[j], .inr (.inl e1), e2, by rw [e]; simp, ?_⟩
    rw [Int.toNat_natCast, List.getD_eq_getElem?_getD, List.getElem?_eq_getElem hj] at q
    exact q))) hs
/-- an item of data at some place in bounds -/
theorem we_ixX (h : WE c a Γ M fun x M1 => WE c b Γ M1 fun y M2 => ∃ (xs : List D) (i : Int), (x = .lst xs ∨ x = .tup xs) ∧ y = .int i ∧ (0 ≤ i ∧ i < xs.length) ∧ ∀ z, xs[i.toNat]? = some z → Q z M2) (hs : PlainIx b := by exact fun _ _ => rfl) :
    WE c (.Subscript a b pos) Γ M Q :=
  we_ix (.mk fun X S σ H at_ Q' hq => h.run X S σ H at_ Q' fun v H' d M' c1 s1 r1 q => hq v H' d M' c1 s1 r1 (.mk fun X S σ H at_ Q' hq => q.run X S σ H at_ Q' fun v H' d M' c1 s1 r1 ⟨xs, i, e1, e2, hi, q⟩ => hq v H' d M' c1 s1 r1 (by
    obtain ⟨j, hj, ej, e⟩ := atI_some (xs := xs) hi
    subst ej
    refine ⟨xs, j, xs[j], ?_, e2, e, q _ ?_⟩
    · rcases e1 with e1 | e1
      · exact .inr (.inl e1)
      · exact .inl e1
    · rw [Int.toNat_natCast]; exact List.getElem?_eq_getElem hj))) hs
end
section
variable {c : Ctx} {X : Cx} {S : AS} {Γ Γ' : Gam} {M M' : Cells} {σ σ' : L2.St} {H H' : Hp} {a b e : Expr} {es : List Expr} {pos pos' p apos : Pos} {Q : D → Cells → Prop} {R : Bool → Cells → Prop} {x : Str} {E : PEnds}
theorem wt_in (h : WE c a Γ M fun x M1 => WE c b Γ M1 fun y M2 => ∃ x' ys, View M2 x x' ∧ (View M2 y (.lst ys) ∨ View M2 y (.tup ys)) ∧ x'.okd 60 = true ∧ D.okds 60 ys = true ∧ R (ys.any fun z => z.eqv x') M2)
    (hm : behindInMarks .In b = false := by rfl) : WT c (.Compare a [.In] [b] pos) Γ M R := .mk fun X S σ H at_ Q' hq =>
  PT.to (pt_cmpR (op_inP at_.is.hu) wE.pe wE.pe hm) (two h at_ fun v1 v2 H2 d1 d2 M2 c2 s2 r1 r2 ⟨x', ys, w1, w2, o1, o2, q⟩ => by
    have p1 := D.plain_ok _ _ o1
    have p2 := D.plain_oks _ _ o2
    rw [at_.is.K]
    refine ⟨x'.py, D.pys ys, (w1.rep c2 r1).dp 60 _ o1, ?_, p1.1, p2.1, p1.2, _, rfl, hq _ _ _ c2 s2 ?_⟩
    · rcases w2 with w2 | w2
      · exact .inl ((w2.rep c2 r2).dp 61 (.lst ys) (by simpa [D.okd] using o2))
      · exact .inr ((w2.rep c2 r2).dp 61 (.tup ys) (by simpa [D.okd] using o2))
    · rw [D.pys_map, List.any_map]
      exact q)
theorem wt_nin (h : WE c a Γ M fun x M1 => WE c b Γ M1 fun y M2 => ∃ x' ys, View M2 x x' ∧ (View M2 y (.lst ys) ∨ View M2 y (.tup ys)) ∧ x'.okd 60 = true ∧ D.okds 60 ys = true ∧ R (!ys.any fun z => z.eqv x') M2)
    (hm : behindInMarks .NotIn b = false := by rfl) : WT c (.Compare a [.NotIn] [b] pos) Γ M R := .mk fun X S σ H at_ Q' hq =>
  PT.to (pt_cmpR (op_ninP at_.is.hu) wE.pe wE.pe hm) (two h at_ fun v1 v2 H2 d1 d2 M2 c2 s2 r1 r2 ⟨x', ys, w1, w2, o1, o2, q⟩ => by
    have p1 := D.plain_ok _ _ o1
    have p2 := D.plain_oks _ _ o2
    rw [at_.is.K]
    refine ⟨x'.py, D.pys ys, (w1.rep c2 r1).dp 60 _ o1, ?_, p1.1, p2.1, p1.2, _, rfl, hq _ _ _ c2 s2 ?_⟩
    · rcases w2 with w2 | w2
      · exact .inl ((w2.rep c2 r2).dp 61 (.lst ys) (by simpa [D.okd] using o2))
      · exact .inr ((w2.rep c2 r2).dp 61 (.tup ys) (by simpa [D.okd] using o2))
    · rw [D.pys_map, List.any_map]
      exact q)
end
/-- a comprehension whose items are told by things of a type -/
theorem lcq_B {c : Ctx} {Γ : Gam} {M : Cells} {Q : D → Cells → Prop} {scope : Scope} {tg elt : Expr} {ifs : List Expr} {α β : Type} {xs : List α} {f : α → D} (h : β → D) (Inv : List α → List β → Cells → Prop) {vs0 : List Nat} (hz : xs.length ≤ sizeLine) (h0 : Inv [] [] M)
    (hs : ∀ pre y post bs M2, xs = pre ++ y :: post → bs.length ≤ pre.length → Inv pre bs M2 → Turn1 c scope vs0 tg elt ifs (f y) Γ M2 (fun d M4 => ∃ b, d = h b ∧ Inv (pre ++ [y]) (bs ++ [b]) M4) (fun M4 => Inv (pre ++ [y]) bs M4))
    (hd : ∀ bs M2, bs.length ≤ xs.length → Inv xs bs M2 → Q (.lst (bs.map h)) M2) : LcQ c scope vs0 tg elt ifs Γ xs f (fun pre acc M2 => ∃ bs, acc = bs.map h ∧ Inv pre bs M2) M Q := by
  refine ⟨hz, ⟨[], rfl, h0⟩, ?_, ?_⟩
  · rintro pre y post acc M2 e hl ⟨bs, rfl, hi⟩
    rw [List.length_map] at hl
    obtain ⟨is, us, ht, hv, hw⟩ := hs pre y post bs M2 e hl hi
    refine ⟨is, us, ht, hv, .mk fun X S σ H at_ Q' hq => hw.run X S σ H at_ Q' fun k H' M' c1 s1 b => hq k H' M' c1 s1 ⟨fun hk => .mk fun X S σ H at_ Q' hq => (b.1 hk).run X S σ H at_ Q' fun v H' d M' c1 s1 r1 ⟨b', e1, e2⟩ => hq v H' d M' c1 s1 r1 ⟨bs ++ [b'], by rw [e1, List.map_append]; rfl, e2⟩, fun hk => ⟨bs, rfl, b.2 hk⟩⟩⟩
  · rintro acc M2 hl ⟨bs, rfl, hi⟩
    rw [List.length_map] at hl
    exact hd bs M2 hl hi
theorem br_nkT {k : Bool} {A B : Prop} (h : k = false) (a : A) : Br (!k) A B := by
  subst h
  exact ⟨fun _ => a, fun z => (by cases z)⟩
mutual
/-- plain data, no deeper than n, no list long -/
def D.sm (n : Nat) : D → Bool
  | .non => true
  | .bl _ => true
  | .int _ => true
  | .str _ => true
  | .tup xs => match n with
    | 0 => false
    | n + 1 => decide (xs.length < 1000000) && D.sms n xs
  | .lst xs => match n with
    | 0 => false
    | n + 1 => decide (xs.length < 1000000) && D.sms n xs
  | .ptr _ => false
  | .obj _ _ => false
  | .exc _ _ => false
def D.sms (n : Nat) : List D → Bool
  | [] => true
  | x :: xs => D.sm n x && D.sms n xs
end
theorem sms_get {n : Nat} : ∀ {xs : List D} {i : Nat} {z : D}, D.sms n xs = true → xs[i]? = some z → z.sm n = true
  | [], _, _, _, h => by simp at h
  | x :: xs, i, z, h, e => by
    have h' : x.sm n = true ∧ D.sms n xs = true := by simpa [D.sms] using h
    cases i with
    | zero => cases e; exact h'.1
    | succ i => exact sms_get (i := i) h'.2 e
theorem sms_map {α : Type} {n : Nat} {f : α → D} (h : ∀ x, (f x).sm n = true) : ∀ xs : List α, D.sms n (xs.map f) = true
  | [] => rfl
  | x :: xs => by
    show ((f x).sm n && D.sms n (xs.map f)) = true
    rw [h x, sms_map h xs]
    rfl
theorem sm_map {α : Type} {n : Nat} {f : α → D} {xs : List α} (hl : xs.length < 1000000) (h : ∀ x, (f x).sm n = true) : (D.lst (xs.map f)).sm (n + 1) = true := by
  show (decide ((xs.map f).length < 1000000) && D.sms n (xs.map f)) = true
  rw [sms_map h xs, List.length_map, decide_eq_true hl]
  rfl
end PL
namespace PL
open PySem PySem.Spec PyProof.Rows L2
theorem call_min3 {X : Cx} (hc : X.calm = true) : CallR X (.builtin "min") (fun xs H Q => ∃ i j k, xs = [.int i, .int j, .int k] ∧ Q (.int (if j < i then (if k < j then k else j) else (if k < i then k else i))) H) := by
  intro pins s σ H xs us Q I r h
  obtain ⟨i, j, k, rfl, q⟩ := h
  cases r with
  | cons r1 r =>
    obtain ⟨u, w', rfl, ⟨t', rfl⟩, ⟨t2, rfl⟩⟩ := vals2 r
    obtain ⟨t, rfl⟩ := r1
    refine min_three_ints (I.ok.hd hc) fun h' tk kp => ⟨_, H, I.kept kp, ?_, q⟩
    split <;> split <;> exact ⟨_, rfl⟩
section
variable {c : Ctx} {Γ : Gam} {M : Cells} {a b d : Expr} {pos p : Pos} {Q : D → Cells → Prop}
theorem we_min3 (hg : GlC c.sc "min") (hm : c.mg "min" = none) (h : WE c a Γ M fun x M1 => WE c b Γ M1 fun y M2 => WE c d Γ M2 fun z M3 => ∃ i j k, x = .int i ∧ y = .int j ∧ z = .int k ∧ Q (.int (if j < i then (if k < j then k else j) else (if k < i then k else i))) M3)
    (he : ∀ env, starEach [a, b, d] env = (false, eval a env) :: starEach [b, d] env := by intro _; rfl) (he2 : ∀ env, starEach [b, d] env = (false, eval b env) :: starEach [d] env := by intro _; rfl) (he3 : ∀ env, starEach [d] env = (false, eval d env) :: starEach [] env := by intro _; rfl) (hcm : c.calm = true := by first | rfl | assumption) : WE c (.Call (.Name "min" p) [a, b, d] [] pos) Γ M Q :=
  we_callB (fun X hc => call_min3 hc) hg hm (by decide +kernel) (wa_cons (.mk fun X S σ H at_ Q' hq => h.run X S σ H at_ Q' fun v H' d M' c1 s1 r1 q0 => hq v H' d M' c1 s1 r1 (wa_cons (.mk fun X S σ H at_ Q' hq => q0.run X S σ H at_ Q' fun v H' d' M' c1 s1 r1 q1 => hq v H' d' M' c1 s1 r1 (wa_cons (.mk fun X S σ H at_ Q' hq => q1.run X S σ H at_ Q' fun v H' d'' M' c1 s1 r1 ⟨i, j, k, e1, e2, e3, q⟩ => hq v H' d'' M' c1 s1 r1 (wa_nil (by
    subst e1 e2 e3
    intro S2 H2 vs c2 r2 Q2 hq2
    cases r2 with
    | cons r r' =>
      cases r' with
      | cons r1 r2 =>
        cases r2 with
        | cons r3 r4 =>
          cases r4; cases r; cases r1; cases r3
          exact ⟨i, j, k, rfl, hq2 _ _ _ _ c2 .refl .int q⟩))) he3)) he2)) he) (he := he) (hpl := fun env => by rw [he2, he3]; rfl)
end
section
variable {c : Ctx} {Γ : Gam} {M : Cells} {elt tg iter : Expr} {ifs : List Expr} {scope : Scope} {pos : Pos} {Q : D → Cells → Prop} {E : PEnds} {α : Type}
/-- [.. for tg in iter ..], the list told only behind the iterable -/
theorem we_lcLx (own : List (Str × Nat)) (hb : blkC c.N c.sc scope own = true) (f : α → D) (h : WE c iter Γ M fun d M1 => ∃ xs : List α, d = .lst (xs.map f) ∧ ∃ Inv : List α → List D → Cells → Prop, LcQ c scope (own.map (·.2)) tg elt ifs Γ xs f Inv M1 Q)
    (hs : ∀ env x, foldedSetIterable iter env x = pure x := by intro _ _; rfl) (hcm : c.calm = true := by first | rfl | assumption) : WE c (.ListComp elt [⟨tg, iter, ifs, 0⟩] scope pos) Γ M Q := .mk fun X S σ H at_ Q' hq =>
  PE.to (pe_lc (at_.is.calm hcm) at_.is.nd (pi_list wE.pe) (at_.blkOk hb) (fun s H C cl fp => gB.pg s H C cl fp) (fun s H C cl fp => ttB.pts s H C cl fp) (fun s H C cl fp => tB.pe s H C cl fp) (hs _)) (h.run X S σ H at_ _ fun v1 H1 d1 M1 c1 s1 r1 ⟨xs, e1, iv, q⟩ => by
    subst e1
    cases r1 with
    | lst h1 h2 => exact ⟨_, rfl, ⟨_, by rw [at_.is.K]; exact h1.sq⟩, lcL_core at_.is hcm c1 (at_.slots.to s1.to) h1 h2 q fun v H' d M' c2 s2 r2 q2 => hq v H' d M' c2 (s1.trans s2) r2 q2⟩)
theorem ws_lcLx {i : Nat} {y : Str} {py spos : Pos} (own : List (Str × Nat)) (hb : blkC c.N c.sc scope own = true) (hy : c.N[i]? = some y) (hyl : c.sc.names.lookup y = some .local) (f : α → D) (h : WE c iter Γ M fun d M1 => ∃ xs : List α, d = .lst (xs.map f) ∧ ∃ Inv : List α → List D → Cells → Prop, LcQ c scope (own.map (·.2)) tg elt ifs Γ xs f Inv M1 fun d M2 => E.nx (Γ.set i (some d)) M2)
    (hsw : ∀ env, env.scope = c.sc → swapsWith (.ListComp elt [⟨tg, iter, ifs, 0⟩] scope pos) (some (.Name y py)) spos.line env = pure true := by (rintro ⟨_, _, _, _, _, _, _, _, _⟩ rfl; rfl)) (hs : ∀ env x, foldedSetIterable iter env x = pure x := by intro _ _; rfl) (hcm : c.calm = true := by first | rfl | assumption) : WS c (.Assign [.Name y py] (.ListComp elt [⟨tg, iter, ifs, 0⟩] scope pos) spos) E Γ M := .mk fun X S σ H at_ Ds l =>
  PS.to (ps_setLc (at_.is.calm hcm) at_.is.nd (at_.is.nm hy) (by rw [at_.is.sc]; exact hyl) (hsw _ at_.is.sc) (pi_list wE.pe) (at_.blkOk hb) (fun s H C cl fp => gB.pg s H C cl fp) (fun s H C cl fp => ttB.pts s H C cl fp) (fun s H C cl fp => tB.pe s H C cl fp) (hs _)) (h.run X S σ H at_ _ fun v1 H1 d1 M1 c1 s1 r1 ⟨xs, e1, iv, q⟩ => by
    subst e1
    cases r1 with
    | lst h1 h2 => exact ⟨_, rfl, ⟨_, by rw [at_.is.K]; exact h1.sq⟩, lcL_core at_.is hcm c1 (at_.slots.to s1.to) h1 h2 q fun v H' d M' c2 s2 r2 q2 => l.nx _ _ _ _ c2 ((at_.slots.to (s1.trans s2).to).set r2) (s1.trans s2) q2⟩)
end
end PL
namespace PL
open PySem PySem.Spec PyProof.Rows L2
/-! exceptions of own classes, each with an __init__ that keeps what it is given in what -/
/-- what such an __init__ does -/
def spWhat (C : Addr) : Sp := fun vs H Q _ => ∃ (a : Addr) (v : V), vs = [.ref a, v] ∧ H a = some (exo a C none) ∧ ∀ dx, H dx = none → dx ≠ a → Q .non (upd (upd H dx (exd dx [(("what" : Str), v)])) a (exo a C (some dx)))
/-- an error of the class at S is what «except T» names, T's own or a base's -/
theorem exm_sub {K : PySem.W.Frag} {S T : Addr} (h1 : PySem.W.subIn K (.ref T) (.type "BaseException") = some true) (h2 : PySem.W.isClsIn K T = true) (h3 : PySem.W.typeIn K (.ref T) = some (.type "type")) (h4 : PySem.W.subIn K (.ref S) (.ref T) = some true) :
    PySem.W.exmOne K (.ref S) (.ref T) = some true := by
  have e1 : (PySem.W.subIn K (.ref T) (.type "BaseException") == some true) = true := by rw [h1] <;> rfl
  have e2 : ((PySem.W.clsIn K T).isSome && PySem.W.typeIn K (.ref T) == some (.type "type")) = true := by
    have h2' : (PySem.W.clsIn K T).isSome = true := h2
    rw [h2', h3] <;> rfl
  show (if (PySem.W.subIn K (.ref T) (.type "BaseException") == some true) = true then (if ((PySem.W.clsIn K T).isSome && PySem.W.typeIn K (.ref T) == some (.type "type")) = true then PySem.W.subIn K (.ref S) (.ref T) else none) else none) = some true
  rw [if_pos e1, if_pos e2]
  exact h4
/-- such a class that stands -/
structure XDef (P : Program) (w : World) (K : PySem.W.Frag) (mg : Str → Option Value) (base : Heap) (x : Str) (C : Addr) : Prop where
  mgx : mg x = some (.ref C)
  oex : OexC K C
  init : ∃ fI fd, PySem.W.findIn K (.ref C) "__init__" = some (some (.ref fI)) ∧ PySem.W.typeIn K (.ref fI) = some (.type "function") ∧ FnOk P w K mg base (L2.CX P w) 1 fI fd ["self", "what"] (spWhat C) ∧ Binds K fd ["self", "what"] []
section
variable {P : Program} {w : World} {K : PySem.W.Frag} {mg : Str → Option Value} {base : Heap} {C : Addr}
theorem ok_what {x qual : Str} {st : Stmt} {f : Addr} {fd : FuncData} (F : Fun K x qual st f fd) (Sc : FnScope ["self", "what"] ["self", "what"] (defScope st)) {p1 p2 p3 p4 : Pos} (hb : defBody st = [.Assign [.Attribute (.Name "self" p1) "what" p2] (.Name "what" p3) p4])
    (hs : (defScope st).names.lookup ("self" : Str) = some .local) (hw : (defScope st).names.lookup ("what" : Str) = some .local) (T : OexC K C) (nw : PySem.W.findIn K (.ref C) "what" = some none) : FnOk P w K mg base (L2.CX P w) 1 f fd ["self", "what"] (spWhat C) := by
  refine F.okX Sc (fun vs H Q E h => ?_) (fun cdv A outer s H vs Q E hr h => ⟨tSeq (tOst K "what" (tVar 0) (tVar 1)) tNext, ?_, ?_⟩)
  · obtain ⟨a, v, rfl, _⟩ := h
    rfl
  · rw [hb]
    exact pss_cons (ps_ost (pe_var (i := 0) rfl (.inl hs)) (pe_var (i := 1) rfl (.inl hw))) pss_nil
  · obtain ⟨a, v, rfl, ha, q⟩ := h
    exact ⟨v, rfl, .ref a, rfl, a, C, rfl, T, nw, .inl ⟨ha, fun dx hd hn => q dx hd hn⟩⟩
end
section
variable {c : Ctx} {X : Cx} {S : AS} {Γ Γ' : Gam} {M M' : Cells} {σ σ' : L2.St} {H H' : Hp} {a b e tg : Expr} {es tgs : List Expr} {pos pos' : Pos} {Q : D → Cells → Prop} {R : Bool → Cells → Prop} {x : Str} {E : PEnds} {C : Addr}
/-- raise C(e) -/
theorem ws_raise {p : Pos} (F : XDef c.P c.w c.K c.mg c.base x C) (hk : 2 ≤ c.k) (hg : GlC c.sc x) (h : WE c e Γ M fun d M1 => c.Z C d Γ M1)
    (hdb : (x == ("__debug__" : Str)) = false := by decide) (he : ∀ env, starEach [e] env = (false, eval e env) :: starEach [] env := by intro _; rfl) (hpl : ∀ env, (backTo pos (starEach [] env)).any (·.1) = false := by intro _; rfl) (hcm : c.calm = true := by first | rfl | assumption) :
    WS c (.Raise (some (.Call (.Name x p) [e] [] pos)) none pos') E Γ M := .mk fun X S σ H at_ Ds l => by
  obtain ⟨W, tk, hW⟩ := at_.land
  obtain ⟨fI, fd, h1, h2, h3, h4⟩ := F.init
  have eP := at_.is.prog; have ew := at_.is.w; have eK := at_.is.K; have emg := at_.is.mg; have eb := at_.is.base
  refine PS.to (L2.ps_raise (at_.is.calm hcm) tk (pmk_oex (C := C) (fI := fI) (k := 1) (fd := fd) (ps := ["self", "what"]) (sp := spWhat C) (ds := []) (dvs := []) (ta := wA X [e]) (CX := L2.CX X.prog X.w) (by rw [eK]; exact F.oex) (by rw [eK]; exact h1) (by rw [eK]; exact h2) (by rw [eP, ew, eK, emg, eb]; exact h3) ((at_.is.room hcm).mono hk) (by rw [eK]; exact h4) .nil (fun pins σ H s e s' _ z => by obtain ⟨_, _, _, _, _, _, _, _, _, _, _, _, z⟩ := z; exact z.elim) (at_.is.gl hg) (at_.is.mgN F.mgx) wA.pa hdb (he _) (hpl _))) ?_
  show wA X [e] σ H _
  refine PA.to (pa_cons wE.pe pa_nil (he _)) (h.run X S σ H at_ _ fun v1 H1 d1 M1 c1 s1 r1 q1 => ?_)
  refine ⟨Nat.le_of_ble_eq_true rfl, fun a ha => ⟨a, v1, rfl, upd_same, fun dx hd hne => ⟨rfl, dx, [(("what" : Str), v1)], upd_same, ?_, ?_, ?_⟩⟩⟩
  · rw [upd_ne hne, upd_same]
  · rw [upd_ne hne] at hd; exact hd
  · rw [upd_ne hne] at hd
    have eH : upd (del (upd (upd (upd H1 a (exo a C none)) dx (exd dx [(("what" : Str), v1)])) a (exo a C (some dx))) a) dx (.xd [(("what" : Str), v1)]) = upd H1 dx (.xd [(("what" : Str), v1)]) := by
      funext b
      by_cases h1 : b = dx
      · subst h1; rw [upd_same, upd_same]
      · rw [upd_ne h1, upd_ne h1]
        by_cases h2 : b = a
        · subst h2; rw [del_same, ha]
        · rw [del_ne h2, upd_ne h2, upd_ne h1, upd_ne h2]
    rw [eH]
    have st : Step M1 M1 H1 (upd H1 dx (.xd [(("what" : Str), v1)])) := Step.same (same_new hd)
    exact hW C dx v1 d1 σ _ Γ M1 (c1.new hd) (at_.slots.to (s1.trans st).to) (s1.trans st) ⟨c1.free hd, upd_same⟩ (r1.to st.to) q1
/-- y and z, variables that hold truths -/
theorem we_andV {i j : Nat} {y z : Str} {p q : Pos} {k l : Bool} (hy : c.N[i]? = some y) (vy : VisC c.sc y) (gy : Γ[i]? = some (some (.bl k))) (hz : c.N[j]? = some z) (vz : VisC c.sc z) (gz : Γ[j]? = some (some (.bl l))) (h : Q (.bl (k && l)) M)
    (d1 : (y == ("__debug__" : Str)) = false := by decide) (d2 : (y == ("__classdict__" : Str)) = false := by decide) (d3 : (z == ("__debug__" : Str)) = false := by decide) (d4 : (z == ("__classdict__" : Str)) = false := by decide) : WE c (.BoolOp .And [.Name y p, .Name z q] pos) Γ M Q :=
  we_and (we_var hy vy gy ⟨k, rfl, fun e => by subst e; exact we_one (we_var hz vz gz h d3 d4), fun e => by subst e; exact h⟩ d1 d2)
/-- the context of a try's body: what is caught goes on with Mid -/
def Ctx.tr (c : Ctx) (mt : Addr → Option Bool) (Mid : Addr → D → Gam → Cells → Prop) : Ctx := ⟨c.P, c.w, c.K, c.mg, c.base, c.N, c.sc, c.k, fun C d Γ M => (mt C = some true ∧ Mid C d Γ M) ∨ (mt C = some false ∧ c.Z C d Γ M), c.own, c.top, c.calm, c.lam⟩
/-- try: .. except x: y = k -/
theorem ws_tryB {CN : Addr} {i : Nat} {y : Str} {body : List Stmt} {np p1 p2 p3 : Pos} {v : Bool} {j : Nat} (ht : c.top = true) (hgx : GlC c.sc x) (hm : c.mg x = some (.ref CN)) (hy : c.N[i]? = some y) (hl : LocC c y)
    (h : WSs (c.tr (fun C => PySem.W.exmOne c.K (.ref C) (.ref CN)) fun _ _ Γ1 M1 => E.nx (Γ1.set i (some (.bl v))) M1) body E Γ M) (hdb : (x == ("__debug__" : Str)) = false := by decide)
    (hs : ∀ env, swapsWith (.Constant (.bool v) j p2) (some (.Name y p1)) p3.line env = pure false := by intro _; rfl) :
    WS c (.Try body [.ExceptHandler (some (.Name x np)) none [.Assign [.Name y p1] (.Constant (.bool v) j p2) p3] pos'] [] [] pos) E Γ M := .mk fun X S σ H at_ Ds l => by
  obtain ⟨W, tk, hW⟩ := at_.land
  obtain ⟨hst, hfr⟩ := at_.is.stk ht
  refine PS.to (L2.ps_try_only (c := .ref CN) (tb := fun W D σ H => ∀ pn xe, Takes (X.tr pn xe) W → PassesOwn (model X.prog X.w) X.A X.env xe → wSs (X.tr pn xe) body D σ H) (ts := fun _ _ _ => tSeq (tAsg (tC (.bl v)) (gName i)) tNext) (Wout := W) hst hfr ⟨at_.is.gl hgx, hdb, .inl (at_.is.mgN hm)⟩ tk (fun W pn xe t po => ⟨fun pins s σ H D I h => h pn xe t po pins s I⟩) (fun a oe cls d pn hz hf => ?_)) ?_
  · exact pss_cons (L2.ps_set (X := X.suite a ((a, oe) :: pn)) at_.is.nd (at_.is.nm hy) (at_.is.loc hl) pe_bl (hs _) (at_.is.st hl)) pss_nil
  · intro pn xe t po
    refine h.run (X.tr pn xe) S σ H ⟨⟨at_.is.prog, at_.is.w, at_.is.K, at_.is.mg, at_.is.base, at_.is.N, at_.is.sc, at_.is.room, at_.is.calm, at_.is.nd, at_.is.fn, po, at_.is.stk, at_.is.roomH, at_.is.lam⟩, at_.core, at_.slots, ⟨_, t, fun C dd v0 d σ' H' Γ' M' c1 sl1 st1 hx r1 z => ?_⟩⟩ Ds ⟨l.nx, l.rt, l.bk, l.ct⟩
    rw [at_.is.K]
    rcases z with ⟨z1, z2⟩ | ⟨z1, z2⟩
    · exact ⟨true, z1, fun _ a na => l.nx _ _ _ _ c1 (sl1.set .bl) st1 z2, fun z => (by cases z)⟩
    · exact ⟨false, z1, fun z => (by cases z), fun _ => hW C dd v0 d σ' H' Γ' M' c1 sl1 st1 hx r1 z2⟩
end
end PL
namespace PL
open PySem PySem.Spec PyProof.Rows L2
theorem MDef.imp {P : Program} {w : World} {K : PySem.W.Frag} {mg : Str → Option Value} {base : Heap} {C : Addr} {m : Str} {f : Addr} {fd : FuncData} {ps : List Str} {k : Nat} {pf pf' : PF} (F : MDef P w K mg base C m f fd ps k pf) (h : ∀ ds M R Z, pf' ds M R Z → pf ds M R Z) : MDef P w K mg base C m f fd ps k pf' :=
  ⟨F.cl, F.me, F.binds, F.ok.imp fun vs H Q E ⟨S, M, ds, c, r, q⟩ => ⟨S, M, ds, c, r, h _ _ _ _ q⟩⟩
theorem Def.imp {P : Program} {w : World} {K : PySem.W.Frag} {mg : Str → Option Value} {base : Heap} {x : Str} {f : Addr} {fd : FuncData} {ps : List Str} {k : Nat} {pf pf' : PF} (F : Def P w K mg base x f fd ps k pf) (h : ∀ ds M R Z, pf' ds M R Z → pf ds M R Z) : Def P w K mg base x f fd ps k pf' :=
  ⟨F.mgx, F.kp, F.binds, F.ok.imp fun vs H Q E ⟨S, M, ds, c, r, q⟩ => ⟨S, M, ds, c, r, h _ _ _ _ q⟩⟩
/-- x = [..], x a cell -/
theorem ws_asgS {c : Ctx} {Γ : Gam} {M : Cells} {e : Expr} {x : Str} {pos pos' : Pos} {E : PEnds} {i : Nat} (hN : c.N[i]? = some x) (hl : LocC c x) (h : WE c e Γ M fun d M1 => E.nx (Γ.set i (some d)) M1) (hs : ∀ env, env.scope = c.sc → swapsWith e (some (.Name x pos')) pos.line env = pure false := by (rintro ⟨_, _, _, _, _, _, _, _, _⟩ rfl; rfl)) :
    WS c (.Assign [.Name x pos'] e pos) E Γ M := .mk fun X S σ H at_ Ds l =>
  PS.to (ps_set at_.is.nd (at_.is.nm hN) (at_.is.loc hl) wE.pe (hs _ at_.is.sc) (at_.is.st hl)) (h.run X S σ H at_ _ fun v H1 d M1 c1 s1 r1 q => l.nx _ _ _ _ c1 ((at_.slots.to s1.to).set r1) s1 q)
/-- e[1:] of a list -/
theorem we_tailL {c : Ctx} {Γ : Gam} {M : Cells} {a : Expr} {pos : Pos} {Q : D → Cells → Prop} {k : Int} {n : Nat} {p2 p3 : Pos} (h : WE c a Γ M fun x M1 => ∃ ds, x = .lst ds ∧ k = 1 ∧ 1 ≤ ds.length ∧ Q (.lst (ds.drop 1)) M1) : WE c (.Subscript a (.Slice (some (.Constant (.int k) n p3)) none none p2) pos) Γ M Q := .mk fun X S σ H at_ Q' hq =>
  PE.to (pe_slice sl_list wE.pe (po_some pe_int) po_none) (h.run X S σ H at_ _ fun v1 H1 d1 M1 c1 s1 r1 ⟨ds, e1, ek, hl, q⟩ => by
    subst e1 ek
    cases r1 with
    | lst h1 h2 =>
      rw [at_.is.K]
      have e3 : HT.sIx ds.length 0 (some (1 : Int)) = 1 := (HT.sIx_nat ds.length 0 1).trans (Nat.min_eq_left hl)
      have e2 : (ds.drop (HT.sIx ds.length 0 (some (1 : Int)))).take (HT.sIx ds.length ds.length none - HT.sIx ds.length 0 (some (1 : Int))) = ds.drop 1 := by
        rw [e3]
        show (ds.drop 1).take (ds.length - 1) = ds.drop 1
        rw [List.take_of_length_le (by simp)]
      refine ⟨1, rfl, _, _, rfl, h1.sq, fun p np => ?_⟩
      have r2 := cutV_D (lo := some 1) (hi := none) h2
      rw [e2] at r2
      obtain ⟨k1, k2, k3⟩ := fresh_lst (K := c.K) c1 np r2
      exact hq _ _ _ _ k1 (s1.trans k2) k3 q)
/-! zip of two lists -/
section
variable {c : Ctx} {X : Cx} {S : AS} {Γ Γ' : Gam} {M M' : Cells} {σ σ' : L2.St} {H H' : Hp} {a b e elt tg iter : Expr} {es ifs : List Expr} {pos pos' : Pos} {Q : D → Cells → Prop} {R : Bool → Cells → Prop} {x : Str} {E : PEnds} {scope : Scope} {own : List (Str × Nat)} {α β : Type} {xs : List α} {ys : List β} {f : α → D} {g : β → D}
theorem getV_map {K : PySem.W.Frag} {A : AS} {H : Hp} {us : List V} {i : Nat} {v : V} (h : Reps K A H us (xs.map f)) (hv : us[i]? = some v) : ∃ p, xs[i]? = some p ∧ Rep K A H v (f p) := by
  obtain ⟨d, hd, rd⟩ := h.getV hv
  rw [List.getElem?_map] at hd
  cases ex : xs[i]? with
  | none => rw [ex] at hd; cases hd
  | some z =>
    rw [ex] at hd
    have ed : f z = d := Option.some.inj hd
    subst ed
    exact ⟨z, rfl, rd⟩
theorem lcZ_core {Inv : List (α × β) → List D → Cells → Prop} (is_ : c.Is X) (hcm : c.calm = true) {M1 : Cells} {H1 : Hp} {a b : Addr} {us ws : List V} (cr : Core c.K S M1 H1) (sl : Slots c.K (av S M1) H1 Γ σ) (h1 : RdL c.K (av S M1) H1 a us) (h2 : Reps c.K (av S M1) H1 us (xs.map f))
    (h3 : RdL c.K (av S M1) H1 b ws) (h4 : Reps c.K (av S M1) H1 ws (ys.map g))
    (h : LcQ c scope (own.map (·.2)) tg elt ifs Γ (xs.zip ys) (fun z => .tup [f z.1, g z.2]) Inv M1 Q) {Q' : VK} (hq : ∀ v H' d M', Core c.K S M' H' → Step M1 M' H1 H' → Rep c.K (av S M') H' v d → Q d M' → Q' v H') :
    ∀ D, H1 D = none → ∃ W : Nat → Nat → Hp → Prop, (∃ m, W 0 m (upd H1 D (.lst []))) ∧ ∀ i m H, W i m H →
      ((Itz X.K a b).stop i H ∧ Q' (.ref D) H) ∨ ((Itz X.K a b).go i H ∧ ∃ Nx : Hp → Prop, (∀ H', Nx H' → ∃ m', m' < m ∧ W (i + 1) m' H') ∧ ∀ x H', (Itz X.K a b).yld i H x H' → gB X scope tg x (wipe σ (own.map (·.2))) H' fun σ2 H2 => wipe σ2 (own.map (·.2)) = wipe σ (own.map (·.2)) ∧ ttB X scope ifs σ2 H2 fun b H3 =>
        if b = true then tB X scope elt σ2 H3 fun y H4 => ∃ acc, H4 D = some (.lst acc) ∧ acc.length < sizeLine ∧ Nx (upd H4 D (.lst (acc ++ [y]))) else Nx H3) := by
  intro D0 hn
  obtain ⟨hz, h0, hs, hd⟩ := h
  have hl1 : us.length = xs.length := by rw [h2.length, List.length_map]
  have hl2 : ws.length = ys.length := by rw [h4.length, List.length_map]
  refine lc_it (walk_zip (K := X.K) (a := a) (b := b) (xs := us) (ys := ws) (n := (xs.zip ys).length) (by rw [List.length_zip, hl1, hl2]))
    (fun i H2 => ∃ acc M2, Core c.K S ((D0, .lst acc) :: M2) H2 ∧ Step M1 ((D0, .lst acc) :: M2) H1 H2 ∧ acc.length ≤ i ∧ Inv ((xs.zip ys).take i) acc M2) ?_ ?_ ?_ ?_
  · have k := cr.cell (o := .lst []) (m := .lst []) hn ⟨[], rfl, .nil⟩
    exact ⟨[], M1, k.1, k.2, Nat.le_refl _, h0⟩
  · rintro i H2 _ ⟨acc, M2, c2, s2, _, _⟩
    rw [is_.K]
    exact ⟨(s2.to.rdl h1).sq, (s2.to.rdl h3).sq⟩
  · rintro i v H2 H3 hlt ⟨acc, M2, c2, s2, hl, inv⟩ ⟨T, x', y', rfl, hT, rfl, hx, hy⟩
    obtain ⟨p, ep, rp⟩ := getV_map h2 hx
    obtain ⟨q, eq, rq⟩ := getV_map h4 hy
    have ez : (xs.zip ys)[i]? = some (p, q) := by rw [List.getElem?_zip_eq_some]; exact ⟨ep, eq⟩
    obtain ⟨sp, tk⟩ := split_at ez
    have st3 : Step ((D0, MO.lst acc) :: M2) ((D0, MO.lst acc) :: M2) H2 (upd H2 T (.tup [x', y'])) := Step.same (same_new hT)
    have s3 := s2.trans st3
    refine lc_turn is_ hcm sl (c2.new hT) s3 (.tup (.inl ⟨c2.free hT, .inl upd_same⟩) (.cons (rp.to s3.to) (.cons (rq.to s3.to) .nil))) (by omega) (hs _ (p, q) _ acc M2 sp (by rw [List.length_take]; omega) inv) ?_ ?_
    · intro d M4 H' c4 s4 q
      exact ⟨_, M4, c4, s4, by simp; omega, by rw [tk]; exact q⟩
    · intro M4 H' c4 s4 q
      exact ⟨_, M4, c4, s4, by omega, by rw [tk]; exact q⟩
  · rintro H2 ⟨acc, M2, c2, s2, hl, inv⟩
    rw [List.take_length] at inv
    obtain ⟨c3, r3, s3⟩ := c2.freeze (i := 0) (p := D0) (ds := acc) rfl
    exact hq _ _ _ _ c3 (s2.trans s3) r3 (hd acc M2 hl inv)
/-- [.. for u, v in zip(a, b) ..] -/
theorem we_lcZ {p zpos tpos : Pos} {elts : List Expr} {kk : Nat} (own : List (Str × Nat)) (hb : blkC c.N c.sc scope own = true) (hg : GlC c.sc "zip") (hm : c.mg "zip" = none) (f : α → D) (g : β → D)
    (h : WE c a Γ M fun d1 M1 => WE c b Γ M1 fun d2 M2 => ∃ (xs : List α) (ys : List β), d1 = .lst (xs.map f) ∧ d2 = .lst (ys.map g) ∧ ∃ Inv, LcQ c scope (own.map (·.2)) (.Tuple elts kk tpos) elt ifs Γ (xs.zip ys) (fun z => .tup [f z.1, g z.2]) Inv M2 Q)
    (hst : ∀ env, starEach [a, b] env = (false, eval a env) :: starEach [b] env := by intro _; rfl) (hst2 : ∀ env, starEach [b] env = (false, eval b env) :: starEach [] env := by intro _; rfl)
    (hs : ∀ env x, foldedSetIterable (.Call (.Name "zip" p) [a, b] [] zpos) env x = pure x := by intro _ _; rfl) (hcm : c.calm = true := by first | rfl | assumption) : WE c (.ListComp elt [⟨.Tuple elts kk tpos, .Call (.Name "zip" p) [a, b] [] zpos, ifs, 0⟩] scope pos) Γ M Q := .mk fun X S σ H at_ Q' hq =>
  PE.to (pe_lc (at_.is.calm hcm) at_.is.nd (pi_zip (at_.is.gl hg) (at_.is.mgN hm) (pa_cons wE.pe (pa_cons wE.pe pa_nil (hst2 _)) (hst _)) (hst _) (by rw [hst2]; rfl)) (at_.blkOk hb) (fun s H C cl fp => gB.pg s H C cl fp) (fun s H C cl fp => ttB.pts s H C cl fp) (fun s H C cl fp => tB.pe s H C cl fp) (hs _)) (two h at_ fun v1 v2 H2 d1 d2 M2 c2 s2 r1 r2 ⟨xs, ys, e1, e2, iv, q⟩ => by
    subst e1 e2
    cases r1 with
    | lst h1 h2 =>
      cases r2 with
      | lst h3 h4 => exact ⟨_, _, _, _, rfl, by rw [at_.is.K]; exact h1.sq, by rw [at_.is.K]; exact h3.sq, lcZ_core at_.is hcm c2 (at_.slots.to s2.to) h1 h2 h3 h4 q fun v H' d M' c3 s3 r3 q3 => hq v H' d M' c3 (s2.trans s3) r3 q3⟩)
theorem ws_lcZ {i : Nat} {y : Str} {py spos p zpos tpos : Pos} {elts : List Expr} {kk : Nat} (own : List (Str × Nat)) (hb : blkC c.N c.sc scope own = true) (hy : c.N[i]? = some y) (hyl : c.sc.names.lookup y = some .local) (hg : GlC c.sc "zip") (hm : c.mg "zip" = none) (f : α → D) (g : β → D)
    (h : WE c a Γ M fun d1 M1 => WE c b Γ M1 fun d2 M2 => ∃ (xs : List α) (ys : List β), d1 = .lst (xs.map f) ∧ d2 = .lst (ys.map g) ∧ ∃ Inv, LcQ c scope (own.map (·.2)) (.Tuple elts kk tpos) elt ifs Γ (xs.zip ys) (fun z => .tup [f z.1, g z.2]) Inv M2 fun d M3 => E.nx (Γ.set i (some d)) M3)
    (hsw : ∀ env, env.scope = c.sc → swapsWith (.ListComp elt [⟨.Tuple elts kk tpos, .Call (.Name "zip" p) [a, b] [] zpos, ifs, 0⟩] scope pos) (some (.Name y py)) spos.line env = pure true := by (rintro ⟨_, _, _, _, _, _, _, _, _⟩ rfl; rfl))
    (hst : ∀ env, starEach [a, b] env = (false, eval a env) :: starEach [b] env := by intro _; rfl) (hst2 : ∀ env, starEach [b] env = (false, eval b env) :: starEach [] env := by intro _; rfl)
    (hs : ∀ env x, foldedSetIterable (.Call (.Name "zip" p) [a, b] [] zpos) env x = pure x := by intro _ _; rfl) (hcm : c.calm = true := by first | rfl | assumption) : WS c (.Assign [.Name y py] (.ListComp elt [⟨.Tuple elts kk tpos, .Call (.Name "zip" p) [a, b] [] zpos, ifs, 0⟩] scope pos) spos) E Γ M := .mk fun X S σ H at_ Ds l =>
  PS.to (ps_setLc (at_.is.calm hcm) at_.is.nd (at_.is.nm hy) (by rw [at_.is.sc]; exact hyl) (hsw _ at_.is.sc) (pi_zip (at_.is.gl hg) (at_.is.mgN hm) (pa_cons wE.pe (pa_cons wE.pe pa_nil (hst2 _)) (hst _)) (hst _) (by rw [hst2]; rfl)) (at_.blkOk hb) (fun s H C cl fp => gB.pg s H C cl fp) (fun s H C cl fp => ttB.pts s H C cl fp) (fun s H C cl fp => tB.pe s H C cl fp) (hs _)) (two h at_ fun v1 v2 H2 d1 d2 M2 c2 s2 r1 r2 ⟨xs, ys, e1, e2, iv, q⟩ => by
    subst e1 e2
    cases r1 with
    | lst h1 h2 =>
      cases r2 with
      | lst h3 h4 => exact ⟨_, _, _, _, rfl, by rw [at_.is.K]; exact h1.sq, by rw [at_.is.K]; exact h3.sq, lcZ_core at_.is hcm c2 (at_.slots.to s2.to) h1 h2 h3 h4 q fun v H' d M' c3 s3 r3 q3 => l.nx _ _ _ _ c3 ((at_.slots.to (s2.trans s3).to).set r3) (s2.trans s3) q3⟩)
/-- for u, v in zip(a, b) -/
theorem ws_forZ {p zpos tpos : Pos} {elts : List Expr} {kk : Nat} {body : List Stmt} (hg : GlC c.sc "zip") (hm : c.mg "zip" = none) (f : α → D) (g : β → D)
    (h : WE c a Γ M fun d1 M1 => WE c b Γ M1 fun d2 M2 => ∃ (xs : List α) (ys : List β), d1 = .lst (xs.map f) ∧ d2 = .lst (ys.map g) ∧ ∃ Inv : List (α × β) → Gam → Cells → Prop, Inv [] Γ M2 ∧
      (∀ pre y post Γ2 M2, xs.zip ys = pre ++ y :: post → Inv pre Γ2 M2 → WG c (.Tuple elts kk tpos) (.tup [f y.1, g y.2]) Γ2 M2 fun Γ3 M3 => WSs c body { nx := Inv (pre ++ [y]), ct := Inv (pre ++ [y]), bk := E.nx, rt := E.rt } Γ3 M3) ∧ ∀ Γ2 M2, Inv (xs.zip ys) Γ2 M2 → E.nx Γ2 M2)
    (hst : ∀ env, starEach [a, b] env = (false, eval a env) :: starEach [b] env := by intro _; rfl) (hst2 : ∀ env, starEach [b] env = (false, eval b env) :: starEach [] env := by intro _; rfl)
    (hs : ∀ env x, foldedSetIterable (.Call (.Name "zip" p) [a, b] [] zpos) env x = pure x := by intro _ _; rfl) (hcm : c.calm = true := by first | rfl | assumption) : WS c (.For (.Tuple elts kk tpos) (.Call (.Name "zip" p) [a, b] [] zpos) body [] pos) E Γ M := .mk fun X S σ H at_ Ds l => by
  refine PS.to (ps_for at_.is.po (at_.is.calm hcm) (pi_zip (at_.is.gl hg) (at_.is.mgN hm) (pa_cons wE.pe (pa_cons wE.pe pa_nil (hst2 _)) (hst _)) (hst _) (by rw [hst2]; rfl)) wG.pg wSs.pss (hs _)) (two h at_ fun v1 v2 H1 d1 d2 M1 c1 s1 r1 r2 ⟨xs, ys, e1, e2, Iv, inv0, step, fin⟩ => ?_)
  subst e1 e2
  cases r1 with
  | lst h1 h2 =>
    cases r2 with
    | lst h3 h4 =>
      rename_i u1 vs u2 ws
      have hl1 : vs.length = xs.length := by rw [h2.length, List.length_map]
      have hl2 : ws.length = ys.length := by rw [h4.length, List.length_map]
      refine ⟨_, _, _, _, rfl, by rw [at_.is.K]; exact h1.sq, by rw [at_.is.K]; exact h3.sq, for_it (walk_zip (K := X.K) (xs := vs) (ys := ws) (n := (xs.zip ys).length) (by rw [List.length_zip, hl1, hl2])) (fun i σ2 H2 => ∃ Γ2 M2, Core c.K S M2 H2 ∧ Slots c.K (av S M2) H2 Γ2 σ2 ∧ Step M1 M2 H1 H2 ∧ Iv ((xs.zip ys).take i) Γ2 M2)
        ⟨Γ, M1, c1, at_.slots.to s1.to, .refl, inv0⟩ (fun i σ2 H2 _ ⟨Γ2, M2, c2, sl2, st2, _⟩ => by rw [at_.is.K]; exact ⟨(st2.to.rdl h1).sq, (st2.to.rdl h3).sq⟩) ?_ ?_⟩
      · rintro i v σ2 H2 H3 hlt ⟨Γ2, M2, c2, sl2, st2, inv⟩ ⟨T, x', y', rfl, hT, rfl, hx, hy⟩
        obtain ⟨p, ep, rp⟩ := getV_map h2 hx
        obtain ⟨q, eq, rq⟩ := getV_map h4 hy
        have ez : (xs.zip ys)[i]? = some (p, q) := by rw [List.getElem?_zip_eq_some]; exact ⟨ep, eq⟩
        obtain ⟨sp, tk⟩ := split_at ez
        have stT : Step M2 M2 H2 (upd H2 T (.tup [x', y'])) := Step.same (same_new hT)
        have s3 := st2.trans stT
        refine (step _ (p, q) _ Γ2 M2 sp inv).run X S σ2 _ (at_.slot (c2.new hT) (sl2.to stT.to) (s1.trans s3)) _ (.tup (.inl ⟨c2.free hT, .inl upd_same⟩) (.cons (rp.to s3.to) (.cons (rq.to s3.to) .nil))) _ fun σ3 H3 Γ3 M3 c3 sl3 st3 q => q.run X S σ3 H3 (at_.slot c3 sl3 ((s1.trans s3).trans st3)) _ ⟨?_, ?_, ?_, ?_⟩
        · intro σ4 H4 Γ4 M4 c4 sl4 st4 q4
          exact ⟨Γ4, M4, c4, sl4, (s3.trans st3).trans st4, by rw [tk]; exact q4⟩
        · intro v4 H4 d4 M4 c4 st4 r4 q4
          exact l.rt v4 H4 d4 M4 c4 (((s1.trans s3).trans st3).trans st4) r4 q4
        · intro σ4 H4 Γ4 M4 c4 sl4 st4 q4
          exact l.nx σ4 H4 Γ4 M4 c4 sl4 (((s1.trans s3).trans st3).trans st4) q4
        · intro σ4 H4 Γ4 M4 c4 sl4 st4 q4
          exact ⟨Γ4, M4, c4, sl4, (s3.trans st3).trans st4, by rw [tk]; exact q4⟩
      · rintro σ2 H2 ⟨Γ2, M2, c2, sl2, st2, inv⟩
        rw [List.take_length] at inv
        exact l.nx σ2 H2 Γ2 M2 c2 sl2 (s1.trans st2) (fin Γ2 M2 inv)
end
end PL
namespace PL
open PySem PySem.Spec PyProof.Rows L2
section
variable {c : Ctx} {X : Cx} {S : AS} {Γ Γ' : Gam} {M M' : Cells} {σ σ' : L2.St} {H H' : Hp} {a b e elt tg iter : Expr} {es ifs : List Expr} {pos pos' : Pos} {Q : D → Cells → Prop} {R : Bool → Cells → Prop} {x : Str} {E : PEnds} {scope : Scope} {own : List (Str × Nat)}
/-- a.extend(e), e a list that is a cell -/
theorem we_extend {apos : Pos} (h : WE c a Γ M fun x M1 => ∃ (p : Addr) (i : Nat) (ds : List D), x = .ptr p ∧ M1[i]? = some (p, .lst ds) ∧ WE c e Γ M1 fun y M2 => ∃ (q : Addr) (j j2 : Nat) (ds2 zs : List D), y = .ptr q ∧ M2[j]? = some (p, .lst ds2) ∧ M2[j2]? = some (q, .lst zs) ∧ ds2.length + zs.length ≤ sizeLine ∧ Q .non (M2.set j (p, .lst (ds2 ++ zs))))
    (hbase : ∀ env, attributeBase a "extend" env (eval a env) = eval a env := by intro _; rfl)
    (hfew : ∀ env, ((backTo pos (starEach [e] env)).all (fun x => !x.1) && (backToKw pos (keywordEach [] env)).all (fun x => x.1.isSome)
      && decide ([e].length + ([] : List Keyword).length + (if ([] : List Keyword).isEmpty then 0 else 1) < 30)) = true := by intro _; rfl)
    (hline : (apos.endLine == pos.line) = true := by rfl) (hst : ∀ env, starEach [e] env = (false, eval e env) :: starEach [] env := by intro _; rfl) (hplain : ∀ env, (backTo pos (starEach [] env)).any (·.1) = false := by intro _; rfl) :
    WE c (.Call (.Attribute a "extend" apos) [e] [] pos) Γ M Q := .mk fun X S σ H at_ Q' hq =>
  PE.to (pe_bm PySem.F.plainAttrs_list PySem.F.slot_list_extend PySem.F.type_list_extend mt_extend wE.pe wA.pa (hbase _) (hfew _) hline (hst _) (hplain _)) (h.run X S σ H at_ _ fun v1 H1 d1 M1 c1 s1 r1 ⟨p, i, ds, e1, hi, q1⟩ => by
    subst e1; cases r1
    obtain ⟨o, ho, vs, e, rs⟩ := c1.at_ hi
    subst e
    refine ⟨tyV_list ho, PA.to (pa_cons wE.pe pa_nil (hst _)) (q1.run X S σ H1 (at_.step c1 s1) _ fun v2 H2 y M2 c2 s2 r2 ⟨q, j, j2, ds2, zs, e2, hj, hj2, hl, q2⟩ => ?_)⟩
    subst e2; cases r2
    obtain ⟨o1, ho1, vs1, e1, rs1⟩ := c2.at_ hj
    obtain ⟨o2, ho2, vs2, e2, rs2⟩ := c2.at_ hj2
    subst e1 e2
    have kp := c2.put (m' := .lst (ds2 ++ zs)) (o := .lst (vs1 ++ vs2)) hj ⟨_, rfl, rs1.append rs2⟩
    exact ⟨p, q, vs1, vs2, rfl, rfl, ho1, ho2, by rw [rs1.length, rs2.length]; exact hl, hq _ _ _ _ kp.1 ((s1.trans s2).trans kp.2) .non q2⟩)
/-- a comprehension's list, left as a cell -/
def LcC (c : Ctx) (scope : Scope) (vs0 : List Nat) (tg elt : Expr) (ifs : List Expr) (Γ : Gam) {α : Type} (xs : List α) (f : α → D) (Inv : List α → List D → Cells → Prop) (M1 : Cells) (Q : D → Cells → Prop) : Prop :=
  xs.length ≤ sizeLine ∧ Inv [] [] M1 ∧ (∀ pre y post acc M2, xs = pre ++ y :: post → acc.length ≤ pre.length → Inv pre acc M2 → Turn1 c scope vs0 tg elt ifs (f y) Γ M2 (fun d M4 => Inv (pre ++ [y]) (acc ++ [d]) M4) (fun M4 => Inv (pre ++ [y]) acc M4)) ∧
  ∀ acc M2 p, acc.length ≤ xs.length → Inv xs acc M2 → Q (.ptr p) ((p, .lst acc) :: M2)
theorem lcc_map {α : Type} {xs : List α} {f : α → D} (g : α → D) {vs0 : List Nat} (hz : xs.length ≤ sizeLine) (hs : ∀ y ∈ xs, Turn1 c scope vs0 tg elt ifs (f y) Γ M (fun d M4 => d = g y ∧ M4 = M) (fun _ => False)) (q : ∀ p, Q (.ptr p) ((p, .lst (xs.map g)) :: M)) :
    LcC c scope vs0 tg elt ifs Γ xs f (fun pre acc M2 => acc = pre.map g ∧ M2 = M) M Q := by
  obtain ⟨h1, h2, h3, _⟩ := lcq_map (Q := fun _ _ => True) g hz hs trivial
  refine ⟨h1, h2, h3, ?_⟩
  rintro acc M2 p _ ⟨rfl, rfl⟩
  exact q p
theorem lcR_coreC (is_ : c.Is X) (hcm : c.calm = true) {M1 : Cells} {H1 : Hp} {lo : Int} {n : Nat} (cr : Core c.K S M1 H1) (sl : Slots c.K (av S M1) H1 Γ σ)
    {Inv : List Nat → List D → Cells → Prop} (h : LcC c scope (own.map (·.2)) tg elt ifs Γ (List.range n) (fun k => .int (lo + (k : Int))) Inv M1 Q) {Q' : VK} (hq : ∀ v H' d M', Core c.K S M' H' → Step M1 M' H1 H' → Rep c.K (av S M') H' v d → Q d M' → Q' v H') :
    ∀ D, H1 D = none → ∃ W : Nat → Nat → Hp → Prop, (∃ m, W 0 m (upd H1 D (.lst []))) ∧ ∀ i m H, W i m H →
      ((Itr lo n).stop i H ∧ Q' (.ref D) H) ∨ ((Itr lo n).go i H ∧ ∃ Nx : Hp → Prop, (∀ H', Nx H' → ∃ m', m' < m ∧ W (i + 1) m' H') ∧ ∀ x H', (Itr lo n).yld i H x H' → gB X scope tg x (wipe σ (own.map (·.2))) H' fun σ2 H2 => wipe σ2 (own.map (·.2)) = wipe σ (own.map (·.2)) ∧ ttB X scope ifs σ2 H2 fun b H3 =>
        if b = true then tB X scope elt σ2 H3 fun y H4 => ∃ acc, H4 D = some (.lst acc) ∧ acc.length < sizeLine ∧ Nx (upd H4 D (.lst (acc ++ [y]))) else Nx H3) := by
  intro D0 hn
  obtain ⟨hz, h0, hs, hd⟩ := h
  refine lc_range (Qd := Q' (.ref D0)) (fun i H2 => ∃ acc M2, Core c.K S ((D0, .lst acc) :: M2) H2 ∧ Step M1 ((D0, .lst acc) :: M2) H1 H2 ∧ acc.length ≤ i ∧ Inv ((List.range n).take i) acc M2) ?_ ?_ ?_
  · have k := cr.cell (o := .lst []) (m := .lst []) hn ⟨[], rfl, .nil⟩
    exact ⟨[], M1, k.1, k.2, Nat.le_refl _, h0⟩
  · rintro i H2 hi ⟨acc, M2, c2, s2, hl, inv⟩
    have hx : (List.range n)[i]? = some i := List.getElem?_range hi
    obtain ⟨sp, tk⟩ := split_at hx
    have hin : i ≤ n := Nat.le_of_lt hi
    refine lc_turn is_ hcm sl c2 s2 .int (by rw [List.length_range] at hz; omega) (hs _ i _ acc M2 sp (by rw [List.length_take, List.length_range]; omega) inv) ?_ ?_
    · intro d M4 H' c4 s4 q
      exact ⟨_, M4, c4, s4, by simp; omega, by rw [tk]; exact q⟩
    · intro M4 H' c4 s4 q
      exact ⟨_, M4, c4, s4, by omega, by rw [tk]; exact q⟩
  · rintro H2 ⟨acc, M2, c2, s2, hl, inv⟩
    have e : (List.range n).take n = List.range n := List.take_of_length_le (by rw [List.length_range]; exact Nat.le_refl _)
    rw [e] at inv
    exact hq _ _ _ _ c2 s2 .ptr (hd acc M2 D0 (by rw [List.length_range]; exact hl) inv)
/-- [.. for tg in range(a, b) ..] -/
theorem we_lcR2 {p p' : Pos} (own : List (Str × Nat)) (hb : blkC c.N c.sc scope own = true) (hg : GlC c.sc "range") (hm : c.mg "range" = none)
    (h : WE c a Γ M fun d1 M1 => WE c b Γ M1 fun d2 M2 => ∃ lo n : Int, d1 = .int lo ∧ d2 = .int n ∧ (-(2 ^ 62) ≤ lo ∧ lo < 2 ^ 62 ∧ -(2 ^ 62) ≤ n ∧ n < 2 ^ 62) ∧ ∃ Inv : List Nat → List D → Cells → Prop, LcQ c scope (own.map (·.2)) tg elt ifs Γ (List.range (n - lo).toNat) (fun k => .int (lo + (k : Int))) Inv M2 Q)
    (hst : ∀ env, starEach [a, b] env = (false, eval a env) :: starEach [b] env := by intro _; rfl) (hst2 : ∀ env, starEach [b] env = (false, eval b env) :: starEach [] env := by intro _; rfl)
    (hs : ∀ env x, foldedSetIterable (.Call (.Name "range" p) [a, b] [] p') env x = pure x := by intro _ _; rfl) (hcm : c.calm = true := by first | rfl | assumption) : WE c (.ListComp elt [⟨tg, .Call (.Name "range" p) [a, b] [] p', ifs, 0⟩] scope pos) Γ M Q := .mk fun X S σ H at_ Q' hq =>
  PE.to (pe_lc (at_.is.calm hcm) at_.is.nd (pi_range2 (at_.is.gl hg) (at_.is.mgN hm) (pa_cons wE.pe (pa_cons wE.pe pa_nil (hst2 _)) (hst _)) (by rw [hst, hst2]; rfl) (by rw [hst2]; rfl)) (at_.blkOk hb) (fun s H C cl fp => gB.pg s H C cl fp) (fun s H C cl fp => ttB.pts s H C cl fp) (fun s H C cl fp => tB.pe s H C cl fp) (hs _)) (two h at_ fun v1 v2 H2 d1 d2 M2 c2 s2 r1 r2 ⟨lo, n, e1, e2, b1, iv, q⟩ => by
    subst e1 e2
    cases r1; cases r2
    exact ⟨lo, n, rfl, b1, lcR_core at_.is hcm c2 (at_.slots.to s2.to) q fun v H' d M' c3 s3 r3 q3 => hq v H' d M' c3 (s2.trans s3) r3 q3⟩)
theorem we_lcR2C {p p' : Pos} (own : List (Str × Nat)) (hb : blkC c.N c.sc scope own = true) (hg : GlC c.sc "range") (hm : c.mg "range" = none)
    (h : WE c a Γ M fun d1 M1 => WE c b Γ M1 fun d2 M2 => ∃ lo n : Int, d1 = .int lo ∧ d2 = .int n ∧ (-(2 ^ 62) ≤ lo ∧ lo < 2 ^ 62 ∧ -(2 ^ 62) ≤ n ∧ n < 2 ^ 62) ∧ ∃ Inv : List Nat → List D → Cells → Prop, LcC c scope (own.map (·.2)) tg elt ifs Γ (List.range (n - lo).toNat) (fun k => .int (lo + (k : Int))) Inv M2 Q)
    (hst : ∀ env, starEach [a, b] env = (false, eval a env) :: starEach [b] env := by intro _; rfl) (hst2 : ∀ env, starEach [b] env = (false, eval b env) :: starEach [] env := by intro _; rfl)
    (hs : ∀ env x, foldedSetIterable (.Call (.Name "range" p) [a, b] [] p') env x = pure x := by intro _ _; rfl) (hcm : c.calm = true := by first | rfl | assumption) : WE c (.ListComp elt [⟨tg, .Call (.Name "range" p) [a, b] [] p', ifs, 0⟩] scope pos) Γ M Q := .mk fun X S σ H at_ Q' hq =>
  PE.to (pe_lc (at_.is.calm hcm) at_.is.nd (pi_range2 (at_.is.gl hg) (at_.is.mgN hm) (pa_cons wE.pe (pa_cons wE.pe pa_nil (hst2 _)) (hst _)) (by rw [hst, hst2]; rfl) (by rw [hst2]; rfl)) (at_.blkOk hb) (fun s H C cl fp => gB.pg s H C cl fp) (fun s H C cl fp => ttB.pts s H C cl fp) (fun s H C cl fp => tB.pe s H C cl fp) (hs _)) (two h at_ fun v1 v2 H2 d1 d2 M2 c2 s2 r1 r2 ⟨lo, n, e1, e2, b1, iv, q⟩ => by
    subst e1 e2
    cases r1; cases r2
    exact ⟨lo, n, rfl, b1, lcR_coreC at_.is hcm c2 (at_.slots.to s2.to) q fun v H' d M' c3 s3 r3 q3 => hq v H' d M' c3 (s2.trans s3) r3 q3⟩)
theorem ws_lcR2 {i : Nat} {y : Str} {py spos p p' : Pos} (own : List (Str × Nat)) (hb : blkC c.N c.sc scope own = true) (hy : c.N[i]? = some y) (hyl : c.sc.names.lookup y = some .local) (hg : GlC c.sc "range") (hm : c.mg "range" = none)
    (h : WE c a Γ M fun d1 M1 => WE c b Γ M1 fun d2 M2 => ∃ lo n : Int, d1 = .int lo ∧ d2 = .int n ∧ (-(2 ^ 62) ≤ lo ∧ lo < 2 ^ 62 ∧ -(2 ^ 62) ≤ n ∧ n < 2 ^ 62) ∧ ∃ Inv : List Nat → List D → Cells → Prop, LcQ c scope (own.map (·.2)) tg elt ifs Γ (List.range (n - lo).toNat) (fun k => .int (lo + (k : Int))) Inv M2 fun d M3 => E.nx (Γ.set i (some d)) M3)
    (hsw : ∀ env, env.scope = c.sc → swapsWith (.ListComp elt [⟨tg, .Call (.Name "range" p) [a, b] [] p', ifs, 0⟩] scope pos) (some (.Name y py)) spos.line env = pure true := by (rintro ⟨_, _, _, _, _, _, _, _, _⟩ rfl; rfl))
    (hst : ∀ env, starEach [a, b] env = (false, eval a env) :: starEach [b] env := by intro _; rfl) (hst2 : ∀ env, starEach [b] env = (false, eval b env) :: starEach [] env := by intro _; rfl)
    (hs : ∀ env x, foldedSetIterable (.Call (.Name "range" p) [a, b] [] p') env x = pure x := by intro _ _; rfl) (hcm : c.calm = true := by first | rfl | assumption) : WS c (.Assign [.Name y py] (.ListComp elt [⟨tg, .Call (.Name "range" p) [a, b] [] p', ifs, 0⟩] scope pos) spos) E Γ M := .mk fun X S σ H at_ Ds l =>
  PS.to (ps_setLc (at_.is.calm hcm) at_.is.nd (at_.is.nm hy) (by rw [at_.is.sc]; exact hyl) (hsw _ at_.is.sc) (pi_range2 (at_.is.gl hg) (at_.is.mgN hm) (pa_cons wE.pe (pa_cons wE.pe pa_nil (hst2 _)) (hst _)) (by rw [hst, hst2]; rfl) (by rw [hst2]; rfl)) (at_.blkOk hb) (fun s H C cl fp => gB.pg s H C cl fp) (fun s H C cl fp => ttB.pts s H C cl fp) (fun s H C cl fp => tB.pe s H C cl fp) (hs _)) (two h at_ fun v1 v2 H2 d1 d2 M2 c2 s2 r1 r2 ⟨lo, n, e1, e2, b1, iv, q⟩ => by
    subst e1 e2
    cases r1; cases r2
    exact ⟨lo, n, rfl, b1, lcR_core at_.is hcm c2 (at_.slots.to s2.to) q fun v H' d M' c3 s3 r3 q3 => l.nx _ _ _ _ c3 ((at_.slots.to (s2.trans s3).to).set r3) (s2.trans s3) q3⟩)
/-- [.. for tg in xs ..], xs a cell that nobody touches meanwhile -/
theorem we_lcC {α : Type} (own : List (Str × Nat)) (hb : blkC c.N c.sc scope own = true) (f : α → D)
    (h : WE c iter Γ M fun d M1 => ∃ (p : Addr) (xs : List α) (M2 : Cells), d = .ptr p ∧ M1 = (p, .lst (xs.map f)) :: M2 ∧ ∃ Inv : List α → List D → Cells → Prop, LcQ c scope (own.map (·.2)) tg elt ifs Γ xs f Inv M2 fun d M3 => Q d ((p, .lst (xs.map f)) :: M3))
    (hs : ∀ env x, foldedSetIterable iter env x = pure x := by intro _ _; rfl) (hcm : c.calm = true := by first | rfl | assumption) : WE c (.ListComp elt [⟨tg, iter, ifs, 0⟩] scope pos) Γ M Q := .mk fun X S σ H at_ Q' hq =>
  PE.to (pe_lc (at_.is.calm hcm) at_.is.nd (pi_list wE.pe) (at_.blkOk hb) (fun s H C cl fp => gB.pg s H C cl fp) (fun s H C cl fp => ttB.pts s H C cl fp) (fun s H C cl fp => tB.pe s H C cl fp) (hs _)) (h.run X S σ H at_ _ fun v1 H1 d1 M1 c1 s1 r1 ⟨p, xs, M2, e1, e2, iv, q⟩ => by
    subst e1 e2
    cases r1
    obtain ⟨o, ho, us, eo, rs⟩ := c1.at_ (i := 0) rfl
    subst eo
    refine ⟨p, rfl, ⟨us, .inl (.inl ho)⟩, ?_⟩
    intro D0 hn
    obtain ⟨hz, h0, hs, hd⟩ := q
    have cl : Core c.K (av S [(p, .lst (xs.map f))]) M2 H1 := Core.lend (kept := [(p, MO.lst (xs.map f))]) c1
    have hp : p ∉ dom M2 := fun z => (List.nodup_cons.mp c1.nod).1 z
    have toL : To (av S ((p, .lst (xs.map f)) :: M2)) (av (av S [(p, .lst (xs.map f))]) M2) H1 H1 := To.of_iff fun b z => av_app.mp z
    have sl := (at_.slots.to s1.to).to toL
    have rs2 := rs.to toL
    have hl : us.length = xs.length := by rw [rs2.length, List.length_map]
    obtain ⟨Pv, p0, pst, pt, pd⟩ := lc_whole (Qd := Q') (D0 := D0) hn at_.is hcm sl cl hz h0 hs fun acc M3 H3 l i c3 s3 r3 => by
      obtain ⟨b3, bs3⟩ := Core.back (kept := [(p, MO.lst (xs.map f))]) c1 c3 s3
      exact hq _ _ _ _ b3 (s1.trans bs3) (r3.to (To.of_iff fun b z => av_app.mpr z)) (hd acc M3 l i)
    refine lc_list (xs := us) (Qd := Q' (.ref D0)) Pv p0 (fun i H _ pv => ?_) (fun i v H hv pv => ?_) (fun H pv => pd H (by rw [← hl]; exact pv))
    · obtain ⟨M3, s3⟩ := pst i H pv
      exact .inl (.inl (s3.keep p _ hp ho))
    · obtain ⟨z, ex, rd⟩ := getV_map rs2 hv
      exact pt i z H v ex pv fun M3 _ s3 => rd.to s3.to)
end
end PL
namespace PL
open PySem PySem.Spec PyProof.Rows L2
section
variable {c : Ctx} {X : Cx} {S : AS} {Γ Γ' : Gam} {M M' : Cells} {σ σ' : L2.St} {H H' : Hp} {a b e tg : Expr} {es : List Expr} {pos pos' : Pos} {Q : D → Cells → Prop} {R : Bool → Cells → Prop} {x : Str} {E : PEnds} {body : List Stmt}
theorem Reps.flat {K : PySem.W.Frag} {A : AS} {H : Hp} {vs : List V} {ds : List D} (r : Reps K A H vs ds) : ∀ k : Nat, Reps K A H (List.replicate k vs).flatten (List.replicate k ds).flatten
  | 0 => .nil
  | k + 1 => by
    rw [List.replicate_succ, List.replicate_succ, List.flatten_cons, List.flatten_cons]
    exact r.append (r.flat k)
/-- [..] * k, the list a cell that nobody else has -/
theorem we_rep (h : WE c a Γ M fun x M1 => ∃ p, x = .ptr p ∧ WE c b Γ M1 fun y M2 => ∃ (k : Int) (i : Nat) (ds : List D), y = .int k ∧ M2[i]? = some (p, .lst ds) ∧ (-(2 ^ 63) ≤ k ∧ k < 2 ^ 63) ∧ ds.length * k.toNat ≤ sizeLine ∧ Q (.lst (List.replicate k.toNat ds).flatten) (M2.eraseIdx i)) : WE c (.BinOp a .Mult b pos) Γ M Q := .mk fun X S σ H at_ Q' hq =>
  PE.to (pe_op op_rep wE.pe wE.pe) (h.run X S σ H at_ _ fun v1 H1 d1 M1 c1 s1 r1 ⟨p, e1, q1⟩ => by
    subst e1; cases r1
    refine q1.run X S σ H1 (at_.step c1 s1) _ fun v2 H2 d2 M2 c2 s2 r2 ⟨k, i, ds, e2, hi, hk, hz, q⟩ => ?_
    subst e2; cases r2
    obtain ⟨o, ho, vs, eo, rs⟩ := c2.at_ hi
    subst eo
    refine ⟨p, k, vs, rfl, rfl, ho, hk.1, hk.2, by rw [rs.length]; exact hz, fun q' np => ?_⟩
    obtain ⟨c3, r3, s3⟩ := c2.freeze hi
    have rf : Reps c.K (av S (M2.eraseIdx i)) H2 vs ds := rs.to s3.to
    obtain ⟨k1, k2, k3⟩ := fresh_lst (K := c.K) c3 np (rf.flat k.toNat)
    exact hq _ _ _ _ k1 (((s1.trans s2).trans s3).trans k2) k3 q)
/-- for over a list of data that is told only behind the iterable -/
theorem ws_forLx {α : Type} (f : α → D)
    (h : WE c e Γ M fun d M1 => ∃ xs : List α, d = .lst (xs.map f) ∧ ∃ Inv : List α → Gam → Cells → Prop, Inv [] Γ M1 ∧
      (∀ pre y post Γ2 M2, xs = pre ++ y :: post → Inv pre Γ2 M2 → WG c tg (f y) Γ2 M2 fun Γ3 M3 => WSs c body { nx := Inv (pre ++ [y]), ct := Inv (pre ++ [y]), bk := E.nx, rt := E.rt } Γ3 M3) ∧ ∀ Γ2 M2, Inv xs Γ2 M2 → E.nx Γ2 M2)
    (hs : ∀ env x, foldedSetIterable e env x = pure x := by intro _ _; rfl) (hcm : c.calm = true := by first | rfl | assumption) : WS c (.For tg e body [] pos) E Γ M := .mk fun X S σ H at_ Ds l => by
  refine PS.to (ps_for at_.is.po (at_.is.calm hcm) (pi_list wE.pe) wG.pg wSs.pss (hs _)) (h.run X S σ H at_ _ fun v1 H1 d1 M1 c1 s1 r1 ⟨xs, e1, Iv, inv0, step, fin⟩ => ?_)
  subst e1
  cases r1 with
  | lst h1 h2 =>
    rename_i a vs
    have hl : vs.length = xs.length := by rw [h2.length, List.length_map]
    refine ⟨_, rfl, ⟨_, by rw [at_.is.K]; exact h1.sq⟩, for_list (xs := vs) (fun i σ2 H2 => ∃ Γ2 M2, Core c.K S M2 H2 ∧ Slots c.K (av S M2) H2 Γ2 σ2 ∧ Step M1 M2 H1 H2 ∧ Iv (xs.take i) Γ2 M2)
      ⟨Γ, M1, c1, at_.slots.to s1.to, .refl, inv0⟩ (fun i σ2 H2 _ ⟨Γ2, M2, c2, sl2, st2, _⟩ => by rw [at_.is.K]; exact (st2.to.rdl h1).sq) ?_ ?_⟩
    · rintro i y σ2 H2 hi ⟨Γ2, M2, c2, sl2, st2, inv⟩
      obtain ⟨z, ex, rd⟩ := getV_map h2 hi
      obtain ⟨sp, tk⟩ := split_at ex
      refine (step _ z _ Γ2 M2 sp inv).run X S σ2 H2 (at_.slot c2 sl2 (s1.trans st2)) _ (rd.to st2.to) _ fun σ3 H3 Γ3 M3 c3 sl3 st3 q => q.run X S σ3 H3 (at_.slot c3 sl3 ((s1.trans st2).trans st3)) _ ⟨?_, ?_, ?_, ?_⟩
      · intro σ4 H4 Γ4 M4 c4 sl4 st4 q4
        exact ⟨Γ4, M4, c4, sl4, (st2.trans st3).trans st4, by rw [tk]; exact q4⟩
      · intro v4 H4 d4 M4 c4 st4 r4 q4
        exact l.rt v4 H4 d4 M4 c4 (((s1.trans st2).trans st3).trans st4) r4 q4
      · intro σ4 H4 Γ4 M4 c4 sl4 st4 q4
        exact l.nx σ4 H4 Γ4 M4 c4 sl4 (((s1.trans st2).trans st3).trans st4) q4
      · intro σ4 H4 Γ4 M4 c4 sl4 st4 q4
        exact ⟨Γ4, M4, c4, sl4, (st2.trans st3).trans st4, by rw [tk]; exact q4⟩
    · rintro σ2 H2 ⟨Γ2, M2, c2, sl2, st2, inv⟩
      rw [hl, List.take_length] at inv
      exact l.nx σ2 H2 Γ2 M2 c2 sl2 (s1.trans st2) (fin Γ2 M2 inv)
end
end PL
/-! sets of keys that are objects (tuples of ints and texts): what adding to one leaves, over any `HeapKind` -/
namespace PL
open PySem PySem.Spec PyProof.Rows L2
universe u
section
variable {P : Program} {w : World} {K : Type} [DecidableEq K]
/-- what a kind of keys has to know besides, that its keys may lie in sets -/
structure InSets (knd : HeapKind P w K) : Prop where
  room : ∀ {A : Around}, A.units < cLine → knd.room A
  cls : ∀ {A : Around} {E : Value → Shared → Prop} {s : Shared} {k : K} {b : Addr} {Q : Bool → Shared → Prop}, knd.is s.heap k b → Q false s → wpAny (model P w) A (ofAClassStatement 8 (.ref b)) Q E s
  val : ∀ {A : Around} {E : Value → Shared → Prop} {s : Shared} {k : K} {b : Addr} {Q : Bool → Shared → Prop}, knd.is s.heap k b → (∀ v, Q v s) → wpAny (model P w) A (hashByValue 8 (.ref b)) Q E s
  stays : knd.Stays
variable {knd : HeapKind P w K}
theorem InSets.keep (I : InSets knd) {h h' : Heap} {k : K} {b : Addr} (x : knd.is h k b) (hk : ∀ c o, h.get? c = some o → h'.get? c = some o) : knd.is h' k b := I.stays.stays (fun c o _ _ e _ => hk c o e) x
theorem InSets.same (I : InSets knd) {h h' : Heap} {k : K} {a b : Addr} {o : Obj} {es : Array (Int × Value)} {ep : Nat} {t : SetTable} (x : knd.is h k b) (ho : h.get? a = some o) (hd : o.data = .set es ep t) (hs : Heap.SameBut a h h') : knd.is h' k b :=
  I.stays.stays (fun c o' vs n e e' => (hs.2 c (by
    rintro rfl
    rw [Option.some.inj (e.symm.trans ho), hd] at e'
    exact nomatch e')).trans e) x

/-- the rows of a set's table -/
def rowsH (knd : HeapKind P w K) (L : List (Addr × K)) : List (Int × Value) := L.map fun p => (knd.hash p.2, Value.ref p.1)
/-- at a stands a set of these keys -/
structure SetH (knd : HeapKind P w K) (h : Heap) (a : Addr) (L : List (Addr × K)) (es : Array (Int × Value)) (ep : Nat) (t : SetTable) : Prop where
  obj : ∃ o, h.get? a = some o ∧ o.ExactSet ∧ o.data = .set es ep t
  ents : es.toList = rowsH knd L
  tab : TabOk t (L.map fun p => knd.hash p.2)
  once : (L.map (·.2)).Nodup
  keys : ∀ p ∈ L, knd.is h p.2 p.1
  led : w.params.followText "set-order" = true ∨ t.led = true
  free : L.length * 5 < t.mask * 3
  few : L.length < 64
variable {A : Around} {E : Value → Shared → Prop} {s : Shared} {a : Addr} {L : List (Addr × K)} {es : Array (Int × Value)} {ep : Nat} {t : SetTable}
theorem ents_size (h : es.toList = rowsH knd L) : es.size = L.length := by simpa [rowsH] using congrArg List.length h
theorem ents_at (h : es.toList = rowsH knd L) (i : Nat) : es[i]? = (L[i]?).map fun p => (knd.hash p.2, Value.ref p.1) := by
  rw [← Array.getElem?_toList, h, rowsH, List.getElem?_map]
theorem fits_of (hd : t.dummies = #[]) (hp : t.place.size = es.size) (hm : es.size ≤ t.mask) : t.fits es.size = true := by
  unfold SetTable.fits SetTable.fill
  rw [hd, hp]
  simpa using hm
theorem SetH.fits (R : SetH knd s.heap a L es ep t) : t.fits es.size = true := by
  have h1 := R.tab.sz
  have h2 := ents_size R.ents
  have h3 := R.free
  rw [List.length_map] at h1
  exact fits_of R.tab.dm (by omega) (by omega)
theorem SetH.keep (I : InSets knd) {h h' : Heap} (R : SetH knd h a L es ep t) (ha : ∀ o, h.get? a = some o → h'.get? a = some o) (hk : ∀ p ∈ L, knd.is h' p.2 p.1) : SetH knd h' a L es ep t :=
  let ⟨o, ho, r⟩ := R.obj
  { R with obj := ⟨o, ha o ho, r⟩, keys := hk }

/-- nothing is shown by a search among such keys -/
theorem seenH (I : InSets knd) {k : K} {b : Addr} (hk : knd.is s.heap k b) {Q : Bool → Shared → Prop} (h : Q false s) {ys : List Value} (hy : ∀ y ∈ ys, ∃ k' c, y = Value.ref c ∧ knd.is s.heap k' c) : wpAny (model P w) A (searchCouldBeSeen (.ref b) ys) Q E s := by
  unfold searchCouldBeSeen
  refine wpAny_bind (wpAny_forIn_list _ (fun rest r s' => (r.1 = none ∧ s' = s) ∧ ∀ y ∈ rest, ∃ k' c, y = Value.ref c ∧ knd.is s.heap k' c) _ ?_ ?_ _ _ ⟨⟨rfl, rfl⟩, hy⟩)
  · rintro v rest r s' ⟨⟨_, rfl⟩, hall⟩
    obtain ⟨k', c, rfl, hc⟩ := hall v List.mem_cons_self
    have more := fun u (hu : u ∈ rest) => hall u (List.mem_cons_of_mem _ hu)
    dsimp only
    cases hv : (b == c || (carriedByValue (.ref b) && carriedByValue (.ref c)))
    · refine wp_if_neg (by decide) (wpAny_bind (knd.quiet hk ?_))
      simp only [Bool.not_true, Bool.false_eq_true, if_false]
      refine wpAny_bind (knd.quiet hc ?_)
      simp only [Bool.not_true, Bool.false_eq_true, if_false]
      refine wpAny_bind (I.cls hk ?_)
      simp only [Bool.false_eq_true, if_false]
      refine wpAny_bind (I.cls hc ?_)
      simp only [Bool.false_eq_true, if_false]
      exact wpAny_pure ⟨⟨rfl, rfl⟩, more⟩
    · exact wp_if_pos rfl (wpAny_pure ⟨⟨rfl, rfl⟩, more⟩)
  · rintro ⟨r1, r2⟩ s' ⟨⟨hr, rfl⟩, _⟩
    cases hr
    exact wpAny_pure h

/-- the c-th step of a hash's way through a table -/
abbrev stepH (m : Nat) (g : Int) (c : Nat) : SetTable.Probe := nth m (runAt m (SetTable.bits g % (m + 1)) (SetTable.bits g)) c
theorem stepH_add (m : Nat) (g : Int) (c q : Nat) : nth m (stepH m g c) q = stepH m g (c + q) := (nth_add m c _ q).symm
theorem stepH_dummy (m : Nat) (g : Int) (c : Nat) : (stepH m g c).dummy = none := by
  induction c with
  | zero => rfl
  | succ c ih =>
    rw [← stepH_add m g c 1]
    show (adv m (stepH m g c)).dummy = none
    unfold adv
    split
    · exact ih
    · exact ih
/-- a search on the way of k's hash, K its first empty place -/
structure OnWay (knd : HeapKind P w K) (t : SetTable) (k : K) (n : Nat) : Prop where
  gap : way t.mask (knd.hash k) n ∉ t.place.toList
  full : ∀ c, c < n → way t.mask (knd.hash k) c ∈ t.place.toList
  near : n < 10 * SetTable.turns t.mask
theorem searchH (I : InSets knd) (R : SetH knd s.heap a L es ep t) {x : Addr} {k : K} (hx : knd.is s.heap k x) (hu : A.units < cLine) {n : Nat} (W : OnWay knd t k n) {Q : SetFound → Shared → Prop}
    (hin : k ∈ L.map (·.2) → Q (.there none) s) (hout : k ∉ L.map (·.2) → Q (.free (way t.mask (knd.hash k) n) false) s) :
    ∀ (f c : Nat) (at? : Option SetTable.Probe), at?.getD (t.probeStart (knd.hash k)) = stepH t.mask (knd.hash k) c → c ≤ n → n - c < f →
      (∀ (i : Nat) p, L[i]? = some p → p.2 = k → ∃ c', (c ≤ c' ∧ c' < n) ∧ t.place.toList[i]? = some (way t.mask (knd.hash k) c')) →
      wpAny (model P w) A (setSearchFrom a (.ref x) (knd.hash k) true f at?) Q E s := by
  intro f
  induction f with
  | zero => intro c at? _ _ hf; exact absurd hf (Nat.not_lt_zero _)
  | succ f ih =>
    intro c at? hat hc hf hre
    obtain ⟨o, ho, hex, hd⟩ := R.obj
    have gw : ¬ t.gaveWay = true := by
      unfold SetTable.gaveWay
      rw [mask_odd R.tab.mok]
      decide
    rw [setSearchFrom_succ]
    refine wpAny_bind (wpAny_setState_of ho hd R.fits ?_)
    dsimp only
    refine wp_if_neg gw ?_
    try refine wpAny_bind (wpAny_pure ?_)
    have wj : ∀ q, (nth t.mask (stepH t.mask (knd.hash k) c) q).j = way t.mask (knd.hash k) (c + q) := fun q => congrArg SetTable.Probe.j (stepH_add ..)
    -- a row of k before the place where the search stands would have been met
    have met : ∀ q : Nat, (∀ (k' i' : Nat), k' < q → t.place.toList[i']? = some (nth t.mask (stepH t.mask (knd.hash k) c) k').j → (fun i => (es[i]?.map (·.1)).getD 0) i' ≠ knd.hash k) →
        ∀ (i : Nat) (p : Addr × K) (c' : Nat), L[i]? = some p → p.2 = k → t.place.toList[i]? = some (way t.mask (knd.hash k) c') → c ≤ c' → ¬ c' < c + q := fun q hno i p c' hp hk hj h1 h2 => by
      refine hno (c' - c) i (by omega) (by rw [wj, show c + (c' - c) = c' by omega]; exact hj) ?_
      show (es[i]?.map (·.1)).getD 0 = _
      rw [ents_at R.ents, hp, ← hk]
      rfl
    rcases go_spec t R.tab.ris R.tab.dm (fun i => (es[i]?.map (·.1)).getD 0) (knd.hash k) (10 * SetTable.turns t.mask) (n - c) _ (stepH_dummy t.mask (knd.hash k) c) (by have := W.near; omega)
      (fun q hq => by rw [wj]; exact W.full _ (by omega)) (by rw [wj, show c + (n - c) = n by omega]; exact W.gap) with ⟨q, i, hq, hi, _, hno, e⟩ | ⟨hno, e⟩
    · have e' : t.probe (fun i => (es[i]?.map (·.1)).getD 0) (knd.hash k) (at?.getD (t.probeStart (knd.hash k))) = some (.candidate (way t.mask (knd.hash k) (c + q)) i (stepH t.mask (knd.hash k) (c + (q + 1)))) := by
        rw [hat, ← wj, ← stepH_add]
        exact e
      rw [e']
      dsimp only
      rw [wj] at hi
      have il : i < L.length := by
        have h1 : i < t.place.toList.length := (List.getElem?_eq_some_iff.mp hi).1
        have h2 := R.tab.sz
        rw [List.length_map] at h2
        rw [Array.length_toList] at h1
        omega
      obtain ⟨p, hp⟩ : ∃ p, L[i]? = some p := ⟨_, List.getElem?_eq_getElem il⟩
      have pm : p ∈ L := List.mem_of_getElem? hp
      have ei : es[i]? = some (knd.hash p.2, Value.ref p.1) := by rw [ents_at R.ents, hp] <;> rfl
      have live := slot_live R.tab.ris hi
      have rest : wpAny (model P w) A (searchRest a (.ref x) (knd.hash k) true f es t (way t.mask (knd.hash k) (c + q)) i (stepH t.mask (knd.hash k) (c + (q + 1)))) Q E s := by
        unfold searchRest
        rw [ei]
        dsimp only
        refine wpAny_bind (wpAny_holding (knd.eqBool (I.room hu) (R.keys p pm) hx ?_))
        refine wpAny_bind (wpAny_setState_of ho hd R.fits ?_)
        dsimp only
        rcases Classical.em (p.2 = k) with hk | hk
        · exact wp_if_pos (by simp [hk]) (wpAny_pure (hin (List.mem_map.mpr ⟨p, pm, hk⟩)))
        · refine wp_if_neg (by simp [hk]) ?_
          try refine wpAny_bind (wpAny_pure ?_)
          rw [sameMem]
          simp only [if_true, live, ei]
          refine wpAny_bind (wpAny_isSame_ref_self (wpAny_bind (wpAny_pure ?_)))
          simp only [if_true]
          refine wp_if_neg (by simp [hk]) (ih (c + (q + 1)) _ rfl (by omega) (by omega) fun i0 p0 h0 hk0 => ?_)
          obtain ⟨c', ⟨a1, a2⟩, a3⟩ := hre i0 p0 h0 hk0
          have a4 := met q hno i0 p0 c' h0 hk0 a3 a1
          refine ⟨c', ⟨?_, a2⟩, a3⟩
          rcases Nat.lt_or_ge (c + q) c' with y | y
          · omega
          · obtain rfl : c' = c + q := by omega
            have l0 := slot_live R.tab.ris a3
            rw [live] at l0
            injection l0 with l0
            rw [← l0, hp] at h0
            exact absurd ((congrArg Prod.snd (Option.some.inj h0)).trans hk0) hk
      cases hl : t.led
      · refine wp_if_pos (by decide) (wpAny_bind (seenH I hx ?_ fun y hy => ?_))
        · refine wp_if_neg (by decide) ?_
          try refine wpAny_bind (wpAny_pure ?_)
          exact rest
        · obtain ⟨e, he, rfl⟩ := List.mem_map.mp hy
          have he' : e ∈ es.toList := by
            have : e ∈ es ∧ e.1 = knd.hash k := by simpa using he
            simpa using this.1
          rw [R.ents] at he'
          obtain ⟨p2, hp2, rfl⟩ := List.mem_map.mp he'
          exact ⟨p2.2, p2.1, rfl, R.keys p2 hp2⟩
      · refine wp_if_neg (by decide) ?_
        try refine wpAny_bind (wpAny_pure ?_)
        exact rest
    · have e' : t.probe (fun i => (es[i]?.map (·.1)).getD 0) (knd.hash k) (at?.getD (t.probeStart (knd.hash k))) = some (.empty (way t.mask (knd.hash k) n) none) := by
        have e2 := wj (n - c)
        rw [show c + (n - c) = n by omega] at e2
        rw [hat, ← e2]
        exact e
      rw [e']
      dsimp only
      refine wpAny_pure (hout fun hm => ?_)
      obtain ⟨p0, h0, hk0⟩ := List.mem_map.mp hm
      obtain ⟨i0, h00⟩ := List.mem_iff_getElem?.mp h0
      obtain ⟨c', ⟨a1, a2⟩, a3⟩ := hre i0 p0 h00 hk0
      exact met (n - c) hno i0 p0 c' h00 hk0 a3 a1 (by omega)
/-- the search as adding asks for it -/
theorem searchH_add (I : InSets knd) (R : SetH knd s.heap a L es ep t) {x : Addr} {k : K} (hx : knd.is s.heap k x) (hu : A.units < cLine) {Q : SetFound → Shared → Prop}
    (hin : k ∈ L.map (·.2) → Q (.there none) s) (hout : ∀ n, OnWay knd t k n → k ∉ L.map (·.2) → Q (.free (way t.mask (knd.hash k) n) false) s) :
    wpAny (model P w) A (setSearch a (.ref x) (knd.hash k) true) Q E s := by
  have fr := R.free
  obtain ⟨n, h1, h2, h3⟩ := R.tab.first (by rw [List.length_map]; omega) (knd.hash k)
  have big : 10 * SetTable.turns t.mask ≤ 1420 := by
    unfold SetTable.turns
    rcases R.tab.mok with e | e | e <;> omega
  unfold setSearch
  refine searchH I R hx hu ⟨h2, h3, h1⟩ hin (hout n ⟨h2, h3, h1⟩) 100000 0 none rfl (Nat.zero_le _) (by omega) fun i p hp hk => ?_
  have il : i < L.length := (List.getElem?_eq_some_iff.mp hp).1
  have hj : t.place.toList[i]? = some (t.place.toList[i]'(by rw [Array.length_toList, R.tab.sz, List.length_map]; exact il)) := List.getElem?_eq_getElem _
  obtain ⟨c, hc, e⟩ := R.tab.before h2 (i := i) (by rw [List.getElem?_map, hp, ← hk] <;> rfl) hj
  exact ⟨c, ⟨Nat.zero_le _, hc⟩, by rw [hj, e]⟩

/-! ### the table laid anew -/
theorem reorder (hr : es.toList = rowsH knd L) {ord : Array Nat} (hp : ord.toList.Perm (List.range L.length)) :
    ∃ L2 : List (Addr × K), (ord.filterMap (es[·]?)).toList = rowsH knd L2 ∧ L2.Perm L ∧ (L2.map fun p => knd.hash p.2) = ord.toList.map fun i => (es.map (·.1)).getD i 0 := by
  refine ⟨ord.toList.filterMap (L[·]?), ?_, ?_, ?_⟩
  · rw [Array.toList_filterMap, rowsH, List.map_filterMap]
    congr 1
    funext i
    exact ents_at hr i
  · have e : (List.range L.length).filterMap (L[·]?) = L := by
      refine List.ext_getElem? fun i => ?_
      have key : ∀ n, n ≤ L.length → (List.range n).filterMap (L[·]?) = L.take n := by
        intro n
        induction n with
        | zero => intro _; rfl
        | succ n ih =>
          intro hn
          rw [List.range_succ, List.filterMap_append, ih (Nat.le_of_lt hn), List.take_succ]
          simp [List.getElem?_eq_getElem (show n < L.length from hn)]
      rw [key _ (Nat.le_refl _), List.take_length]
    have p := hp.filterMap (L[·]?)
    rwa [e] at p
  · have mem : ∀ i ∈ ord.toList, i < L.length := fun i hi => List.mem_range.mp (hp.mem_iff.mp hi)
    generalize ord.toList = l at mem
    induction l with
    | nil => rfl
    | cons i l ih =>
      have hi := mem i List.mem_cons_self
      have e1 : (es.map (·.1)).getD i 0 = knd.hash (L[i]).2 := by
        rw [Array.getD_eq_getD_getElem?, Array.getElem?_map, ents_at hr, List.getElem?_eq_getElem hi] <;> rfl
      rw [List.filterMap_cons_some (List.getElem?_eq_getElem hi), List.map_cons, List.map_cons, e1, ih fun j hj => mem j (List.mem_cons_of_mem _ hj)]
theorem relayH (I : InSets knd) {o : Obj} (ho : s.heap.get? a = some o) (hex : o.ExactSet) (hd : o.data = .set es ep t) (hr : es.toList = rowsH knd L) (hp : t.place.size = es.size) (hdm : t.dummies = #[]) (hfl : es.size ≤ t.mask)
    (nd : (L.map (·.2)).Nodup) (keys : ∀ p ∈ L, knd.is s.heap p.2 p.1) (ld : w.params.followText "set-order" = true ∨ t.led = true) (few : L.length < 64) {want m : Nat}
    (hw : SetTable.sizeAbove want - 1 = m) (hm : MaskOk m) (hw2 : SetTable.sizeAbove want ≤ 128) (hn : L.length * 5 < m * 3) {Q : Unit → Shared → Prop}
    (hQ : ∀ h' L' es' ep' t', Heap.SameBut a s.heap h' → SetH knd h' a L' es' ep' t' → L'.Perm L → Q () { s with heap := h' }) : wpAny (model P w) A (setRelay a want) Q E s := by
  have sz := ents_size hr
  obtain ⟨t', ord, e, pm, T, em, el, ep', ed⟩ := relaid_ok t (hs := es.map (·.1)) (wanted := want) hw hm (by rw [Array.size_map, sz]; omega)
  rw [Array.size_map, sz] at pm
  obtain ⟨L2, r1, r2, r3⟩ := reorder hr pm
  rw [← r3] at T
  have sz2 : (ord.filterMap (es[·]?)).size = es.size := by rw [ents_size r1, r2.length_eq, sz]
  rw [setRelay_eq]
  refine wpAny_bind (wpAny_setState_of ho hd (fits_of hdm hp hfl) ?_)
  dsimp only
  refine wp_if_neg (by rw [sizeLine_eq]; omega) ?_
  try refine wpAny_bind (wpAny_pure ?_)
  rw [e]
  dsimp only
  refine wpAny_bind (wp_if_neg (by rw [sz2]; simp) ?_)
  try refine wpAny_bind (wpAny_pure ?_)
  refine wpAny_pure ?_
  dsimp only
  refine wpAny_storeSet_of ho hd ?_ (by rw [sz2, sz, sizeLine_eq]; omega)
  have sb : Heap.SameBut a s.heap (s.heap.update a (Obj.putSet (ord.filterMap (es[·]?)) t')) := Heap.SameBut.update ..
  exact hQ _ L2 (ord.filterMap (es[·]?)) (ep + 1) t' sb
    { obj := ⟨_, store_at ho hd, ⟨hex.1, hex.2.1, hex.2.2⟩, rfl⟩, ents := r1, tab := T, once := (r2.map (·.2)).nodup_iff.mpr nd, keys := fun p hpm => I.same (keys p (r2.mem_iff.mp hpm)) ho hd sb
      led := by rw [el]; exact ld
      free := by rw [r2.length_eq, em]; exact hn
      few := by rw [r2.length_eq]; exact few } r2
end
end PL
/-! adding to a set of keys that are objects; set(xs); sorted of it -/
namespace PL
open PySem PySem.Spec PyProof.Rows L2
section
variable {P : Program} {w : World} {K : Type} [DecidableEq K] {knd : HeapKind P w K} {A : Around} {E : Value → Shared → Prop} {s : Shared} {a : Addr} {L : List (Addr × K)} {es : Array (Int × Value)} {ep : Nat} {t : SetTable}
/-- what adding leaves: the set as it was, or with the new key, in some order -/
def Added (L : List (Addr × K)) (x : Addr) (k : K) (L' : List (Addr × K)) : Prop := (k ∈ L.map (·.2) ∧ L' = L) ∨ (k ∉ L.map (·.2) ∧ L'.Perm ((x, k) :: L))
/-- adding, behind the search: the new row is put in, the table made larger where it is full -/
def addRow (a : Addr) (x : Value) (h : Int) (wasDummy : Bool) (es : Array (Int × Value)) (p : Nat) (t : SetTable) : Sem Bool := do
  storeSet a (SetTable.insertAt es p (h, x)) t
  if !wasDummy && t.tooFull then setRelay a (SetTable.grown (es.size + 1))
  return true
theorem addIn_eq (a : Addr) (x : Value) (h : Int) (fuel : Nat) : setAddHashedIn a x h (fuel + 1) = (do
    let (es₀, _, t₀) ← setState a
    if byScan x es₀ then
      match ← setAddByScan a x h es₀ t₀ with
      | some added => return added
      | none => return ← setAddHashedIn a x h fuel
    let .free slot wasDummy ← setSearch a x h (adding := true) | return false
    let (es, _, t) ← setState a
    let byValue ← if (t.put slot).1.plain then hashByValue 8 x else pure true
    addRow a x h wasDummy es (t.put slot).2 (if byValue then (t.put slot).1 else { (t.put slot).1 with plain := false })) := by rfl
theorem tab_plain {t : SetTable} {hs : List Int} (T : TabOk t hs) (b : Bool) : TabOk { t with plain := b } hs := ⟨T.ris, T.dm, T.sz, T.mok, T.bd, T.reach⟩
theorem addRowH (I : InSets knd) (R : SetH knd s.heap a L es ep t) {x : Addr} {k : K} (hx : knd.is s.heap k x) (few : L.length + 1 < 64) {i : Nat} {t1 : SetTable} (hm : k ∉ L.map (·.2))
    (q3 : TabOk t1 ((L.map fun p => knd.hash p.2).take i ++ knd.hash k :: (L.map fun p => knd.hash p.2).drop i)) (q4 : t1.mask = t.mask) (q5 : t1.led = t.led) (q9 : t1.fill = L.length + 1) {Q : Bool → Shared → Prop}
    (hQ : ∀ b h' L' es' ep' t', Heap.SameBut a s.heap h' → SetH knd h' a L' es' ep' t' → Added L x k L' → Q b { s with heap := h' }) : wpAny (model P w) A (addRow a (.ref x) (knd.hash k) false es i t1) Q E s := by
  obtain ⟨o, ho, hex, hd⟩ := R.obj
  have sz := ents_size R.ents
  have fr := R.free
  -- the new rows
  have hin : (SetTable.insertAt es i (knd.hash k, Value.ref x)).toList = rowsH knd (L.take i ++ (x, k) :: L.drop i) := by
    rw [SetTable.toList_insertAt, R.ents, rowsH, rowsH, List.map_append, List.map_cons, List.map_take, List.map_drop]
  have pm := put_perm L i (x, k)
  rw [show (L.map fun p => knd.hash p.2).take i ++ knd.hash k :: (L.map fun p => knd.hash p.2).drop i = (L.take i ++ (x, k) :: L.drop i).map fun p => knd.hash p.2 by
    rw [List.map_append, List.map_cons, List.map_take, List.map_drop]] at q3
  unfold addRow
  generalize L.take i ++ (x, k) :: L.drop i = L1 at pm q3 hin
  generalize SetTable.insertAt es i (knd.hash k, Value.ref x) = es1 at hin ⊢
  have len1 : L1.length = L.length + 1 := pm.length_eq
  have sz1 := (ents_size hin).trans len1
  have once1 : (L1.map (·.2)).Nodup := (pm.map (·.2)).nodup_iff.mpr (List.nodup_cons.mpr ⟨hm, R.once⟩)
  refine wpAny_bind (wpAny_storeSet_of ho hd ?_ (by rw [sz1, sizeLine_eq]; omega))
  have sb : Heap.SameBut a s.heap (s.heap.update a (Obj.putSet es1 t1)) := Heap.SameBut.update ..
  have ho1 := store_at (es' := es1) (t' := t1) ho hd
  generalize s.heap.update a (Obj.putSet es1 t1) = h1 at sb ho1 ⊢
  have keys1 : ∀ p ∈ L1, knd.is h1 p.2 p.1 := fun p hp => by
    rcases List.mem_cons.mp (pm.mem_iff.mp hp) with rfl | hp
    · exact I.same hx ho hd sb
    · exact I.same (R.keys p hp) ho hd sb
  have led1 : w.params.followText "set-order" = true ∨ t1.led = true := by rw [q5]; exact R.led
  have full : t1.tooFull = true ↔ t1.mask * 3 ≤ (L.length + 1) * 5 := by
    unfold SetTable.tooFull
    rw [decide_eq_true_eq, q9]
  cases hf : t1.tooFull
  · first
      | refine wp_if_neg (by simp) ?_
      | (refine wpAny_bind ?_; refine wp_if_neg (by simp) ?_; refine wpAny_pure ?_)
    refine wpAny_pure (hQ true h1 L1 es1 (ep + 1) t1 sb
      { obj := ⟨_, ho1, ⟨hex.1, hex.2.1, hex.2.2⟩, rfl⟩, ents := hin, tab := q3, once := once1, keys := keys1, led := led1, few := by omega
        free := by
          have z : ¬ t1.mask * 3 ≤ (L.length + 1) * 5 := fun z => by
            rw [full.mpr z] at hf
            cases hf
          omega } (.inr ⟨hm, pm⟩))
  · first
      | (refine wpAny_bind ?_; refine wp_if_pos (by simp) ?_)
      | (refine wp_if_pos (by simp) ?_; refine wpAny_bind ?_)
    have z := full.mp hf
    have szp : t1.place.size = es1.size := by rw [q3.sz, List.length_map, len1, sz1]
    rw [sz]
    have two : (t.mask = 7 ∧ L.length = 4) ∨ (t.mask = 31 ∧ L.length = 18) := by
      rw [q4] at z
      rcases R.tab.mok with e | e | e <;> rw [e] at z fr <;> omega
    have go : ∀ m, SetTable.sizeAbove (SetTable.grown (L.length + 1)) = m + 1 → MaskOk m → m ≤ 127 → (L.length + 1) * 5 < m * 3 →
        wpAny (model P w) A (setRelay a (SetTable.grown (L.length + 1))) (fun _ s' => wpAny (model P w) A (pure true) Q E s') E { s with heap := h1 } := fun m g1 g2 g3 g4 =>
      relayH I (s := { s with heap := h1 }) ho1 ⟨hex.1, hex.2.1, hex.2.2⟩ rfl hin szp q3.dm (by rw [sz1, q4]; omega) once1 keys1 led1 (by omega) (by omega) g2 (by omega) (by omega)
        fun h2 L2 es2 ep2 t2 sb2 R2 pm2 => wpAny_pure (hQ true h2 L2 es2 ep2 t2 (sb.trans sb2) R2 (.inr ⟨hm, pm2.trans pm⟩))
    rcases two with ⟨_, e⟩ | ⟨_, e⟩
    · exact go 31 (by rw [e, size_20]) (.inr (.inl rfl)) (by decide) (by omega)
    · exact go 127 (by rw [e, size_76]) (.inr (.inr rfl)) (by decide) (by omega)
theorem addH (I : InSets knd) (R : SetH knd s.heap a L es ep t) {x : Addr} {k : K} (hx : knd.is s.heap k x) (hu : A.units < cLine) (few : L.length + 1 < 64) {Q : Bool → Shared → Prop}
    (hQ : ∀ b h' L' es' ep' t', Heap.SameBut a s.heap h' → SetH knd h' a L' es' ep' t' → Added L x k L' → Q b { s with heap := h' }) : wpAny (model P w) A (setAddHashed a (.ref x) (knd.hash k)) Q E s := by
  obtain ⟨o, ho, hex, hd⟩ := R.obj
  unfold setAddHashed
  refine wpAny_holding ?_
  rw [show (100000 : Nat) = 99999 + 1 from rfl, addIn_eq]
  refine wpAny_bind (wpAny_setState_of ho hd R.fits ?_)
  dsimp only
  refine wp_if_neg (by simp [byScan, Value.scannable]) ?_
  try refine wpAny_bind (wpAny_pure ?_)
  refine wpAny_bind (searchH_add I R hx hu (fun hm => ?_) fun n W hm => ?_)
  · dsimp only
    exact wpAny_pure (hQ false s.heap L es ep t (Heap.SameBut.refl a s.heap) R (.inl ⟨hm, rfl⟩))
  · dsimp only
    refine wpAny_bind (wpAny_setState_of ho hd R.fits ?_)
    dsimp only
    obtain ⟨q1, q2, q3, q4, q5, q6, q7, q8, q9⟩ := R.tab.put W.gap W.full
    rw [List.length_map] at q9
    rw [q1]
    have row : ∀ byv : Bool, wpAny (model P w) A (addRow a (.ref x) (knd.hash k) false es (SetTable.below t.place (way t.mask (knd.hash k) n)) (if byv = true then (t.put (way t.mask (knd.hash k) n)).1 else { (t.put (way t.mask (knd.hash k) n)).1 with plain := false })) Q E s := fun byv => by
      cases byv
      · exact addRowH I R hx few hm (tab_plain q3 false) q4 q5 q9 hQ
      · exact addRowH I R hx few hm q3 q4 q5 q9 hQ
    cases hpl : (t.put (way t.mask (knd.hash k) n)).1.plain
    · first
        | (refine wpAny_bind ?_; refine wp_if_neg (by decide) ?_; exact wpAny_pure (row true))
        | refine wp_if_neg (by decide) (wpAny_bind (wpAny_pure (row true)))
    · first
        | (refine wpAny_bind ?_; refine wp_if_pos rfl ?_; exact I.val hx row)
        | refine wp_if_pos rfl (wpAny_bind (I.val hx row))

/-! ### the loop of set.update -/
/-- L is what a set has got from these items -/
structure GotH (ks : List (Addr × K)) (L : List (Addr × K)) : Prop where
  sub : ∀ p ∈ L, p ∈ ks
  all : ∀ p ∈ ks, p.2 ∈ L.map (·.2)
  len : L.length ≤ ks.length
theorem GotH.next {ks L L' : List (Addr × K)} (g : GotH ks L) {x : Addr} {k : K} (h : Added L x k L') : GotH (ks ++ [(x, k)]) L' := by
  rcases h with ⟨hm, rfl⟩ | ⟨hm, pm⟩
  · refine ⟨fun p hp => List.mem_append_left _ (g.sub p hp), fun p hp => ?_, by rw [List.length_append]; exact Nat.le_trans g.len (Nat.le_add_right _ _)⟩
    rcases List.mem_append.mp hp with hp | hp
    · exact g.all p hp
    · rw [List.mem_singleton.mp hp]; exact hm
  · refine ⟨fun p hp => ?_, fun p hp => ?_, by rw [pm.length_eq, List.length_append]; exact Nat.succ_le_succ g.len⟩
    · rcases List.mem_cons.mp (pm.mem_iff.mp hp) with rfl | hp
      · exact List.mem_append_right _ (List.mem_singleton.mpr rfl)
      · exact List.mem_append_left _ (g.sub p hp)
    · refine (pm.map (·.2)).mem_iff.mpr ?_
      rcases List.mem_append.mp hp with hp | hp
      · exact List.mem_cons_of_mem _ (g.all p hp)
      · rw [List.mem_singleton.mp hp]; exact List.mem_cons_self
theorem updateH (I : InSets knd) {it : Addr} {fp wr : List Addr} {G : Array GenState → Array GenState → Prop} {n : Nat} {Pv : Nat → Value → Prop} {St : Nat → Shared → Prop} {R : Result → Shared → Prop}
    (W : WalksS P w A.in1 it fp wr G n Pv St) (S : Addr) (hSf : S ∉ fp) (ks : List (Addr × K)) (hn : n = ks.length) (few : ks.length < 64) (hval : ∀ i v, Pv i v → ∃ p, ks[i]? = some p ∧ v = .ref p.1)
    (h0 : Heap) (hk : ∀ p ∈ ks, knd.is h0 p.2 p.1) (hS0 : h0.get? S = none) (hw0 : ∀ b ∈ wr, h0.get? b = none) (hu : A.in1.units < cLine) :
    ∀ (m i : Nat) (s : Shared), i + m = n → St i s → (∀ b o, h0.get? b = some o → s.heap.get? b = some o) → (∃ L es ep t, SetH knd s.heap S L es ep t ∧ GotH (ks.take i) L) →
      (∀ s' L es ep t, Moved (S :: wr) G s s' → SetH knd s'.heap S L es ep t → GotH ks L → (∀ b o, h0.get? b = some o → s'.heap.get? b = some o) → R (.ok (.ret .none)) s') →
      codeAny (model P w) A (.builtin "set.update.loop" ⟨[.ref S, .ref it], []⟩) R s := by
  have hSw : S ∉ wr := fun h => hSf (W.sub _ h)
  have up : ∀ b ∈ wr, b ∈ S :: wr := fun b hb => List.mem_cons_of_mem _ hb
  -- what the walk's own steps leave
  have onw : ∀ (s s' : Shared), Moved wr G s s' → (∀ b o, h0.get? b = some o → s.heap.get? b = some o) → ∀ (L : List (Addr × K)) (es : Array (Int × Value)) (ep : Nat) (t : SetTable), SetH knd s.heap S L es ep t → (∀ p ∈ L, p ∈ ks) →
      (∀ b o, h0.get? b = some o → s'.heap.get? b = some o) ∧ SetH knd s'.heap S L es ep t := by
    intro s s' hm hkp L es ep t hS sub
    have k' : ∀ b o, h0.get? b = some o → s'.heap.get? b = some o := fun b o e => hm.heap b o (fun hb => by rw [hw0 b hb] at e; cases e) (hkp b o e)
    exact ⟨k', hS.keep I (fun o e => hm.heap S o hSw e) fun p hp => I.keep (hk p (sub p hp)) k'⟩
  intro m
  induction m with
  | zero =>
    intro i s him hst hkp ⟨L, es, ep, t, hS, g⟩ hR
    obtain rfl : i = n := him
    rw [hn, List.take_length] at g
    refine codeAny_builtin F.entry_set_update_loop ?_
    rw [Around.under_plainId F.plain_set_update_loop _]
    show wpAny _ A.in1 (pyNext (.ref it) >>= _) _ _ s
    refine wpAny_bind (W.done s _ _ hst fun s' hm => ?_)
    obtain ⟨k', hS'⟩ := onw _ _ hm hkp _ _ _ _ hS g.sub
    exact wpAny_pure (hR s' L es ep t (hm.mono up) hS' g k')
  | succ m ih =>
    intro i s him hst hkp ⟨L, es, ep, t, hS, g⟩ hR
    refine codeAny_builtin F.entry_set_update_loop ?_
    rw [Around.under_plainId F.plain_set_update_loop _]
    show wpAny _ A.in1 (pyNext (.ref it) >>= _) _ _ s
    refine wpAny_bind (W.item i s _ _ (by omega) hst fun v s' hP hst' hm => ?_)
    obtain ⟨⟨x, k⟩, hp, rfl⟩ := hval i v hP
    obtain ⟨k', hS'⟩ := onw _ _ hm hkp _ _ _ _ hS fun p hp => List.mem_of_mem_take (g.sub p hp)
    have hx : knd.is s'.heap k x := I.keep (hk _ (List.mem_of_getElem? hp)) k'
    have il : i < ks.length := (List.getElem?_eq_some_iff.mp hp).1
    show wpAny _ A.in1 (holding [Value.ref x] (setAdd S (.ref x)) >>= _) _ _ s'
    refine wpAny_bind (wpAny_holding ?_)
    unfold setAdd
    refine wpAny_holding (wpAny_bind (knd.pyHash (I.room hu) hx ?_))
    refine addH (s := { s' with toks := s'.toks + knd.draws k }) I hS' hx hu (by
      have := g.len
      rw [List.length_take] at this
      omega) fun b h' L' es' ep' t' sb hS2 ad => ?_
    have g' : GotH (ks.take (i + 1)) L' := by
      rw [take_next hp]
      exact g.next ad
    have k2 : ∀ b o, h0.get? b = some o → h'.get? b = some o := fun b o e => (sb.2 b (fun z => by rw [z, hS0] at e; cases e)).trans (k' b o e)
    refine wpAny_pure ⟨plainId_quiet F.plain_set_update_loop _, ih (i + 1) _ (by omega) (W.frame _ s' _ _ hst' (Nat.le_add_right _ _) fun b hb o e => ?_) k2 ⟨L', es', ep', t', hS2, g'⟩ fun s'' L2 es2 ep2 t2 hm'' hS'' g'' k'' => ?_⟩
    · exact (sb.2 b (fun z : b = S => hSf (z ▸ hb))).trans e
    · refine hR s'' L2 es2 ep2 t2 (Moved.trans W.gtrans ((hm.mono up).then_heap (Nat.le_add_right _ _) fun b o hb e => ?_) hm'') hS'' g'' k''
      exact (sb.2 b (fun z : b = S => hb (z ▸ List.mem_cons_self))).trans e
end
end PL
/-! set(xs) of keys that are objects, sorted of it; tuples of ints and texts -/
namespace PL
open PySem PySem.Spec PyProof.Rows L2
open PySem.W (sortingHeap sortingHeap_old)
theorem perm_lift {α β : Type} {f : α → β} {u v : List β} (h : u.Perm v) : ∀ {l : List α}, v = l.map f → ∃ l' : List α, l'.Perm l ∧ u = l'.map f := by
  induction h with
  | nil => intro l e; exact ⟨l, .refl _, e⟩
  | cons x _ ih =>
    intro l e
    cases l with
    | nil => cases e
    | cons y l =>
      injection e with e1 e2
      obtain ⟨l', p, e3⟩ := ih e2
      exact ⟨y :: l', p.cons y, by rw [List.map_cons, ← e3, e1]⟩
  | swap x y _ =>
    intro l e
    cases l with
    | nil => cases e
    | cons b l =>
      cases l with
      | nil => simp at e
      | cons c l =>
        injection e with e1 e2
        injection e2 with e2 e3
        exact ⟨c :: b :: l, .swap .., by rw [List.map_cons, List.map_cons, ← e1, ← e2, ← e3]⟩
  | trans _ _ ih1 ih2 =>
    intro l e
    obtain ⟨l2, p2, e2⟩ := ih2 e
    obtain ⟨l1, p1, e1⟩ := ih1 e2
    exact ⟨l1, p1.trans p2, e1⟩
section
variable {P : Program} {w : World} {K : Type} [DecidableEq K] {knd : HeapKind P w K} {A : Around} {E : Value → Shared → Prop} {s : Shared} {a : Addr} {L : List (Addr × K)} {es : Array (Int × Value)} {ep : Nat} {t : SetTable}
theorem setNewH {h : Heap} (ho : h.get? a = some (setNew w)) : SetH knd h a [] #[] 0 (.fresh 0 0 (!w.params.followText "set-order")) where
  obj := ⟨_, ho, ⟨rfl, rfl, rfl⟩, rfl⟩
  ents := rfl
  tab := ⟨List.Pairwise.nil, rfl, rfl, .inl rfl, fun x hx => (nomatch hx), fun i h j hi => nomatch (show none = some h from hi)⟩
  once := List.nodup_nil
  keys := fun p hp => nomatch hp
  led := by
    show _ ∨ (!w.params.followText "set-order") = true
    cases w.params.followText "set-order"
    · exact .inr rfl
    · exact .inl rfl
  free := by show 0 * 5 < 7 * 3; decide
  few := by show 0 < 64; decide
/-- set(xs) -/
theorem call_setH (I : InSets knd) {l : Addr} {items : Array Value} (ks : List (Addr × K)) {Q : Value → Shared → Prop} (hh : A.handled = none) (hl : s.heap.IsList l items) (hit : items.toList = ks.map fun p => Value.ref p.1)
    (hk : ∀ p ∈ ks, knd.is s.heap p.2 p.1) (few : ks.length < 64) (hu : A.units + 3 < cLine)
    (h : ∀ (h' : Heap) (tk : Nat) L es ep t, SetH knd h' s.heap.objs.size L es ep t → GotH ks L → (∀ b o, s.heap.get? b = some o → h'.get? b = some o) → Q (.ref s.heap.objs.size) { s with heap := h', toks := tk }) : wpAny (model P w) A (call (.type "set") [.ref l]) Q E s := by
  refine call_set_loop (T := fun h' => ∃ L es ep t, SetH knd h' s.heap.objs.size L es ep t ∧ GotH ks L) hl (fun R hR => ?_) fun h' tk ⟨L, es, ep, t, R, g⟩ k => h h' tk L es ep t R g k
  have ll : (s.heap.push (setNew w)).IsList l items := hl.push _
  have ln : l < s.heap.objs.size := by obtain ⟨o, ho, _⟩ := hl; exact Heap.lt_size ho
  have nI : l ≠ (s.heap.push (setNew w)).objs.size := by rw [Heap.size_push]; exact Nat.ne_of_lt (Nat.lt_succ_of_lt ln)
  have none_of : ∀ b, s.heap.objs.size ≤ b → s.heap.get? b = none := fun b hb => by
    cases q : s.heap.get? b with
    | none => rfl
    | some o => exact absurd (Nat.lt_of_lt_of_le (Heap.lt_size q) hb) (Nat.lt_irrefl _)
  have up : ∀ b o, s.heap.get? b = some o → ((s.heap.push (setNew w)).push (iterNew l)).get? b = some o := fun b o e => Heap.get?_push_of_some _ (Heap.get?_push_of_some _ e)
  have hsz : items.size = ks.length := by simpa using congrArg List.length hit
  have hval : ∀ (i : Nat) (v : Value), items[i]? = some v → ∃ p, ks[i]? = some p ∧ v = .ref p.1 := fun i v hv => by
    rw [← Array.getElem?_toList, hit, List.getElem?_map] at hv
    obtain ⟨p, e, rfl⟩ := Option.map_eq_some_iff.mp hv
    exact ⟨p, e, rfl⟩
  refine updateH I ((Walks.list (by simp [hh]) (s.heap.push (setNew w)).objs.size l nI items).toS) s.heap.objs.size ?_ ks hsz few hval s.heap hk (none_of _ (Nat.le_refl _)) (fun b hb => none_of b ?_) hu items.size 0 _ (Nat.zero_add _) ⟨⟨_, Heap.get?_push_size _ rfl, rfl, rfl⟩, ll.push _⟩ up
    ⟨[], #[], 0, _, setNewH (Heap.get?_push_of_some _ (Heap.get?_push_size _ rfl)), ⟨fun p hp => (nomatch hp), fun p hp => (by simp at hp), Nat.zero_le _⟩⟩ fun s' L es ep t hm R g k => ?_
  · rw [Heap.size_push]
    simp only [List.mem_cons, List.not_mem_nil, or_false, not_or]
    exact ⟨Nat.ne_of_lt (Nat.lt_succ_self _), Nat.ne_of_gt ln⟩
  · rw [List.mem_singleton.mp hb, Heap.size_push]
    exact Nat.le_succ _
  · obtain ⟨h', g2, d', tk', os'⟩ := s'
    obtain rfl : g2 = s.gens := hm.gens
    obtain rfl : d' = s.drawn := hm.drawn
    obtain rfl : os' = s.os := hm.os
    exact hR h' tk' ⟨L, es, ep, t, R, g⟩ k
/-- sorted(set) -/
theorem sorted_setH (R : SetH knd s.heap a L es ep t) (hh : A.handled = none) {enc : K → PyData} (er : ∀ p ∈ L, ∃ as, Reads s.heap (.ref p.1) (enc p.2) as) (hal : PySem.W.AllAlike (L.map fun p => enc p.2)) (hk : PySem.W.Sortable (L.map fun p => enc p.2)) (hu : ∀ p ∈ L, A.units + 2 + (enc p.2).depth < cLine) {Q : Value → Shared → Prop}
    (hQ : ∀ s' p (out : Array Value) (c : Nat) (L1 : List (Addr × K)), (∀ b o, s.heap.get? b = some o → s'.heap.get? b = some o) → s'.gens = s.gens → s'.os = s.os → s.heap.objs.size ≤ p → s'.heap.get? p = some (seqObj "list" out c) →
      L1.Perm L → out.toList = (L1.mergeSort (PySem.W.dataLe false fun p => enc p.2)).map (fun q => Value.ref q.1) → Q (.ref p) s') : wpAny (model P w) A (call (.builtin "sorted") [.ref a]) Q E s := by
  obtain ⟨o, ho, hex, hd⟩ := R.obj
  have sz := ents_size R.ents
  have few := R.few
  refine Calls.call_function_entry kind_sorted plain_sorted entry_sorted (args_sorted1 _) ?_
  unfold Builtin.«sorted»
  refine wpAny_bind (m := checkCount "sorted" 1 1 _) (wpAny_pure ?_)
  refine wpAny_bind (collect_set (A := A.in1) hh ⟨o, ho, hex.1, hd⟩ R.fits (by unfold scanBound; omega) R.tab.ris R.led fun s1 vs k1 z1 g1 o1 pm => ?_)
  obtain ⟨L1, p1, rfl⟩ := perm_lift pm (l := L) (f := fun q => Value.ref q.1) (by rw [R.ents, rowsH, List.map_map] <;> rfl)
  have len1 := p1.length_eq
  refine wpAny_bind (wpAny_newList ?_ (by rw [List.length_map, sizeLine_eq]; omega))
  have hoL : (s1.heap.push (seqObj "list" (L1.map fun q => Value.ref q.1).toArray 0)).get? s1.heap.objs.size = some (seqObj "list" (L1.map fun q => Value.ref q.1).toArray 0) := Heap.get?_push_size _ rfl
  generalize hh1 : s1.heap.push (seqObj "list" (L1.map fun q => Value.ref q.1).toArray 0) = h1 at hoL
  have k2 : ∀ b o, s.heap.get? b = some o → (sortingHeap h1 s1.heap.objs.size (L1.map fun q => Value.ref q.1)).get? b = some o := fun b o e => by
    have q := k1 b o e
    refine sortingHeap_old (Nat.ne_of_lt (Heap.lt_size q)) ?_
    rw [← hh1]
    exact Heap.get?_push_of_some _ q
  have mem : ∀ p ∈ L1, p ∈ L := fun p hp => p1.mem_iff.mp hp
  have each : ∀ M : List (Addr × K), PySem.W.EachIs (fun v (p : Addr × K) => v = Value.ref p.1) (M.map fun q => Value.ref q.1) M := by
    intro M
    induction M with
    | nil => exact .nil
    | cons p M ih => exact .cons rfl ih
  have er' : ∀ M : List (Addr × K), (∀ p ∈ M, p ∈ L) → PySem.W.EachIs (fun v (p : Addr × K) => ∃ as, Reads (sortingHeap h1 s1.heap.objs.size (L1.map fun q => Value.ref q.1)) v (enc p.2) as) (M.map fun q => Value.ref q.1) M := by
    intro M
    induction M with
    | nil => intro _; exact .nil
    | cons p M ih =>
      intro hM
      obtain ⟨as, r⟩ := er p (hM p List.mem_cons_self)
      exact .cons ⟨as, PyProof.Rows.Reads.keeps k2 r⟩ (ih fun q hq => hM q (List.mem_cons_of_mem _ hq))
  have pe := p1.map fun p => enc p.2
  have hal1 : PySem.W.AllAlike (L1.map fun p => enc p.2) := fun d hd d' hd' => hal d (pe.mem_iff.mp hd) d' (pe.mem_iff.mp hd')
  have hk1 : PySem.W.Sortable (L1.map fun p => enc p.2) := by
    rcases hk with q | q
    · exact .inl fun d hd => q d (pe.mem_iff.mp hd)
    · exact .inr fun d hd => q d (pe.mem_iff.mp hd)
  try rw [hh1]
  refine wpAny_bind (wpAny_holding (wpAny_call_entry slot_list_sort ⟨_, hoL, rfl⟩ entry_list_sort (PySem.W.list_sort_vals (s := { s1 with heap := h1 }) (κ := PySem.W.dataKind (sortingHeap h1 s1.heap.objs.size (L1.map fun q => Value.ref q.1)) (L1.map fun p => enc p.2)) hoL
    (PySem.W.SortsAt.data (s := { s1 with heap := sortingHeap h1 s1.heap.objs.size (L1.map fun q => Value.ref q.1) }) (PySem.W.each_map (R := fun v d => ∃ as, Reads (sortingHeap h1 s1.heap.objs.size (L1.map fun q => Value.ref q.1)) v d as) (fun p : Addr × K => enc p.2) (er' L1 mem)) hal1 hk1 fun d hd => ?_)
    (by rw [List.length_map, sizeLine_eq]; omega) ⟨.none, rfl, ?_⟩) (args_list_sort _)))
  · obtain ⟨p, hp, rfl⟩ := List.mem_map.mp hd
    exact hu p (mem p hp)
  · have srt := PySem.W.sortVals_data (h' := sortingHeap h1 s1.heap.objs.size (L1.map fun q => Value.ref q.1)) false (each L1) (er' L1 mem) hal1
    have out : ∀ (us : List Value) (M : List (Addr × K)), PySem.W.EachIs (fun v (p : Addr × K) => v = Value.ref p.1) us M → us = M.map fun q => Value.ref q.1 := by
      intro us M e
      induction e with
      | nil => rfl
      | cons h _ ih => rw [h, ih] <;> rfl
    obtain ⟨c, hc⟩ := sortedHeap_at (vs := L1.map fun q => Value.ref q.1) (out := (PySem.W.sortVals (PySem.W.dataKind (sortingHeap h1 s1.heap.objs.size (L1.map fun q => Value.ref q.1)) (L1.map fun p => enc p.2)) false (L1.map fun q => Value.ref q.1) (L1.map fun q => Value.ref q.1)).toArray) hoL
    refine wpAny_pure ⟨_, rfl, hQ _ s1.heap.objs.size _ c L1 (fun b u e => ?_) g1 o1 z1 hc p1 (out _ _ srt)⟩
    have q := k1 b u e
    have lt := Heap.lt_size q
    show (sortedHeap h1 s1.heap.objs.size _ _).get? b = some u
    rw [sortedHeap_old (Nat.ne_of_lt lt) (by rw [← hh1, size_push']; exact Nat.lt_succ_of_lt lt), ← hh1]
    exact Heap.get?_push_of_some _ q

/-! ### tuples of ints and texts as keys -/
theorem items_key {k : List Key} {vs : List Value} (h : ItemsAre (mixKind P w) k vs) : ∀ v ∈ vs, (∃ i t, v = Value.int i t) ∨ ∃ x t, v = Value.str x t := by
  induction h with
  | nil => intro v hv; exact nomatch hv
  | cons h1 _ ih =>
    intro v hv
    rcases List.mem_cons.mp hv with rfl | hv
    · rcases keyIs_shape h1 with ⟨i, t, _, e⟩ | ⟨x, t, _, e⟩
      · exact .inl ⟨i, t, e⟩
      · exact .inr ⟨x, t, e⟩
    · exact ih v hv
theorem mixTup_cls {k : List Key} {b : Addr} {Q : Bool → Shared → Prop} (hk : IsTupleKey (mixKind P w) s.heap k b) (h : Q false s) : wpAny (model P w) A (ofAClassStatement 8 (.ref b)) Q E s := by
  have ty := hk.typeIs
  obtain ⟨o, items, n, ho, _, hd, hi⟩ := hk
  unfold ofAClassStatement
  refine wpAny_bind (wpAny_typeOf ty ?_)
  dsimp only
  simp only [show (("tuple" : String) == "tuple") = true by decide, if_true, Bool.not_true, Bool.false_eq_true, if_false]
  try refine wpAny_bind (wpAny_pure ?_)
  try simp only [Bool.not_true, Bool.false_eq_true, if_false]
  show wpAny _ _ (seqItems? (.ref b) >>= _) _ _ s
  refine wpAny_bind (wpAny_seqItems ho hd ?_)
  dsimp only
  refine wpAny_bind ?_
  show wpAny _ _ (forIn items _ _) _ _ s
  rw [← Array.forIn_toList]
  refine wpAny_forIn_list _ (fun rest r s' => (r.1 = none ∧ s' = s) ∧ ∀ v ∈ rest, (∃ i t, v = Value.int i t) ∨ ∃ x t, v = Value.str x t) _ ?_ ?_ _ _ ⟨⟨rfl, rfl⟩, items_key hi⟩
  · rintro v rest r s' ⟨⟨_, rfl⟩, all⟩
    have e : ofAClassStatement 7 v = pure false := by
      rcases all v List.mem_cons_self with ⟨i, t, rfl⟩ | ⟨x, t, rfl⟩ <;> rfl
    rw [e]
    refine wpAny_bind (wpAny_pure ?_)
    simp only [Bool.false_eq_true, if_false]
    exact wpAny_pure ⟨⟨rfl, rfl⟩, fun u hu => all u (List.mem_cons_of_mem _ hu)⟩
  · rintro ⟨r1, r2⟩ s' ⟨⟨hr, rfl⟩, _⟩
    cases hr
    exact wpAny_pure h
theorem mixTup_val {k : List Key} {b : Addr} {Q : Bool → Shared → Prop} (hk : IsTupleKey (mixKind P w) s.heap k b) (h : ∀ v, Q v s) : wpAny (model P w) A (hashByValue 8 (.ref b)) Q E s := by
  have ty := hk.typeIs
  obtain ⟨o, items, n, ho, _, hd, hi⟩ := hk
  unfold hashByValue
  refine wpAny_bind (wpAny_specialOf ty F.slot_tuple_hash.lookup ?_)
  show wpAny _ _ (seqItems? (.ref b) >>= _) _ _ s
  refine wpAny_bind (wpAny_seqItems ho hd ?_)
  refine wpAny_bind ?_
  show wpAny _ _ (forIn items _ _) _ _ s
  rw [← Array.forIn_toList]
  refine wpAny_forIn_list _ (fun rest r s' => (r.1 = none ∧ s' = s) ∧ ∀ v ∈ rest, (∃ i t, v = Value.int i t) ∨ ∃ x t, v = Value.str x t) _ ?_ ?_ _ _ ⟨⟨rfl, rfl⟩, items_key hi⟩
  · rintro v rest r s' ⟨⟨_, rfl⟩, all⟩
    rcases all v List.mem_cons_self with ⟨i, t, rfl⟩ | ⟨x, t, rfl⟩
    · rw [show hashByValue 7 (Value.int i t) = pure true from rfl]
      refine wpAny_bind (wpAny_pure ?_)
      simp only [Bool.not_true, Bool.false_eq_true, if_false]
      exact wpAny_pure ⟨⟨rfl, rfl⟩, fun u hu => all u (List.mem_cons_of_mem _ hu)⟩
    · rw [show hashByValue 7 (Value.str x t) = pure false from rfl]
      refine wpAny_bind (wpAny_pure ?_)
      simp only [Bool.not_false, if_true]
      exact wpAny_pure (wpAny_pure (h false))
  · rintro ⟨r1, r2⟩ s' ⟨⟨hr, rfl⟩, _⟩
    cases hr
    exact wpAny_pure (h true)
theorem mixTup_in : InSets (tupleKind (mixKind P w)) where
  room := id
  cls := mixTup_cls
  val := mixTup_val
  stays := tupleKind_stays
end
end PL
/-! sorted(set(xs)), xs a list of tuples of ints and texts -/
namespace PL
open PySem PySem.Spec PyProof.Rows L2
def atomD : Key → D
  | .inl i => .int i
  | .inr x => .str x
def atomV : Key → V
  | .inl i => .int i
  | .inr x => .str x
def tupD (k : List Key) : D := .tup (k.map atomD)
theorem tupD_ok (k : List Key) : (tupD k).okd 60 = true := by
  show D.okds 59 (k.map atomD) = true
  induction k with
  | nil => rfl
  | cons x k ih =>
    show ((atomD x).okd 59 && D.okds 59 (k.map atomD)) = true
    rw [ih]
    cases x <;> rfl
section
variable {c : Ctx} {X : Cx} {S : AS} {Γ Γ' : Gam} {M M' : Cells} {σ σ' : L2.St} {H H' : Hp} {a b e : Expr} {es : List Expr} {pos pos' p : Pos} {Q : D → Cells → Prop} {R : Bool → Cells → Prop} {x : Str} {E : PEnds}
theorem items_keys {P : Program} {w : World} : ∀ {k : List Key} {us : List Value}, Vals (k.map atomV) us → ItemsAre (mixKind P w) k us
  | [], _, .nil => .nil
  | .inl i :: k, _, .cons r t => by
    obtain ⟨tk, rfl⟩ := r
    exact .cons (mixKind_int P w i tk) (items_keys t)
  | .inr i :: k, _, .cons r t => by
    obtain ⟨tk, rfl⟩ := r
    exact .cons (mixKind_str P w i tk) (items_keys t)
def leP (p q : Addr × List Key) : Bool := PySem.W.dataLe false (fun k : List Key => (tupD k).py) p.2 q.2
def tSortSetK (K : PySem.W.Frag) (ta : TE) : TE := fun σ H Q => ta σ H fun x H1 => ∃ (l : Addr) (ps : List (Addr × List Key)), x = V.ref l ∧ SqL K H1 l (ps.map fun p => V.ref p.1) ∧ (∀ p ∈ ps, SqT K H1 p.1 (p.2.map atomV) ∧ Dp K H1 (.ref p.1) (tupD p.2).py) ∧ ps.length < 64 ∧
  PySem.W.AllAlike (ps.map fun p => (tupD p.2).py) ∧ PySem.W.Sortable (ps.map fun p => (tupD p.2).py) ∧
  ∀ (L : List (Addr × List Key)) (p : Addr), (L.map (·.2)).Nodup → (∀ q ∈ L, q ∈ ps) → (∀ q ∈ ps, q.2 ∈ L.map (·.2)) → H1 p = none → Q (.ref p) (upd H1 p (.lst ((L.mergeSort leP).map fun q => V.ref q.1)))
theorem pe_sortSetK {ta : TE} {p p2 q pos : Pos} (hc : X.calm = true) (hu : X.A.units + 64 < cLine) (hg : Gl X "sorted") (hm : X.mg "sorted" = none) (hg2 : Gl X "set") (hm2 : X.mg "set" = none) (ha : PE X a ta)
    (na : starEach [a] X.env = (false, eval a X.env) :: starEach [] X.env := by rfl) : PE X (.Call (.Name "sorted" p) [.Call (.Name "set" p2) [a] [] q] [] pos) (tSortSetK X.K ta) := by
  refine ⟨fun pins s σ H Q I h => ?_⟩
  refine Call_ (ld_blt I hg hm PyProof.Rows.boot_sorted ?_)
  refine PyProof.Rows.callWith_builtin1 (PyProof.Rows.args_cons ?_ rfl) rfl rfl
  refine Call_ (ld_blt I hg2 hm2 PyProof.Rows.boot_set ?_)
  refine PyProof.Rows.callWith_type1 (PyProof.Rows.args_cons (thn (ha.run pins s σ H _ I h) fun v s1 ⟨x, H1, I1, r1, q1⟩ => PyProof.Rows.args_nil ?_) na) na rfl
  obtain ⟨l, ps, rfl, hq, hk, few, hal, hs, q1⟩ := q1
  cases r1
  obtain ⟨its, r, pl, hz⟩ := I1.list hq
  have isk : ∀ p ∈ ps, IsTupleKey (mixKind X.prog X.w) s1.heap p.2 p.1 := fun p hp => by
    obtain ⟨us, rv, ⟨o, ho, hc, n, hd⟩, _⟩ := I1.tuple (hk p hp).1
    exact ⟨o, us.toArray, n, ho, hc, hd, by simpa using items_keys rv⟩
  refine call_setH mixTup_in ps (I1.ok.hd hc) pl.isList (by
    have key : ∀ (ps : List (Addr × List Key)) (us : List Value), Vals (ps.map fun p => V.ref p.1) us → us = ps.map fun p => Value.ref p.1 := by
      intro ps
      induction ps with
      | nil => intro us r; cases r; rfl
      | cons p ps ih =>
        intro us r
        rw [List.map_cons] at r
        cases r with
        | cons r1 r2 => rw [ih _ r2, List.map_cons, show _ = Value.ref p.1 from r1]
    simpa using key ps its r) isk few (by omega) fun h' tk L es ep t R g kp => ?_
  refine PyProof.Rows.args_nil ?_
  have I2 : Inv X pins σ H1 { s1 with heap := h', toks := tk } := I1.kept fun b o e => kp b o e
  have rds : ∀ p ∈ L, ∃ as, Reads h' (.ref p.1) (tupD p.2).py as := fun p hp => Dp.reads I2 _ _ _ (hk p (g.sub p hp)).2 rfl
  have sub : ∀ d, d ∈ L.map (fun p => (tupD p.2).py) → d ∈ ps.map fun p => (tupD p.2).py := fun d hd => by
    obtain ⟨p, hp, rfl⟩ := List.mem_map.mp hd
    exact List.mem_map.mpr ⟨p, g.sub p hp, rfl⟩
  refine sorted_setH (s := { s1 with heap := h', toks := tk }) (enc := fun k => (tupD k).py) R (I2.ok.hd hc) rds (fun d hd d' hd' => hal d (sub d hd) d' (sub d' hd')) (by
    rcases hs with z | z
    · exact .inl fun d hd => z d (sub d hd)
    · exact .inr fun d hd => z d (sub d hd)) (fun p hp => by
      have := (D.plain_ok 60 _ (tupD_ok p.2)).2
      show X.A.units + 2 + (tupD p.2).py.depth < cLine
      omega) fun s' p out cc L1 kk gg o hp hg' pm ho => ?_
  have ho' : out.toList = (L1.mergeSort leP).map fun q => Value.ref q.1 := ho
  have len : ((L1.mergeSort leP).map fun q => V.ref q.1).length ≤ sizeLine := by
    rw [List.length_map, List.length_mergeSort, pm.length_eq, sizeLine_eq]
    have := R.few
    omega
  have hn : H1 p = none := I2.hok.fresh hp
  have J : Inv X pins σ (upd H1 p (.lst ((L1.mergeSort leP).map fun q => V.ref q.1))) { ({ s1 with heap := h', toks := tk } : Shared) with heap := s'.heap, gens := s'.gens, drawn := s'.drawn, toks := s'.toks } :=
    I2.call (ch := []) (Un.laid kk hp hn) (I2.hok.laid kk hp ⟨len, out.toList, cc, by
      rw [ho']
      have key : ∀ M : List (Addr × List Key), Vals (M.map fun p => V.ref p.1) (M.map fun p => Value.ref p.1) := by
        intro M
        induction M with
        | nil => exact .nil
        | cons p M ih => exact .cons rfl ih
      exact key _, hg'⟩) (by rw [gg]; exact I2.bare) (fun _ z => nomatch z)
  have e : s' = { ({ s1 with heap := h', toks := tk } : Shared) with heap := s'.heap, gens := s'.gens, drawn := s'.drawn, toks := s'.toks } := by
    cases s'
    cases s1
    cases o
    rfl
  rw [e]
  refine ⟨.ref p, _, J, rfl, q1 L1 p ((pm.map (·.2)).nodup_iff.mpr R.once) (fun q hq => g.sub q (pm.mem_iff.mp hq)) (fun q hq => ?_) hn⟩
  exact (pm.map (·.2)).mem_iff.mpr (g.all q hq)
def leK (a b : List Key) : Bool := leD (tupD a) (tupD b)
theorem atomV_reps {K : PySem.W.Frag} {A : AS} {H : Hp} : ∀ {k : List Key} {vs : List V}, Reps K A H vs (k.map atomD) → vs = k.map atomV
  | [], _, .nil => rfl
  | .inl i :: k, _, .cons r t => by
    cases r
    rw [atomV_reps t] <;> rfl
  | .inr i :: k, _, .cons r t => by
    cases r
    rw [atomV_reps t] <;> rfl
/-- the addresses of a list of such tuples -/
theorem reps_tups {K : PySem.W.Frag} {A : AS} {H : Hp} : ∀ {ks : List (List Key)} {vs : List V}, Reps K A H vs (ks.map tupD) → ∃ ps : List (Addr × List Key), vs = ps.map (fun p => V.ref p.1) ∧ ps.map (·.2) = ks ∧ ∀ p ∈ ps, Rep K A H (.ref p.1) (tupD p.2)
  | [], _, .nil => ⟨[], rfl, rfl, fun p hp => nomatch hp⟩
  | k :: ks, _, .cons r t => by
    obtain ⟨ps, e1, e2, h⟩ := reps_tups t
    have r0 := r
    unfold tupD at r
    cases r with
    | @tup a vs ds h1 h2 =>
      refine ⟨(a, k) :: ps, by rw [e1] <;> rfl, by rw [List.map_cons, e2], fun p hp => ?_⟩
      rcases List.mem_cons.mp hp with rfl | hp
      · exact r0
      · exact h p hp
theorem we_sortSetK {p p2 q : Pos} (hg : GlC c.sc "sorted") (hm : c.mg "sorted" = none) (hg2 : GlC c.sc "set") (hm2 : c.mg "set" = none)
    (h : WE c a Γ M fun d M1 => ∃ ks : List (List Key), View M1 d (.lst (ks.map tupD)) ∧ ks.length < 64 ∧ PySem.W.AllAlike (ks.map fun k => (tupD k).py) ∧ PySem.W.Sortable (ks.map fun k => (tupD k).py) ∧
      ∀ ks' : List (List Key), ks'.Nodup → (∀ k, k ∈ ks' ↔ k ∈ ks) → Q (.lst ((ks'.mergeSort leK).map tupD)) M1)
    (na : ∀ env, starEach [a] env = (false, eval a env) :: starEach [] env := by intro _; rfl) (hcm : c.calm = true := by first | rfl | assumption) : WE c (.Call (.Name "sorted" p) [.Call (.Name "set" p2) [a] [] q] [] pos) Γ M Q := .mk fun X S σ H at_ Q' hq =>
  PE.to (pe_sortSetK (at_.is.calm hcm) at_.is.hu (at_.is.gl hg) (at_.is.mgN hm) (at_.is.gl hg2) (at_.is.mgN hm2) wE.pe (na _)) (h.run X S σ H at_ _ fun v1 H1 d1 M1 c1 s1 r1 ⟨ks, w, few, hal, hs, qq⟩ => by
    have fin : ∀ (A : AS) (l : Addr) (vs : List V), SqL c.K H1 l vs → Reps c.K A H1 vs (ks.map tupD) → (∀ {v d}, Rep c.K A H1 v d → Rep c.K (av S M1) H1 v d) → ∃ (l' : Addr) (ps : List (Addr × List Key)), V.ref l = V.ref l' ∧ SqL X.K H1 l' (ps.map fun p => V.ref p.1) ∧ (∀ p ∈ ps, SqT X.K H1 p.1 (p.2.map atomV) ∧ Dp X.K H1 (.ref p.1) (tupD p.2).py) ∧ ps.length < 64 ∧
        PySem.W.AllAlike (ps.map fun p => (tupD p.2).py) ∧ PySem.W.Sortable (ps.map fun p => (tupD p.2).py) ∧
        ∀ (L : List (Addr × List Key)) (p : Addr), (L.map (·.2)).Nodup → (∀ q ∈ L, q ∈ ps) → (∀ q ∈ ps, q.2 ∈ L.map (·.2)) → H1 p = none → Q' (.ref p) (upd H1 p (.lst ((L.mergeSort leP).map fun q => V.ref q.1))) := fun A l vs hsq rs up => by
      obtain ⟨ps, rfl, e2, hp⟩ := reps_tups rs
      have em : (ps.map fun p => (tupD p.2).py) = ks.map fun k => (tupD k).py := by rw [← e2, List.map_map] <;> rfl
      refine ⟨l, ps, rfl, by rw [at_.is.K]; exact hsq, fun p hpm => ?_, by rw [← List.length_map (f := (·.2)), e2]; exact few, by rw [em]; exact hal, by rw [em]; exact hs, fun L p nd h1 h2 np => ?_⟩
      · have r := hp p hpm
        refine ⟨?_, by rw [at_.is.K]; exact r.dp 60 _ (tupD_ok _)⟩
        rw [at_.is.K]
        unfold tupD at r
        cases r with
        | tup h1 h2 =>
          rw [← atomV_reps h2]
          exact h1.sq
      · have hmem : ∀ k, k ∈ L.map (·.2) ↔ k ∈ ks := fun k => by
          refine ⟨fun hk => ?_, fun hk => ?_⟩
          · obtain ⟨q, hq', rfl⟩ := List.mem_map.mp hk
            rw [← e2]
            exact List.mem_map.mpr ⟨q, h1 q hq', rfl⟩
          · rw [← e2] at hk
            obtain ⟨q, hq', rfl⟩ := List.mem_map.mp hk
            exact h2 q hq'
        have em2 : (L.mergeSort leP).map (·.2) = (L.map (·.2)).mergeSort leK := List.map_mergeSort (f := fun q : Addr × List Key => q.2) (s := leK) fun _ _ _ _ => rfl
        have rr : Reps c.K (av S M1) H1 ((L.mergeSort leP).map fun q => V.ref q.1) (((L.map (·.2)).mergeSort leK).map tupD) := by
          rw [← em2, List.map_map]
          have key : ∀ N : List (Addr × List Key), (∀ q ∈ N, q ∈ ps) → Reps c.K (av S M1) H1 (N.map fun q => V.ref q.1) (N.map (tupD ∘ fun q => q.2)) := by
            intro N
            induction N with
            | nil => intro _; exact .nil
            | cons q N ih =>
              intro hN
              exact .cons (up (hp q (hN q List.mem_cons_self))) (ih fun r hr => hN r (List.mem_cons_of_mem _ hr))
          exact key _ fun q hq' => h1 q ((List.mergeSort_perm _ _).mem_iff.mp hq')
        obtain ⟨k1, k2, k3⟩ := fresh_lst (K := c.K) c1 np rr
        exact hq _ _ _ _ k1 (s1.trans k2) k3 (qq _ nd hmem)
    cases w with
    | self =>
      cases r1 with
      | @lst l vs ds h1 h2 => exact fin _ l vs h1.sq h2 id
    | cell hc =>
      cases r1
      obtain ⟨oo, ho, vs, eo, rs⟩ := c1.at_ hc
      subst eo
      exact fin _ _ vs (.of ho) rs id)
end
end PL
/-! a == b by an own __eq__, isinstance with an own class -/
namespace PL
open PySem PySem.Spec PyProof.Rows L2
section
variable {c : Ctx} {X : Cx} {S : AS} {Γ Γ' : Gam} {M M' : Cells} {σ σ' : L2.St} {H H' : Hp} {a b e o value : Expr} {es : List Expr} {pos pos' p apos : Pos} {Q : D → Cells → Prop} {R : Bool → Cells → Prop} {x m : Str} {E : PEnds} {C : Addr}
/-- isinstance(a, N), a an instance of the class N -/
theorem we_isiO {n : Str} {p2 p3 : Pos} (hg : GlC c.sc "isinstance") (hm : c.mg "isinstance" = none) (hg2 : GlC c.sc n) (hm2 : c.mg n = some (.ref C)) (I : C8.InsC c.K C)
    (h : WE c a Γ M fun d M1 => ∃ fs, ObjAt M1 d C fs ∧ Q (.bl true) M1)
    (na : ∀ env, starEach [a, .Name n p3] env = (false, eval a env) :: starEach [.Name n p3] env := by intro _; rfl) (hd : (n == ("__debug__" : Str)) = false := by decide) : WE c (.Call (.Name "isinstance" p2) [a, .Name n p3] [] pos) Γ M Q := .mk fun X S σ H at_ Q' hq =>
  PE.to (pe_callB (C8.call_isC (by rw [at_.is.K]; exact I)) (at_.is.gl hg) (at_.is.mgN hm) PyProof.Rows.boot_isinstance (pa_cons wE.pe (pa_cons (pe_glob (v := .ref C) (at_.is.gl hg2) (at_.is.mgN hm2) rfl hd) pa_nil) (na _)) (by decide) (by decide) (na _) (by rfl)) (h.run X S σ H at_ _ fun v1 H1 d1 M1 c1 s1 r1 ⟨fs, ho, q⟩ => by
    obtain ⟨a, dx, vs, e1, h1, rf⟩ := ho.get c1 r1
    subst e1
    exact ⟨a, dx, vs, rfl, h1, hq _ _ _ _ c1 s1 .bl q⟩)
/-- isinstance(a, N), a of a built-in type that is no N -/
theorem we_isiN {n : Str} {p2 p3 : Pos} (hg : GlC c.sc "isinstance") (hm : c.mg "isinstance" = none) (hg2 : GlC c.sc n) (hm2 : c.mg n = some (.ref C))
    (h : WE c a Γ M fun d M1 => ∃ d' t k, View M1 d d' ∧ d'.tyN = some t ∧ PySem.W.kitOne c.K (.type t) (.ref C) = some k ∧ Q (.bl k) M1)
    (na : ∀ env, starEach [a, .Name n p3] env = (false, eval a env) :: starEach [.Name n p3] env := by intro _; rfl) (hd : (n == ("__debug__" : Str)) = false := by decide) : WE c (.Call (.Name "isinstance" p2) [a, .Name n p3] [] pos) Γ M Q := .mk fun X S σ H at_ Q' hq =>
  PE.to (pe_callB call_isi (at_.is.gl hg) (at_.is.mgN hm) PyProof.Rows.boot_isinstance (pa_cons wE.pe (pa_cons (pe_glob (v := .ref C) (at_.is.gl hg2) (at_.is.mgN hm2) rfl hd) pa_nil) (na _)) (by decide) (by decide) (na _) (by rfl)) (h.run X S σ H at_ _ fun v1 H1 d1 M1 c1 s1 r1 ⟨d', t, k, w, ht, hk, q⟩ => by
    refine ⟨v1, .ref C, .type t, .ref C, k, rfl, .own C, ?_, by rw [at_.is.K]; exact hk, hq _ _ _ _ c1 s1 .bl q⟩
    rw [at_.is.K]
    exact (w.rep c1 r1).ty ht)
/-- what the call of an own == leaves -/
def rEqO (K : PySem.W.Frag) (C : Addr) (pf : PF) : R2 := fun x y H Q => (∃ a dx fs, x = .ref a ∧ H a = some (.ins C dx fs)) ∧ (∃ b dy gs, y = .ref b ∧ H b = some (.ins C dy gs)) ∧ liftF K pf [x, y] H (fun v H' => (∃ k, v = .bl k) ∧ Q v H') fun _ _ _ => False
theorem op_eqO {f : Addr} {fd : FuncData} {ps : List Str} {k : Nat} {pf : PF} {W : WX} (F : FnOk X.prog X.w X.K X.mg X.base (L2.CX X.prog X.w) k f fd ps (liftF X.K pf)) (hm : Meth X.K C "__eq__" f) (hb : Binds X.K fd ps []) (hr : Room k X.A) (tk : Takes X W) :
    OpR X (compareOp .Eq) (rEqO X.K C pf) := by
  intro pins s σ H x y v u Q I rx ry ⟨⟨a, dx, fs, ex, ha⟩, ⟨b, dy, gs, ey, hb'⟩, q⟩
  subst ex ey
  obtain rfl : v = .ref a := rx
  obtain rfl : u = .ref b := ry
  obtain ⟨mA, J, _⟩ := ins_get I.hok ha
  obtain ⟨mB, J', _⟩ := ins_get I.hok hb'
  obtain ⟨od, J, _⟩ := J.look
  obtain ⟨od', J', _⟩ := J'.look
  obtain ⟨m, hF⟩ := I.fr
  show wpAny (model X.prog X.w) X.A (richCompare .Eq (.ref a) (.ref b)) (EP X pins σ Q) X.xe s
  refine PySem.W.cmp_K (op := .Eq) (tb := .ref C) hr.units0 hF I.ok.mod.kin J J'.type (by simp [PySem.W.notFirst]) hm.at_ hm.fn ?_
  have tk' : Takes X (fun _ _ _ _ => False) := tk.imp fun _ _ _ _ z => z.elim
  refine wpAny_mono (run_fnS (E := L2.WE fun _ _ _ _ => False) (us := [.ref a, .ref b]) (vs := [.ref a, .ref b]) F hr hb (passAt tk' σ) I (.cons rfl (.cons rfl .nil)) q) (fun v s' h => ?_) fun _ _ z => z
  obtain ⟨v', H', I', r', ⟨k, e⟩, q'⟩ := h
  subst e
  obtain rfl : v = Value.bool k := r'
  exact ⟨.bl k, H', I', rfl, q'⟩
/-- a == b, both of a class with an own __eq__ -/
theorem we_eqO {f : Addr} {fd : FuncData} {ps : List Str} {k : Nat} {pf : PF} (F : MDef c.P c.w c.K c.mg c.base C "__eq__" f fd ps k pf) (hk : k ≤ c.k)
    (h : WE c a Γ M fun x M1 => WE c b Γ M1 fun y M2 => ∃ fs gs, ObjAt M2 x C fs ∧ ObjAt M2 y C gs ∧ ∃ kept lent, M2 = kept ++ lent ∧ ∀ (R : D → Cells → Prop) (Z : Addr → D → Cells → Prop), (∀ k M3, Q (.bl k) (kept ++ M3) → R (.bl k) M3) → pf [x, y] lent R Z)
    (hm : behindInMarks .Eq b = false := by rfl) (hcm : c.calm = true := by first | rfl | assumption) : WE c (.Compare a [.Eq] [b] pos) Γ M Q := .mk fun X S σ H at_ Q' hq => by
  obtain ⟨W, tk, _⟩ := at_.land
  have eP := at_.is.prog; have ew := at_.is.w; have eK := at_.is.K; have emg := at_.is.mg; have eb := at_.is.base
  have G : FnOk X.prog X.w X.K X.mg X.base (L2.CX X.prog X.w) k f fd ps (liftF X.K pf) := by rw [eP, ew, eK, emg, eb]; exact F.ok
  refine PE.to (pe_cmpR (op_eqO G (by rw [eK]; exact F.me) (by rw [eK]; exact F.binds) ((at_.is.room hcm).mono hk) tk) wE.pe wE.pe hm) (two h at_ fun v1 v2 H2 d1 d2 M2 c2 s2 r1 r2 ⟨fs, gs, o1, o2, kept, lent, eM, q⟩ => ?_)
  obtain ⟨a1, dx, vs, e1, h1, _⟩ := o1.get c2 r1
  obtain ⟨a2, dy, ws, e2, h2, _⟩ := o2.get c2 r2
  refine ⟨⟨a1, dx, vs, e1, h1⟩, ⟨a2, dy, ws, e2, h2⟩, ?_⟩
  subst eM
  have toL : To (av S (kept ++ lent)) (av (av S kept) lent) H2 H2 := To.of_iff fun b z => av_app.mp z
  rw [eK]
  refine ⟨av S kept, lent, [d1, d2], c2.lend, .cons (r1.to toL) (.cons (r2.to toL) .nil), ?_⟩
  exact q _ _ fun k M3 hd v H' c3 st r => by
    cases r
    obtain ⟨c4, st4⟩ := c2.back c3 st
    exact ⟨⟨k, rfl⟩, hq _ _ _ _ c4 (s2.trans st4) .bl hd⟩
/-- a <= b < c of ints, as a test -/
theorem wt_leLt {d : Expr} (h : WE c a Γ M fun x M1 => WE c b Γ M1 fun y M2 => ∃ i j, x = .int i ∧ y = .int j ∧ (¬ i ≤ j → R false M2) ∧ (i ≤ j → WE c d Γ M2 fun z M3 => ∃ k, z = .int k ∧ R (decide (j < k)) M3))
    (hm : lastMarks [.LtE, .Lt] [b, d] = false := by with_unfolding_all rfl) : WT c (.Compare a [.LtE, .Lt] [b, d] pos) Γ M R := .mk fun X S σ H at_ Q' hq =>
  PT.to (pt_chain op_le op_lt wE.pe wE.pe wE.pe hm) (two h at_ fun v1 v2 H2 d1 d2 M2 c2 s2 r1 r2 ⟨i, j, e1, e2, q1, q2⟩ => by
    subst e1 e2; cases r1; cases r2
    refine ⟨i, j, rfl, rfl, decide (i ≤ j), rfl, ?_⟩
    by_cases hij : i ≤ j
    · rw [decide_eq_true hij]
      refine (q2 hij).run X S σ H2 (at_.step c2 s2) _ fun v3 H3 d3 M3 c3 s3 r3 ⟨k, e3, q⟩ => ?_
      subst e3; cases r3
      exact ⟨j, k, rfl, rfl, _, rfl, hq _ _ _ c3 (s2.trans s3) q⟩
    · rw [decide_eq_false hij]
      exact ⟨false, rfl, hq _ _ _ c2 s2 (q1 hij)⟩)
end
end PL
/-! a != b by an own __eq__; a == b, b of a built-in type -/
namespace PL
open PySem PySem.Spec PyProof.Rows L2
section
variable {P : Program} {w : World} {A : Around} {E : Value → Shared → Prop} {s : Shared} {K : PySem.W.Frag} {x y C f : Addr} {ox : Obj} {od : Option Obj}
/-- the class takes object's own != -/
structure NeC (K : PySem.W.Frag) (C : Addr) : Prop where
  ne : PySem.W.findIn K (.ref C) "__ne__" = some (some (.builtin "object.__ne__"))
  mro : PySem.W.mroIn K C (.type "object") = some true
theorem ifBound_objNe {M : Model} {args : List Value} {Q : Option Value → Shared → Prop} (X : K.In s.heap) (J : PySem.W.InstAt s.heap x ox C od) (n : NeC K C) (h : wpAny M A (call (.builtin "object.__ne__") (.ref x :: args)) (fun v => Q (some v)) E s) :
    wpAny M A (callSpecialIfBound? (.ref x) "__ne__" args) Q E s := by
  simp only [callSpecialIfBound?, bindSpecialIfBound?]
  refine wpAny_holding (wpAny_bind (wpAny_bind (wpAny_bind (J.type.here ((PySem.W.looks_findIn X n.ne).here ?_)))))
  refine wpAny_bind (wpAny_askSetting (wpAny_ite ?_))
  have fin : wpAny M A (call (.builtin "object.__ne__") ([.ref x] ++ args) >>= fun v => pure (some v)) Q E s := wpAny_bind (wpAny_mono h (fun v s' h' => wpAny_pure h') fun _ _ h' => h')
  split
  · exact wpAny_bind (wpAny_of_eq (F.cmp_object.ne.bind _) (wpAny_pure (by exact fin)))
  · exact wpAny_tryCatch (wpAny_bind (wpAny_of_eq (F.cmp_object.ne.bind _) (wpAny_pure (by exact fin))))
theorem objNe_K (X : K.In s.heap) (J : PySem.W.InstAt s.heap x ox C od) (me : Meth K C "__eq__" f) (hu : A.units < cLine) {b : Value} {Q : Fin → Shared → Prop}
    (h : wpAny (model P w) A (call (.ref f) [.ref x, b]) (fun v s' => ∃ k, v = .bool k ∧ Q (.done (.ret (.bool (!k)))) s') E s) : wpAny (model P w) A (Builtin.«object.__ne__» ⟨[.ref x, b], []⟩) Q E s := by
  unfold Builtin.«object.__ne__»
  repeat (first
    | with_reducible refine wpAny_cRoomFor hu ?_
    | (refine wpAny_bind (m := callSpecialIfBound? (.ref x) (Str.ofString "__eq__") [b])
        (PySem.W.ifBound_K X J me.at_ me.fn (wpAny_mono h (fun r s' hr => by
          obtain ⟨k, rfl, hq⟩ := hr
          repeat (first | exact hq | exact wpAny_pure hq | exact wpAny_truthy_bool hq | (refine wpAny_bind (m := truthy (.bool _)) (wpAny_truthy_bool ?_)) | wp_step)) fun _ _ e => e)))
    | wp_step)
theorem richNe_K (X : K.In s.heap) (J : PySem.W.InstAt s.heap x ox C od) (J' : PySem.W.InstAt s.heap y oy C od') (me : Meth K C "__eq__" f) (n : NeC K C) (hu : A.units + 1 < cLine) {Q : Value → Shared → Prop}
    (h : wpAny (model P w) A.in1 (call (.ref f) [.ref x, .ref y]) (fun v s' => ∃ k, v = .bool k ∧ Q (.bool (!k)) s') E s) : wpAny (model P w) A (richCompare .NotEq (.ref x) (.ref y)) Q E s := by
  have one : wpAny (model P w) A (tryCompare (.ref x) "__ne__" (.ref y)) (fun r s' => ∃ k, r = some (.bool k) ∧ Q (.bool k) s') E s := by
    unfold tryCompare
    refine wpAny_bind (ifBound_objNe X J n ?_)
    refine wpAny_call (codeAny_call_builtin F.cmp_object.ne.plain F.cmpEntry_ne (PySem.W.check_slot F.cmpKind_ne F.cmpSplit_ne (J.type.andThen (PySem.W.looks_mroIn X n.mro)) (F.cmpArgs_ne _ _) (objNe_K (A := A.in1) X J me hu (wpAny_mono h (fun v s' hv => ?_) fun _ _ e => e))))
    obtain ⟨k, rfl, hq⟩ := hv
    first
      | exact ⟨k, rfl, wpAny_pure ⟨!k, rfl, hq⟩⟩
      | exact ⟨k, rfl, wpAny_pure (wpAny_pure ⟨!k, rfl, hq⟩)⟩
      | exact ⟨k, rfl, _, rfl, hq⟩
  unfold richCompare
  simp only [oneThing_ref]
  refine wpAny_holding (wpAny_bind (wpAny_cRoomFor (Nat.lt_of_succ_lt hu) ?_))
  rw [cmpInfo_NotEq]
  dsimp only
  refine wpAny_bind (J.type.here (wpAny_bind (J'.type.here ?_)))
  rw [show (Value.ref C != Value.ref C) = false from by simp]
  simp only [Bool.false_eq_true, if_false]
  refine wpAny_bind (wpAny_pure ?_)
  simp only [Bool.false_eq_true, if_false]
  refine wpAny_bind (wpAny_mono one (fun r s' z => ?_) fun _ _ e => e)
  obtain ⟨k, rfl, hq⟩ := z
  first | exact wpAny_pure hq | exact wpAny_pure (wpAny_pure hq)
end
section
variable {c : Ctx} {X : Cx} {S : AS} {Γ Γ' : Gam} {M M' : Cells} {σ σ' : L2.St} {H H' : Hp} {a b e o value : Expr} {es : List Expr} {pos pos' p apos : Pos} {Q : D → Cells → Prop} {R : Bool → Cells → Prop} {x m : Str} {E : PEnds} {C : Addr}
/-- the call of an own __eq__ that raises nothing, at any depth -/
theorem callO {f : Addr} {fd : FuncData} {ps : List Str} {k : Nat} {pf : PF} {W : WX} {A : Around} {pins : List (Addr × Obj)} {s : Shared} {Q : VK} {us : List Value} {vs : List V}
    (F : FnOk X.prog X.w X.K X.mg X.base (L2.CX X.prog X.w) k f fd ps (liftF X.K pf)) (hb : Binds X.K fd ps []) (sb : Sub X k A) (tk : Takes X W) (I : Inv X pins σ H s) (r : Vals vs us) (q : liftF X.K pf vs H Q fun _ _ _ => False) :
    wpAny (model X.prog X.w) A (call (.ref f) us) (EP X pins σ Q) X.xe s := by
  have tk' : Takes X (fun _ _ _ _ => False) := tk.imp fun _ _ _ _ z => z.elim
  have e0 : Env0 X.prog X.w X.K X.mg X.base A X.stack s H := by
    have e := I.env0
    exact ⟨by rw [sb.fr]; exact e.frames, e.mod, e.bs, e.bsz, e.funs, e.frf, e.hok, e.bare⟩
  have hl := F.len _ _ _ _ q
  refine wpAny_call (codeAny_mono (F.run A X.stack s H ⟨us, []⟩ us vs Q (fun _ _ _ => False) sb.room e0 (by
    have := hb s us I.kIn (by rw [List.append_nil, ← r.length]; exact hl)
    simpa using this) r q) fun r s' hq => ?_)
  cases r with
  | error e => exact passAt tk' σ pins H s e s' I hq
  | ok fl =>
    cases fl with
    | ret w => exact I.after hq
    | next => exact False.elim hq
    | brk => exact False.elim hq
    | cont => exact False.elim hq
theorem op_neO {f : Addr} {fd : FuncData} {ps : List Str} {k : Nat} {pf : PF} {W : WX} (F : FnOk X.prog X.w X.K X.mg X.base (L2.CX X.prog X.w) k f fd ps (liftF X.K pf)) (hm : Meth X.K C "__eq__" f) (n : NeC X.K C) (hb : Binds X.K fd ps []) (hr : Room (k + 1) X.A) (tk : Takes X W) :
    OpR X (compareOp .NotEq) (fun x y H Q => rEqO X.K C pf x y H fun v H' => ∀ k, v = .bl k → Q (.bl (!k)) H') := by
  intro pins s σ H x y v u Q I rx ry ⟨⟨a, dx, fs, ex, ha⟩, ⟨b, dy, gs, ey, hb'⟩, q⟩
  subst ex ey
  obtain rfl : v = .ref a := rx
  obtain rfl : u = .ref b := ry
  obtain ⟨mA, J, _⟩ := ins_get I.hok ha
  obtain ⟨mB, J', _⟩ := ins_get I.hok hb'
  obtain ⟨od, J, _⟩ := J.look
  obtain ⟨od', J', _⟩ := J'.look
  show wpAny (model X.prog X.w) X.A (richCompare .NotEq (.ref a) (.ref b)) (EP X pins σ Q) X.xe s
  have sb : Sub X (k + 1) X.A := ⟨hr, rfl⟩
  refine richNe_K I.kIn J J' hm n (by have := hr.units; omega) (wpAny_mono (callO (us := [.ref a, .ref b]) (vs := [.ref a, .ref b]) F hb sb.in1 tk I (.cons rfl (.cons rfl .nil)) q) (fun v s' h => ?_) fun _ _ z => z)
  obtain ⟨v', H', I', r', ⟨k, e⟩, q'⟩ := h
  subst e
  exact ⟨k, r', .bl (!k), H', I', rfl, q' k rfl⟩
/-- a != b, both of a class with an own __eq__ and none != -/
theorem we_neO {f : Addr} {fd : FuncData} {ps : List Str} {k : Nat} {pf : PF} (F : MDef c.P c.w c.K c.mg c.base C "__eq__" f fd ps k pf) (n : NeC c.K C) (hk : k + 1 ≤ c.k)
    (h : WE c a Γ M fun x M1 => WE c b Γ M1 fun y M2 => ∃ fs gs, ObjAt M2 x C fs ∧ ObjAt M2 y C gs ∧ ∃ kept lent, M2 = kept ++ lent ∧ ∀ (R : D → Cells → Prop) (Z : Addr → D → Cells → Prop), (∀ k M3, Q (.bl (!k)) (kept ++ M3) → R (.bl k) M3) → pf [x, y] lent R Z)
    (hm : behindInMarks .NotEq b = false := by rfl) (hcm : c.calm = true := by first | rfl | assumption) : WE c (.Compare a [.NotEq] [b] pos) Γ M Q := .mk fun X S σ H at_ Q' hq => by
  obtain ⟨W, tk, _⟩ := at_.land
  have eP := at_.is.prog; have ew := at_.is.w; have eK := at_.is.K; have emg := at_.is.mg; have eb := at_.is.base
  have G : FnOk X.prog X.w X.K X.mg X.base (L2.CX X.prog X.w) k f fd ps (liftF X.K pf) := by rw [eP, ew, eK, emg, eb]; exact F.ok
  refine PE.to (pe_cmpR (op_neO G (by rw [eK]; exact F.me) (by rw [eK]; exact n) (by rw [eK]; exact F.binds) ((at_.is.room hcm).mono hk) tk) wE.pe wE.pe hm) (two h at_ fun v1 v2 H2 d1 d2 M2 c2 s2 r1 r2 ⟨fs, gs, o1, o2, kept, lent, eM, q⟩ => ?_)
  obtain ⟨a1, dx, vs, e1, h1, _⟩ := o1.get c2 r1
  obtain ⟨a2, dy, ws, e2, h2, _⟩ := o2.get c2 r2
  refine ⟨⟨a1, dx, vs, e1, h1⟩, ⟨a2, dy, ws, e2, h2⟩, ?_⟩
  subst eM
  have toL : To (av S (kept ++ lent)) (av (av S kept) lent) H2 H2 := To.of_iff fun b z => av_app.mp z
  rw [eK]
  refine ⟨av S kept, lent, [d1, d2], c2.lend, .cons (r1.to toL) (.cons (r2.to toL) .nil), ?_⟩
  exact q _ _ fun k M3 hd v H' c3 st r => by
    cases r
    obtain ⟨c4, st4⟩ := c2.back c3 st
    refine ⟨⟨k, rfl⟩, fun k' e => ?_⟩
    cases e
    exact hq _ _ _ _ c4 (s2.trans st4) .bl hd
/-- a built-in type is no own class's -/
theorem sub_kit {K : PySem.W.Frag} {C : Addr} {t : String} {l : List Value} (e : fastBuiltinMro t = some l) (h : ∀ v ∈ l, ∃ n, v = .type n) : PySem.W.subIn K (.type t) (.ref C) = some false := by
  show (fastBuiltinMro t).map (·.contains (.ref C)) = some false
  rw [e]
  have : l.contains (.ref C) = false := by
    rw [List.contains_eq_any_beq, List.any_eq_false]
    intro v hv
    obtain ⟨n, rfl⟩ := h v hv
    simp
  rw [Option.map_some, this]
end
end PL
/-! a == b, b of a built-in type; None in a list of instances with an own __eq__ -/
namespace PL
open PySem PySem.Spec PyProof.Rows L2
section
open PySem.SeqAt AutoSeq1 MeetsSeq MeetsSeq2 MeetsSeq3 SeqRoads2 GQ
variable {prog : Program} {w : World} {A : Around} {R : Result → Shared → Prop}
/-- list.__contains__ where no item is equal; I: what stands ahead of the i-th question -/
theorem none_loop (l : Addr) (x : Value) (N : Nat) (I : Nat → Shared → Prop)
    (hl : ∀ i s, I i s → ∃ (items : Array Value) (n : Nat) (dd : Option Addr) (sl : Array (Option Value)), s.heap.get? l = some { cls := .type "list", dict := dd, data := .seq items n, slots := sl } ∧ items.size = N ∧ ∀ h : i < items.size, wpAny (model prog w) A.in1 (eqBool items[i] x) (fun r s' => r = false ∧ I (i + 1) s') (fun e s' => R (.error e) s') s)
    (fin : ∀ s, I N s → R (.ok (.ret (.bool false))) s) : ∀ (k i : Nat), i + k = N → ∀ s, I i s → wpAny (model prog w) A.in1 (Builtin.«list.__contains__.loop» ⟨[.ref l, x, rawInt i], []⟩) (FinOf prog w A R) (fun e s' => R (.error e) s') s := by
  intro k
  induction k with
  | zero =>
    intro i hi s h
    obtain ⟨items, n, dd, sl, ho, sz, _⟩ := hl i s h
    obtain rfl : i = N := hi
    have e : items[((i : Nat) : Int).toNat]? = none := by simp; omega
    have q := fin s h
    obtain ⟨hp, g, d, tk, os⟩ := s
    wp_walk using wpAny_loadPart' ho
    rw [e]
    wp_walk
    exact q
  | succ k ih =>
    intro i hi s h
    obtain ⟨items, n, dd, sl, ho, sz, turn⟩ := hl i s h
    have lt : i < items.size := by omega
    have e : items[((i : Nat) : Int).toNat]? = some items[i] := by simp [lt]
    have t := turn lt
    obtain ⟨hp, g, d, tk, os⟩ := s
    wp_walk using wpAny_loadPart' ho
    rw [e]
    refine wpAny_bind (wpAny_mono t (fun r s2 h2 => ?_) fun _ _ z => z)
    obtain ⟨rfl, h2⟩ := h2
    have hrec := ih (i + 1) (by omega) s2 h2
    have hc : ((i : Int) + 1) = ((i + 1 : Nat) : Int) := by omega
    obtain ⟨hp2, g2, d2, tk2, os2⟩ := s2
    wp_walk
    rw [hc]
    exact ⟨plainId_quiet plain_contains_loop _, codeAny_builtin entry_contains_loop (by
      rw [Around.under_plainId plain_contains_loop _]
      exact hrec)⟩
end
section
variable {c : Ctx} {X : Cx} {S : AS} {Γ Γ' : Gam} {M M' : Cells} {σ σ' : L2.St} {H H' : Hp} {a b e o value : Expr} {es : List Expr} {pos pos' p apos : Pos} {Q : D → Cells → Prop} {R : Bool → Cells → Prop} {x m : Str} {E : PEnds} {C : Addr}
/-- a value of a built-in type, and what looks at its type -/
def KitV (K : PySem.W.Frag) (H : Hp) (v : V) (t : String) : Prop := (∃ i, v = .int i ∧ t = "int") ∨ (v = .non ∧ t = "NoneType") ∨ ∃ l xs, v = .ref l ∧ SqL K H l xs ∧ t = "list"
theorem KitV.looks {pins : List (Addr × Obj)} {s : Shared} {v : V} {u : Value} {t : String} (h : KitV X.K H v t) (I : Inv X pins σ H s) (r : RelV v u) : PySem.W.Looks (model X.prog X.w) s.heap (typeOf u) (.type t) := by
  rcases h with ⟨i, rfl, rfl⟩ | ⟨rfl, rfl⟩ | ⟨l, xs, rfl, hs, rfl⟩
  · obtain ⟨tk, rfl⟩ := r
    exact PySem.W.Looks.of_pure rfl
  · obtain rfl : u = .none := r
    exact PySem.W.Looks.of_pure rfl
  · obtain rfl : u = .ref l := r
    obtain ⟨its, _, ⟨o, n, ho, hc, _⟩, _⟩ := I.list hs
    exact fun A Q E s' k q => wpAny_typeOf_ref (k _ _ ho) (by rw [hc]; exact q)
theorem KitV.sub {K : PySem.W.Frag} {H : Hp} {v : V} {t : String} {C : Addr} (h : KitV K H v t) : PySem.W.subIn K (.type t) (.ref C) = some false := by
  rcases h with ⟨i, _, rfl⟩ | ⟨_, rfl⟩ | ⟨l, xs, _, _, rfl⟩
  · exact sub_kit (l := [.type "int", .type "object"]) (by decide +kernel) (by simp)
  · exact sub_kit (l := [.type "NoneType", .type "object"]) (by decide +kernel) (by simp)
  · exact sub_kit (l := [.type "list", .type "object"]) (by decide +kernel) (by simp)
/-- the walk of an own == with a value of a built-in type -/
theorem richKit {f : Addr} {fd : FuncData} {ps : List Str} {k : Nat} {pf : PF} {W : WX} {A : Around} {pins : List (Addr × Obj)} {s : Shared} {Q : Bool → Hp → Prop} {a dx : Addr} {fs : List (Str × V)} {v : V} {u : Value} {t : String}
    (F : FnOk X.prog X.w X.K X.mg X.base (L2.CX X.prog X.w) k f fd ps (liftF X.K pf)) (hm : Meth X.K C "__eq__" f) (hb : Binds X.K fd ps []) (sb : Sub X k A) (tk : Takes X W) (I : Inv X pins σ H s) (ha : H a = some (.ins C dx fs)) (r : RelV v u) (kv : KitV X.K H v t)
    (q : liftF X.K pf [.ref a, v] H (fun v H' => ∃ k, v = .bl k ∧ Q k H') fun _ _ _ => False) : wpAny (model X.prog X.w) A (richCompare .Eq (.ref a) u) (fun w s' => ∃ k, w = .bool k ∧ ∃ H', Inv X pins σ H' s' ∧ Q k H') X.xe s := by
  obtain ⟨mA, J, _⟩ := ins_get I.hok ha
  obtain ⟨od, J, _⟩ := J.look
  obtain ⟨m, hF⟩ := I.fr
  refine PySem.W.cmp_K (op := .Eq) (tb := .type t) sb.room.units0 hF I.ok.mod.kin J (kv.looks I r) (by simp [PySem.W.notFirst, kv.sub]) hm.at_ hm.fn ?_
  refine wpAny_mono (callO (us := [.ref a, u]) (vs := [.ref a, v]) F hb sb tk I (.cons rfl (.cons r .nil)) q) (fun w' s' h => ?_) fun _ _ z => z
  obtain ⟨v', H', I', r', k, e, q'⟩ := h
  subst e
  obtain rfl : w' = Value.bool k := r'
  exact ⟨k, rfl, H', I', q'⟩
theorem op_eqKit {f : Addr} {fd : FuncData} {ps : List Str} {k : Nat} {pf : PF} {W : WX} (F : FnOk X.prog X.w X.K X.mg X.base (L2.CX X.prog X.w) k f fd ps (liftF X.K pf)) (hm : Meth X.K C "__eq__" f) (hb : Binds X.K fd ps []) (hr : Room k X.A) (tk : Takes X W) :
    OpR X (compareOp .Eq) (fun x y H Q => (∃ a dx fs, x = .ref a ∧ H a = some (.ins C dx fs)) ∧ (∃ t, KitV X.K H y t) ∧ liftF X.K pf [x, y] H (fun v H' => ∃ k, v = .bl k ∧ Q (.bl k) H') fun _ _ _ => False) := by
  intro pins s σ H x y v u Q I rx ry ⟨⟨a, dx, fs, ex, ha⟩, ⟨t, kv⟩, q⟩
  subst ex
  obtain rfl : v = .ref a := rx
  show wpAny (model X.prog X.w) X.A (richCompare .Eq (.ref a) u) (EP X pins σ Q) X.xe s
  refine wpAny_mono (richKit (Q := fun k H' => Q (.bl k) H') F hm hb ⟨hr, rfl⟩ tk I ha ry kv q) (fun w s' h => ?_) fun _ _ z => z
  obtain ⟨k, rfl, H', I', q'⟩ := h
  exact ⟨.bl k, H', I', rfl, q'⟩
/-- plain values of a built-in type -/
def kitD : D → Option String
  | .int _ => some "int"
  | .non => some "NoneType"
  | .lst _ => some "list"
  | _ => none
theorem kitV_of {K : PySem.W.Frag} {A : AS} {H : Hp} {v : V} {d : D} {t : String} (r : Rep K A H v d) (h : kitD d = some t) : KitV K H v t := by
  cases d with
  | int i => cases r; cases h; exact .inl ⟨i, rfl, rfl⟩
  | non => cases r; cases h; exact .inr (.inl ⟨rfl, rfl⟩)
  | lst ds =>
    cases h
    cases r with
    | lst h1 h2 => exact .inr (.inr ⟨_, _, rfl, h1.sq, rfl⟩)
  | _ => cases h
/-- a == b, a of a class with an own __eq__, b an int, a list or None -/
theorem we_eqKit {f : Addr} {fd : FuncData} {ps : List Str} {k : Nat} {pf : PF} (F : MDef c.P c.w c.K c.mg c.base C "__eq__" f fd ps k pf) (hk : k ≤ c.k)
    (h : WE c a Γ M fun x M1 => WE c b Γ M1 fun y M2 => ∃ fs t, ObjAt M2 x C fs ∧ kitD y = some t ∧ ∃ kept lent, M2 = kept ++ lent ∧ ∀ (R : D → Cells → Prop) (Z : Addr → D → Cells → Prop), (∀ k M3, Q (.bl k) (kept ++ M3) → R (.bl k) M3) → pf [x, y] lent R Z)
    (hm : behindInMarks .Eq b = false := by rfl) (hcm : c.calm = true := by first | rfl | assumption) : WE c (.Compare a [.Eq] [b] pos) Γ M Q := .mk fun X S σ H at_ Q' hq => by
  obtain ⟨W, tk, _⟩ := at_.land
  have eP := at_.is.prog; have ew := at_.is.w; have eK := at_.is.K; have emg := at_.is.mg; have eb := at_.is.base
  have G : FnOk X.prog X.w X.K X.mg X.base (L2.CX X.prog X.w) k f fd ps (liftF X.K pf) := by rw [eP, ew, eK, emg, eb]; exact F.ok
  refine PE.to (pe_cmpR (op_eqKit G (by rw [eK]; exact F.me) (by rw [eK]; exact F.binds) ((at_.is.room hcm).mono hk) tk) wE.pe wE.pe hm) (two h at_ fun v1 v2 H2 d1 d2 M2 c2 s2 r1 r2 ⟨fs, t, o1, ht, kept, lent, eM, q⟩ => ?_)
  obtain ⟨a1, dx, vs, e1, h1, _⟩ := o1.get c2 r1
  refine ⟨⟨a1, dx, vs, e1, h1⟩, ⟨t, by rw [eK]; exact kitV_of r2 ht⟩, ?_⟩
  subst eM
  have toL : To (av S (kept ++ lent)) (av (av S kept) lent) H2 H2 := To.of_iff fun b z => av_app.mp z
  rw [eK]
  refine ⟨av S kept, lent, [d1, d2], c2.lend, .cons (r1.to toL) (.cons (r2.to toL) .nil), ?_⟩
  exact q _ _ fun k M3 hd v H' c3 st r => by
    cases r
    obtain ⟨c4, st4⟩ := c2.back c3 st
    exact ⟨k, rfl, hq _ _ _ _ c4 (s2.trans st4) .bl hd⟩
/-- what None in a list asks -/
def rNoneO (K : PySem.W.Frag) (C : Addr) (pf : PF) (S : AS) (M : Cells) : R2 := fun x y H Q => x = .non ∧ ∃ (l : Addr) (vs : List V) (ds : List D), y = .ref l ∧ RdL K (av S M) H l vs ∧ Core K S M H ∧ Reps K (av S M) H vs ds ∧
  (∀ d ∈ ds, ∃ fs, ObjAt M d C fs ∧ ∀ (R : D → Cells → Prop) (Z : Addr → D → Cells → Prop), R (.bl false) M → pf [d, .non] M R Z) ∧ ∀ H', Core K S M H' → Step M M H H' → Q (.bl false) H'
theorem reps_at {K : PySem.W.Frag} {A : AS} {H : Hp} : ∀ {vs : List V} {ds : List D} {i : Nat} {v : V}, Reps K A H vs ds → vs[i]? = some v → ∃ d ∈ ds, Rep K A H v d
  | _, _, 0, v, .cons r _, e => by
    obtain rfl := Option.some.inj (show some _ = some v from e)
    exact ⟨_, List.mem_cons_self, r⟩
  | _, _, i + 1, v, .cons _ t, e => by
    obtain ⟨d, hd, r⟩ := reps_at t (i := i) e
    exact ⟨d, List.mem_cons_of_mem _ hd, r⟩
  | _, _, 0, _, .nil, e => by cases e
  | _, _, _ + 1, _, .nil, e => by cases e
theorem op_noneO {f : Addr} {fd : FuncData} {ps : List Str} {k : Nat} {pf : PF} {W : WX} (G : FnOk X.prog X.w X.K X.mg X.base (L2.CX X.prog X.w) k f fd ps (liftF X.K pf)) (hm : Meth X.K C "__eq__" f) (hb : Binds X.K fd ps []) (hr : Room (k + 1) X.A) (tk : Takes X W) :
    OpR X (compareOp .In) (rNoneO X.K C pf S M) := by
  intro pins s σ H x y v u Q I rx ry ⟨ex, l, vs, ds, ey, hs, c0, rs, ask, q⟩
  subst ex ey
  obtain rfl : v = .none := rx
  obtain rfl : u = .ref l := ry
  obtain ⟨its, rv, ⟨o, n, ho, hc, hd⟩, _⟩ := I.list hs.sq
  have ty : s.TypeIs (.ref l) "list" := ⟨o, ho, hc⟩
  let In : Nat → Shared → Prop := fun _ s' => ∃ H1, Inv X pins σ H1 s' ∧ Core X.K S M H1 ∧ Step M M H H1
  show wpAny (model X.prog X.w) X.A (do return Value.bool (← contains (.ref l) .none)) (EP X pins σ Q) X.xe s
  refine wpAny_bind (wpAny_contains_slot ty F.slot_list_contains (wpAny_mono (GQ.call_here (Q := fun v s' => v = .bool false ∧ In 0 s') F.slot_list_contains ty F.entry_list_contains (F.args_list_contains_2 _ _) ?_) (fun v s' hv => ?_) fun _ _ e => e))
  · have len : vs.length = its.length := rv.length
    have loop := none_loop (prog := X.prog) (w := X.w) (A := X.A) (R := wants (fun v s' => v = .bool false ∧ In 0 s') X.xe) l .none its.length In (fun i s1 h => ?_) (fun s1 h => ⟨rfl, h⟩) its.length 0 (Nat.zero_add _) s ⟨H, I, c0, .refl⟩
    · obtain ⟨⟨cls, dd, data, sl⟩, ho, hc, n, hd⟩ : s.heap.IsList l its.toArray := ⟨_, ho, hc, n, hd.2⟩
      simp only at hc hd
      subst hc hd
      obtain ⟨hp, g, d, tk2, os⟩ := s
      wp_walk using AutoSeq1.wpAny_loadPart' ho
      exact ⟨plainId_quiet MeetsSeq.plain_contains_loop _, codeAny_builtin MeetsSeq.entry_contains_loop (by
        rw [Around.under_plainId MeetsSeq.plain_contains_loop _]
        exact loop)⟩
    · obtain ⟨H1, I1, c1, s1'⟩ := h
      have rs1 : Reps X.K (av S M) H1 vs ds := rs.to s1'.to
      obtain ⟨its1, rv1, pl1, _⟩ := I1.list (xs := vs) (s1'.to.rdl hs).sq
      obtain ⟨⟨cls, dd, data, sl⟩, ho1, hc1, n1, hd1⟩ := pl1.isList
      simp only at hc1 hd1
      subst hc1 hd1
      refine ⟨its1.toArray, n1, dd, sl, ho1, by rw [List.size_toArray, ← rv1.length, len], fun hi => ?_⟩
      have iv : i < vs.length := by rw [rv1.length]; simpa using hi
      obtain ⟨u, hu, ru⟩ := rv1.get (List.getElem?_eq_getElem iv)
      have e1 : its1.toArray[i] = u := by
        have hi' : i < its1.length := by simpa using hi
        rw [List.getElem?_eq_getElem hi'] at hu
        simpa using Option.some.inj hu
      rw [e1]
      obtain ⟨d, hd, rd⟩ := reps_at rs1 (List.getElem?_eq_getElem iv)
      obtain ⟨fs, od, pr⟩ := ask d hd
      obtain ⟨a1, dx, ws, ev, h1, _⟩ := od.get (c := ⟨X.prog, X.w, X.K, X.mg, X.base, X.N, X.env.scope, 0, fun _ _ _ _ => True, fun _ => false, false, true, none⟩) c1 rd
      rw [ev] at ru rd
      obtain rfl : u = .ref a1 := ru
      unfold eqBool
      refine wpAny_holding (wpAny_ite_split (fun hab => absurd (eq_of_beq hab) nofun) fun _ => ?_)
      have sb : Sub X (k + 1) X.A := ⟨hr, rfl⟩
      refine wpAny_bind (wpAny_mono (richKit (Q := fun b H2 => b = false ∧ Core X.K S M H2 ∧ Step M M H1 H2) G hm hb sb.in1 tk I1 h1 (show RelV .non .none from rfl) (.inr (.inl ⟨rfl, rfl⟩)) ⟨S, M, [d, .non], c1, .cons rd (.cons .non .nil), pr _ _ fun v H' c2 st2 r2 => ?_⟩) (fun w s' h => ?_) fun _ _ z => z)
      · cases r2
        exact ⟨false, rfl, rfl, c2, st2⟩
      · obtain ⟨b, rfl, H2, I2, rfl, c2, st2⟩ := h
        exact wpAny_truthy_bool ⟨rfl, H2, I2, c2, s1'.trans st2⟩
  · obtain ⟨rfl, H1, I1, c1, s1⟩ := hv
    exact wpAny_truthy_bool (wpAny_pure ⟨.bl false, H1, I1, rfl, q H1 c1 s1⟩)
/-- None in [a, b, ..], all of a class with an own __eq__ -/
theorem we_noneIn {j : Nat} {p2 : Pos} {f : Addr} {fd : FuncData} {ps : List Str} {k : Nat} {pf : PF} (F : MDef c.P c.w c.K c.mg c.base C "__eq__" f fd ps k pf) (hk : k + 1 ≤ c.k)
    (h : WE c b Γ M fun y M2 => ∃ ds, y = .lst ds ∧ (∀ d ∈ ds, ∃ fs, ObjAt M2 d C fs ∧ ∀ (R : D → Cells → Prop) (Z : Addr → D → Cells → Prop), R (.bl false) M2 → pf [d, .non] M2 R Z) ∧ Q (.bl false) M2)
    (hm : behindInMarks .In b = false := by rfl) (hcm : c.calm = true := by first | rfl | assumption) : WE c (.Compare (.Constant .none j p2) [.In] [b] pos) Γ M Q := .mk fun X S σ H at_ Q' hq => by
  obtain ⟨W, tk, _⟩ := at_.land
  have eP := at_.is.prog; have ew := at_.is.w; have eK := at_.is.K; have emg := at_.is.mg; have eb := at_.is.base
  have G : FnOk X.prog X.w X.K X.mg X.base (L2.CX X.prog X.w) k f fd ps (liftF X.K pf) := by rw [eP, ew, eK, emg, eb]; exact F.ok
  intro pins s I
  have hx := h.run X S σ H at_ (fun v H2 => ∃ M2, Core c.K S M2 H2 ∧ Step M M2 H H2 ∧ ∃ ds, Rep c.K (av S M2) H2 v (.lst ds) ∧ (∀ d ∈ ds, ∃ fs, ObjAt M2 d C fs ∧ ∀ (R : D → Cells → Prop) (Z : Addr → D → Cells → Prop), R (.bl false) M2 → pf [d, .non] M2 R Z) ∧ Q (.bl false) M2) fun v H2 d M2 c2 s2 r2 ⟨ds, e, ask, q⟩ => ⟨M2, c2, s2, ds, e ▸ r2, ask, q⟩
  refine wpAny_Compare1 (wpAny_of_eq (a := Value.none) rfl (thn (hx pins s I) fun u s2 ⟨v, H2, I2, r2, M2, c2, st2, ds, rd, ask, q⟩ => ?_)) hm
  cases rd with
  | @lst l vs ds h1 h2 =>
    refine op_noneO (S := S) (M := M2) G (by rw [eK]; exact F.me) (by rw [eK]; exact F.binds) ((at_.is.room hcm).mono hk) tk pins s2 σ H2 .non (.ref l) _ u Q' I2 rfl r2 ⟨rfl, l, vs, ds, rfl, by rw [eK]; exact h1, by rw [eK]; exact c2, by rw [eK]; exact h2, ask, fun H' c3 s3 => ?_⟩
    rw [eK] at c3
    exact hq _ _ _ _ c3 (st2.trans s3) .bl q
end
section
variable {c : Ctx} {Γ : Gam} {M : Cells} {tgs : List Expr} {ds : List D} {pos : Pos} {G : Gam → Cells → Prop}
/-- (a, b, ..) = a list of that length -/
theorem wg_lst {k : Nat} (hl : tgs.length = ds.length) (h : WGs c tgs ds Γ M G) (hn : ∀ env, (assignEach tgs env).length = tgs.length := by intro _; rfl) (hst : ∀ env, (assignEach tgs env).findIdx? (·.1) = none := by intro _; rfl) (hcm : c.calm = true := by first | rfl | assumption) : WG c (.Tuple tgs k pos) (.lst ds) Γ M G := .mk fun X S σ H at_ v r Q' hq => by
  cases r with
  | lst h1 h2 =>
    refine PG.to (pg_unl (at_.is.calm hcm) wGs.pgs (hn _) (hst _)) ⟨_, _, rfl, ?_, by rw [h2.length, hl], h.run X S σ H at_ _ h2 _ hq⟩
    rw [at_.is.K]
    exact h1.sq
/-- a built-in type is no own class -/
theorem kitOne_no {K : PySem.W.Frag} {C : Addr} {t : String} (h1 : PySem.W.isClsIn K C = true) (h2 : PySem.W.typeIn K (.ref C) = some (.type "type")) (h3 : PySem.W.subIn K (.type t) (.ref C) = some false) : PySem.W.kitOne K (.type t) (.ref C) = some false := by
  have e : (PySem.W.clsIn K C).isSome = true := h1
  unfold PySem.W.kitOne
  rw [if_neg (by simp)]
  unfold PySem.W.kitCls
  simp only [e, h2, h3, Bool.true_and, beq_self_eq_true, if_true]
theorem kits_no {K : PySem.W.Frag} {C : Addr} (h1 : PySem.W.isClsIn K C = true) (h2 : PySem.W.typeIn K (.ref C) = some (.type "type")) : ∀ t, t = "int" ∨ t = "NoneType" ∨ t = "list" → PySem.W.kitOne K (.type t) (.ref C) = some false := by
  rintro t (rfl | rfl | rfl)
  · exact kitOne_no h1 h2 (sub_kit (l := [.type "int", .type "object"]) (by decide +kernel) (by simp))
  · exact kitOne_no h1 h2 (sub_kit (l := [.type "NoneType", .type "object"]) (by decide +kernel) (by simp))
  · exact kitOne_no h1 h2 (sub_kit (l := [.type "list", .type "object"]) (by decide +kernel) (by simp))
end
end PL
/-! the own == and None in .. as tests -/
namespace PL
open PySem PySem.Spec PyProof.Rows L2
section
variable {c : Ctx} {X : Cx} {S : AS} {Γ Γ' : Gam} {M M' : Cells} {σ σ' : L2.St} {H H' : Hp} {a b e o value : Expr} {es : List Expr} {pos pos' p apos : Pos} {Q : D → Cells → Prop} {R : Bool → Cells → Prop} {x m : Str} {E : PEnds} {C : Addr}
theorem wt_eqO {f : Addr} {fd : FuncData} {ps : List Str} {k : Nat} {pf : PF} (F : MDef c.P c.w c.K c.mg c.base C "__eq__" f fd ps k pf) (hk : k ≤ c.k)
    (h : WE c a Γ M fun x M1 => WE c b Γ M1 fun y M2 => ∃ fs gs, ObjAt M2 x C fs ∧ ObjAt M2 y C gs ∧ ∃ kept lent, M2 = kept ++ lent ∧ ∀ (R' : D → Cells → Prop) (Z : Addr → D → Cells → Prop), (∀ k M3, R k (kept ++ M3) → R' (.bl k) M3) → pf [x, y] lent R' Z)
    (hm : behindInMarks .Eq b = false := by rfl) (hcm : c.calm = true := by first | rfl | assumption) : WT c (.Compare a [.Eq] [b] pos) Γ M R := .mk fun X S σ H at_ Q' hq => by
  obtain ⟨W, tk, _⟩ := at_.land
  have eP := at_.is.prog; have ew := at_.is.w; have eK := at_.is.K; have emg := at_.is.mg; have eb := at_.is.base
  have G : FnOk X.prog X.w X.K X.mg X.base (L2.CX X.prog X.w) k f fd ps (liftF X.K pf) := by rw [eP, ew, eK, emg, eb]; exact F.ok
  refine PT.to (pt_cmpR (op_eqO G (by rw [eK]; exact F.me) (by rw [eK]; exact F.binds) ((at_.is.room hcm).mono hk) tk) wE.pe wE.pe hm) (two h at_ fun v1 v2 H2 d1 d2 M2 c2 s2 r1 r2 ⟨fs, gs, o1, o2, kept, lent, eM, q⟩ => ?_)
  obtain ⟨a1, dx, vs, e1, h1, _⟩ := o1.get c2 r1
  obtain ⟨a2, dy, ws, e2, h2, _⟩ := o2.get c2 r2
  refine ⟨⟨a1, dx, vs, e1, h1⟩, ⟨a2, dy, ws, e2, h2⟩, ?_⟩
  subst eM
  have toL : To (av S (kept ++ lent)) (av (av S kept) lent) H2 H2 := To.of_iff fun b z => av_app.mp z
  rw [eK]
  refine ⟨av S kept, lent, [d1, d2], c2.lend, .cons (r1.to toL) (.cons (r2.to toL) .nil), ?_⟩
  exact q _ _ fun k M3 hd v H' c3 st r => by
    cases r
    obtain ⟨c4, st4⟩ := c2.back c3 st
    exact ⟨⟨k, rfl⟩, k, rfl, hq _ _ _ c4 (s2.trans st4) hd⟩
theorem wt_eqKit {f : Addr} {fd : FuncData} {ps : List Str} {k : Nat} {pf : PF} (F : MDef c.P c.w c.K c.mg c.base C "__eq__" f fd ps k pf) (hk : k ≤ c.k)
    (h : WE c a Γ M fun x M1 => WE c b Γ M1 fun y M2 => ∃ fs t, ObjAt M2 x C fs ∧ kitD y = some t ∧ ∃ kept lent, M2 = kept ++ lent ∧ ∀ (R' : D → Cells → Prop) (Z : Addr → D → Cells → Prop), (∀ k M3, R k (kept ++ M3) → R' (.bl k) M3) → pf [x, y] lent R' Z)
    (hm : behindInMarks .Eq b = false := by rfl) (hcm : c.calm = true := by first | rfl | assumption) : WT c (.Compare a [.Eq] [b] pos) Γ M R := .mk fun X S σ H at_ Q' hq => by
  obtain ⟨W, tk, _⟩ := at_.land
  have eP := at_.is.prog; have ew := at_.is.w; have eK := at_.is.K; have emg := at_.is.mg; have eb := at_.is.base
  have G : FnOk X.prog X.w X.K X.mg X.base (L2.CX X.prog X.w) k f fd ps (liftF X.K pf) := by rw [eP, ew, eK, emg, eb]; exact F.ok
  refine PT.to (pt_cmpR (op_eqKit G (by rw [eK]; exact F.me) (by rw [eK]; exact F.binds) ((at_.is.room hcm).mono hk) tk) wE.pe wE.pe hm) (two h at_ fun v1 v2 H2 d1 d2 M2 c2 s2 r1 r2 ⟨fs, t, o1, ht, kept, lent, eM, q⟩ => ?_)
  obtain ⟨a1, dx, vs, e1, h1, _⟩ := o1.get c2 r1
  refine ⟨⟨a1, dx, vs, e1, h1⟩, ⟨t, by rw [eK]; exact kitV_of r2 ht⟩, ?_⟩
  subst eM
  have toL : To (av S (kept ++ lent)) (av (av S kept) lent) H2 H2 := To.of_iff fun b z => av_app.mp z
  rw [eK]
  refine ⟨av S kept, lent, [d1, d2], c2.lend, .cons (r1.to toL) (.cons (r2.to toL) .nil), ?_⟩
  exact q _ _ fun k M3 hd v H' c3 st r => by
    cases r
    obtain ⟨c4, st4⟩ := c2.back c3 st
    exact ⟨k, rfl, k, rfl, hq _ _ _ c4 (s2.trans st4) hd⟩
theorem wt_noneIn {j : Nat} {p2 : Pos} {f : Addr} {fd : FuncData} {ps : List Str} {k : Nat} {pf : PF} (F : MDef c.P c.w c.K c.mg c.base C "__eq__" f fd ps k pf) (hk : k + 1 ≤ c.k)
    (h : WE c b Γ M fun y M2 => ∃ ds, y = .lst ds ∧ (∀ d ∈ ds, ∃ fs, ObjAt M2 d C fs ∧ ∀ (R : D → Cells → Prop) (Z : Addr → D → Cells → Prop), R (.bl false) M2 → pf [d, .non] M2 R Z) ∧ R false M2)
    (hm : behindInMarks .In b = false := by rfl) (hcm : c.calm = true := by first | rfl | assumption) : WT c (.Compare (.Constant .none j p2) [.In] [b] pos) Γ M R := .mk fun X S σ H at_ Q' hq => by
  obtain ⟨W, tk, _⟩ := at_.land
  have eP := at_.is.prog; have ew := at_.is.w; have eK := at_.is.K; have emg := at_.is.mg; have eb := at_.is.base
  have G : FnOk X.prog X.w X.K X.mg X.base (L2.CX X.prog X.w) k f fd ps (liftF X.K pf) := by rw [eP, ew, eK, emg, eb]; exact F.ok
  intro pins s I
  have hx := h.run X S σ H at_ (fun v H2 => ∃ M2, Core c.K S M2 H2 ∧ Step M M2 H H2 ∧ ∃ ds, Rep c.K (av S M2) H2 v (.lst ds) ∧ (∀ d ∈ ds, ∃ fs, ObjAt M2 d C fs ∧ ∀ (R : D → Cells → Prop) (Z : Addr → D → Cells → Prop), R (.bl false) M2 → pf [d, .non] M2 R Z) ∧ R false M2) fun v H2 d M2 c2 s2 r2 ⟨ds, e, ask, q⟩ => ⟨M2, c2, s2, ds, e ▸ r2, ask, q⟩
  refine wpAny_isTrue_Compare1 (wpAny_of_eq (a := Value.none) rfl (thn (hx pins s I) fun u s2 ⟨v, H2, I2, r2, M2, c2, st2, ds, rd, ask, q⟩ => ?_)) hm
  cases rd with
  | @lst l vs ds h1 h2 =>
    refine wpAny_mono (op_noneO (S := S) (M := M2) G (by rw [eK]; exact F.me) (by rw [eK]; exact F.binds) ((at_.is.room hcm).mono hk) tk pins s2 σ H2 .non (.ref l) _ u (fun v H' => v = .bl false ∧ Q' false H') I2 rfl r2 ⟨rfl, l, vs, ds, rfl, by rw [eK]; exact h1, by rw [eK]; exact c2, by rw [eK]; exact h2, ask, fun H' c3 s3 => ?_⟩) (fun w s3 hw => ?_) fun _ _ z => z
    · rw [eK] at c3
      exact ⟨rfl, hq _ _ _ c3 (st2.trans s3) q⟩
    · obtain ⟨v', H', I', r', e', q'⟩ := hw
      subst e'
      obtain rfl : w = Value.bool false := r'
      exact wpAny_truthy_bool ⟨H', I', q'⟩
theorem Reps.reverse {K : PySem.W.Frag} {A : AS} {H : Hp} : ∀ {vs : List V} {ds : List D}, Reps K A H vs ds → Reps K A H vs.reverse ds.reverse
  | _, _, .nil => .nil
  | _, _, .cons r t => by
    rw [List.reverse_cons, List.reverse_cons]
    exact (Reps.reverse t).append (.cons r .nil)
/-- xs.reverse() -/
theorem we_reverse {apos : Pos} (h : WE c a Γ M fun x M1 => ∃ (p : Addr) (i : Nat) (ds : List D), x = .ptr p ∧ M1[i]? = some (p, .lst ds) ∧ Q .non (M1.set i (p, .lst ds.reverse)))
    (hbase : ∀ env, attributeBase a "reverse" env (eval a env) = eval a env := by intro _; rfl) (hline : (apos.endLine == pos.line) = true := by rfl) : WE c (.Call (.Attribute a "reverse" apos) [] [] pos) Γ M Q :=
  we_listM0 (f := fun ds z ds' => z = .non ∧ ds' = ds.reverse) PySem.F.slot_list_reverse PySem.F.type_list_reverse (fun X => mt_reverse)
    (fun {c S M H p vs ds z ds' Q'} hp rs hf q => by
      obtain ⟨e1, e2⟩ := hf
      subst e1 e2
      exact ⟨p, vs, rfl, rfl, hp, q _ _ .non rs.reverse⟩)
    (.mk fun X S σ H at_ Q' hq => h.run X S σ H at_ Q' fun v H' d M' c1 s1 r1 ⟨p, i, ds, e1, hi, q⟩ => hq v H' d M' c1 s1 r1 ⟨p, i, ds, .non, _, e1, hi, ⟨rfl, rfl⟩, q⟩) hbase hline
end
end PL
namespace PL
open PySem PySem.Spec PyProof.Rows L2
/-- an error of the class at S is not what «except T» names -/
theorem exm_subB {K : PySem.W.Frag} {S T : Addr} {b : Bool} (h1 : PySem.W.subIn K (.ref T) (.type "BaseException") = some true) (h2 : PySem.W.isClsIn K T = true) (h3 : PySem.W.typeIn K (.ref T) = some (.type "type")) (h4 : PySem.W.subIn K (.ref S) (.ref T) = some b) :
    PySem.W.exmOne K (.ref S) (.ref T) = some b := by
  have e1 : (PySem.W.subIn K (.ref T) (.type "BaseException") == some true) = true := by rw [h1] <;> rfl
  have e2 : ((PySem.W.clsIn K T).isSome && PySem.W.typeIn K (.ref T) == some (.type "type")) = true := by
    have h2' : (PySem.W.clsIn K T).isSome = true := h2
    rw [h2', h3] <;> rfl
  show (if (PySem.W.subIn K (.ref T) (.type "BaseException") == some true) = true then (if ((PySem.W.clsIn K T).isSome && PySem.W.typeIn K (.ref T) == some (.type "type")) = true then PySem.W.subIn K (.ref S) (.ref T) else none) else none) = some b
  rw [if_pos e1, if_pos e2]
  exact h4
theorem exm_two {K : PySem.W.Frag} {S T1 T2 : Value} {a b : Bool} (h1 : PySem.W.exmOne K S T1 = some a) (h2 : PySem.W.exmOne K S T2 = some b) : PySem.W.exmAny K S [T1, T2] = some (a || b) := by
  unfold PySem.W.exmAny PySem.W.exmAny PySem.W.exmAny
  rw [h1, h2]
  simp
/-! a clause over two classes: «except (A, B): y = k» -/
section
variable {X : Cx}
/-- an exception that came down into the frame of X -/
structure Down (X : Cx) (pins : List (Addr × Obj)) (a : Addr) (cls : Value) (d : Option Addr) (σ : L2.St) (H : Hp) (s : Shared) : Prop where
  ex : ∃ (B : Heap) (sI : Shared), Inv X pins σ H sI ∧ (∀ b o, sI.heap.get? b = some o → b ∉ frs X.stack → B.get? b = some o) ∧ sI.heap.UpToSlots s.heap ∧ HandSPX.FlyingZ B (X.env :: X.outer) a (Zc cls d) s.heap ∧ H a = none ∧ s.os = sI.os ∧ AllBare s.gens
theorem flying_push {B h : Heap} {l : List Env} {a : Addr} {Z : Obj → Prop} {o : Obj} (x : HandSPX.FlyingZ B l a Z h) : HandSPX.FlyingZ B l a Z (h.push o) := by
  obtain ⟨k1, k2, k3, oe, vs, T, oT, ts, g1, g2, g3, g4, g5, g6, g7, g8, g9⟩ := x
  have kp : ∀ b u, h.get? b = some u → (h.push o).get? b = some u := fun b u e => Heap.get?_push_of_some _ e
  exact ⟨fun b u e => kp b u (k1 b u e), k2, k3.of_keeps fun b u e _ => ⟨u, kp b u e, rfl⟩, oe, vs, T, oT, ts, kp _ _ g1, g2, g3, g4, g5, g6, kp _ _ g7, g8, g9⟩
theorem upToSlots_push {h1 h : Heap} {o : Obj} (x : h1.UpToSlots h) : h1.UpToSlots (h.push o) := x.trans fun b u e _ => ⟨u.slots, Heap.get?_push_of_some _ e⟩
theorem Down.push {pins : List (Addr × Obj)} {a : Addr} {cls : Value} {d : Option Addr} {σ : L2.St} {H : Hp} {s : Shared} {o : Obj} (x : Down X pins a cls d σ H s) : Down X pins a cls d σ H { s with heap := s.heap.push o } := by
  obtain ⟨B, sI, J, nb, up, fl, na, os, ag⟩ := x
  exact ⟨B, sI, J, nb, upToSlots_push up, flying_push fl, na, os, ag⟩
/-- a try's one clause, the way to it -/
theorem ps_catch {h0 : ExceptHandler} {body : List Stmt} {pos : Pos} {tb : WX → TS} {wish : Ends → WX} (hs : X.stack = X.env :: X.outer) (hf : X.env.frame = some X.env.locals)
    (hb : ∀ (W : WX) (pn : List (Addr × Obj)) (xe : Value → Shared → Prop), Takes (X.tr pn xe) W → PassesOwn (model X.prog X.w) X.A X.env xe → PSs (X.tr pn xe) body (tb W))
    (hh : ∀ (pins : List (Addr × Obj)) (σ : L2.St) (H : Hp) (s : Shared) (a : Addr) (cls : Value) (d : Option Addr) (D : Ends), Down X pins a cls d σ H s → wish D cls d σ H → wpAny (model X.prog X.w) X.A (handleBy (.ref a) X.env [h0]) (SP X pins D) X.xe s) :
    PS X (.Try body [h0] [] [] pos) (fun D σ H => tb (wish D) D σ H) := by
  refine ⟨fun pins s σ H D I h => wpAny_Try_except ?_⟩
  have ok := I.ok
  have fr : X.A.frames = some (X.env :: X.outer) := by rw [ok.frames, hs]
  let xe' : Value → Shared → Prop := fun e s1 => wpAny (model X.prog X.w) X.A (noteFrame e X.env) (fun _ s2 => wpAny (model X.prog X.w) X.A (setFlight e none) (fun _ s3 => wpAny (model X.prog X.w) X.A (handleBy e X.env [h0]) (SP X pins D) X.xe s3) X.xe s2) X.xe s1
  have tk : Takes (X.tr (X.pn ++ pins) xe') (wish D) := by
    rintro u s' ⟨a, B, sI, pins', σ', H', cls, d, rfl, J', nb, up, sky, na, os, ag, hw⟩
    have J : Inv X pins σ' H' sI := J'.ofTry ok
    have sky2 : Sky B (X.env :: X.outer) a (Zc cls d) X.env.locals s'.heap := by rw [← hs]; exact sky
    exact Sky.land Zc.steady fr hf sky2 fun h3 fl up3 => hh pins σ' H' _ a cls d D ⟨B, sI, J, nb, up.trans up3, fl, na, os, ag⟩ hw
  refine wpAny_mono ((hb (wish D) (X.pn ++ pins) xe' tk PassesOwn.looking).run [] s σ H D (I.toTry _) h) (fun f s1 q => ?_) fun e s1 q => q
  cases f with
  | next =>
    obtain ⟨_, _, J, q⟩ := q
    exact wpAny_execs_nil ⟨_, _, J.ofTry ok, q⟩
  | ret u =>
    obtain ⟨_, _, _, J, r, q⟩ := q
    exact ⟨_, _, _, J.ofTry ok, r, q⟩
  | brk =>
    obtain ⟨_, _, J, q⟩ := q
    exact ⟨_, _, J.ofTry ok, q⟩
  | cont =>
    obtain ⟨_, _, J, q⟩ := q
    exact ⟨_, _, J.ofTry ok, q⟩
/-- what a landed exception's state allows -/
theorem Down.inv {pins : List (Addr × Obj)} {a : Addr} {cls : Value} {d : Option Addr} {σ : L2.St} {H : Hp} {s : Shared} (hf : X.env.frame = some X.env.locals) (x : Down X pins a cls d σ H s) :
    ∃ (oe : Obj), s.heap.get? a = some oe ∧ Zc cls d oe ∧ (∃ vs, oe.data = .fields vs) ∧ Inv X pins σ H s ∧ Inv (X.suite a ((a, oe) :: (X.pn ++ pins))) [] σ H s := by
  obtain ⟨B, sI, J, nb, up, fl, na, os, ag⟩ := x
  have J3 : Inv X pins σ H s := J.landed nb fl.1 up os ag
  obtain ⟨oe, vs, e1, e2, e3⟩ := fl.there
  have ff : s.heap.FunFrames B (X.env :: X.outer) := fl.2.2.1
  have nf : a ∉ frs (X.env :: X.outer) := fun hm => by
    obtain ⟨_, o2, z1, z2⟩ := ff.mem hm
    rw [e1] at z1; cases z1
    exact z2 _ e3
  have n1 : a ≠ X.env.locals := fun z => nf (List.mem_filterMap.mpr ⟨X.env, List.mem_cons_self, by rw [hf, z]⟩)
  have n2 : a ∉ X.fs := fun hm => by
    obtain ⟨v, hv, q⟩ := List.mem_filterMap.mp hm
    exact nf (List.mem_filterMap.mpr ⟨v, List.mem_cons_of_mem _ hv, q⟩)
  exact ⟨oe, e1, e2, ⟨vs, e3⟩, J3, J3.suite e1 e3 na n1 n2⟩
/-- no clause takes it -/
theorem Down.on {pins : List (Addr × Obj)} {a : Addr} {cls : Value} {d : Option Addr} {σ : L2.St} {H : Hp} {s : Shared} {D : Ends} {W : WX} (hs : X.stack = X.env :: X.outer) (hf : X.env.frame = some X.env.locals) (tk : Takes X W) (x : Down X pins a cls d σ H s) (w : W cls d σ H) :
    wpAny (model X.prog X.w) X.A (handleBy (.ref a) X.env []) (SP X pins D) X.xe s := by
  obtain ⟨B, sI, J, nb, up, fl, na, os, ag⟩ := x
  have fl' := fl
  obtain ⟨_, _, _, oe, vs, T, _, _, g1, _, g3, g4, _⟩ := fl'
  have go : wpAny (model X.prog X.w) X.A (setFlight (.ref a) X.env.frame) (fun _ s4 => wpAny (model X.prog X.w) X.A (throw (.ref a) : Sem Flow) (SP X pins D) X.xe s4) X.xe s := by
    rw [hf]
    exact HandSPX.setFlight_upZ fl fun h4 z up4 => wpAny_throw (tk _ _ ⟨a, B, sI, pins, σ, H, cls, d, rfl, J, nb, up.trans up4, .inr (.inr (by rw [hs]; exact z)), na, os, ag, w⟩)
  refine wpAny_handleBy_nil ?_
  unfold PySem.passOn
  refine wpAny_bind (wpAny_field g1 g3 g4 ?_)
  rw [if_neg (by simp)]
  first
  | exact wpAny_bind (wpAny_pure (wpAny_bind go))
  | exact wpAny_bind go
/-- what «except (A, B)» wishes -/
def wTwo (K : PySem.W.Frag) (c1 c2 : Value) (ts : Addr → Value → Option Addr → TS) (Wout : WX) (D : Ends) : WX := fun cls d σ H =>
  ∃ b, PySem.W.exmAny K cls [c1, c2] = some b ∧ (b = true → ∀ a, H a = none → ts a cls d D σ H) ∧ (b = false → Wout cls d σ H)
theorem ps_try_two {x1 x2 : Str} {c1 c2 : Value} {body suite : List Stmt} {b0 : Stmt} {p1 p2 tp pos pos' : Pos} {k : Nat} {tb : WX → TS} {ts : Addr → Value → Option Addr → TS} {Wout : WX} (hs : X.stack = X.env :: X.outer) (hf : X.env.frame = some X.env.locals)
    (hc1 : Names X x1 c1) (hc2 : Names X x2 c2) (tk : Takes X Wout)
    (hb : ∀ (W : WX) (pn : List (Addr × Obj)) (xe : Value → Shared → Prop), Takes (X.tr pn xe) W → PassesOwn (model X.prog X.w) X.A X.env xe → PSs (X.tr pn xe) body (tb W))
    (hsu : ∀ (a : Addr) (oe : Obj) (cls : Value) (d : Option Addr) (pn : List (Addr × Obj)), Zc cls d oe → (∃ vs, oe.data = .fields vs) → PSs (X.suite a ((a, oe) :: pn)) (b0 :: suite) (ts a cls d)) :
    PS X (.Try body [.ExceptHandler (some (.Tuple [.Name x1 p1, .Name x2 p2] k tp)) none (b0 :: suite) pos'] [] [] pos) (fun D σ H => tb (wTwo X.K c1 c2 ts Wout D) D σ H) := by
  refine ps_catch hs hf hb fun pins σ H s a cls d D dn ⟨b, hb1, hyes, hno⟩ => ?_
  obtain ⟨oe, e1, z1, e3, J, S⟩ := dn.inv hf
  have ok := J.ok
  have nm : ∀ {x : Str} {c : Value} {p : Pos} {Q : Value → Shared → Prop} {E : Value → Shared → Prop}, Names X x c → Q c s → wpAny (model X.prog X.w) (X.A.mark (some (.ref a))) (eval (.Name x p) X.env) Q E s := fun {x c p Q E} hn q => by
    obtain ⟨hg, hd, hm | ⟨hm, hv, h0⟩⟩ := hn
    · exact ld_glob (X := X.suite a ((a, oe) :: (X.pn ++ pins))) S hg hm q hd
    · exact ld_blt (X := X.suite a ((a, oe) :: (X.pn ++ pins))) S hg hm hv q h0 hd
  refine wpAny_handleBy_cons (codeAny_handlers_test ?_) (by intro q; cases q)
  refine Tuple_ (spliced_more (nm hc1 (spliced_more (nm hc2 (spliced_none ?_)))))
  refine wpAny_newObj_type ?_ (by size_fits)
  have dn2 := dn.push (o := { cls := .type "tuple", dict := none, data := .seq [c1, c2].toArray })
  obtain ⟨oe2, f1, f2, f3, J2, S2⟩ := dn2.inv hf
  have LT : PySem.W.Looks (model X.prog X.w) (s.heap.push { cls := .type "tuple", dict := none, data := .seq [c1, c2].toArray }) (typeOf (.ref a)) cls := fun A Q E s k q => wpAny_typeOf_ref (k _ _ f1) (by rw [f2.1]; exact q)
  refine (PySem.W.exm_tup2 (M := model X.prog X.w) J2.kIn LT (Heap.get?_push_size _ rfl) hb1).here ?_
  cases b with
  | true =>
    refine codeAny_handlers_suite ?_
    obtain ⟨B, sI, Ji, nb, up, fl, na, os, ag⟩ := dn2
    refine HandSPX.lands_againZ fl fun h4 fl4 up4 => ?_
    have dn4 : Down X pins a cls d σ H { s with heap := h4 } := ⟨B, sI, Ji, nb, up.trans up4, fl4, na, os, ag⟩
    obtain ⟨oe4, _, g2, g3, _, S4⟩ := dn4.inv hf
    refine wpAny_mono ((hsu a oe4 cls d (X.pn ++ pins) g2 g3).run [] _ _ H _ S4 (hyes rfl a na)) (fun f s6 q => ?_) fun _ _ z => False.elim z
    cases f with
    | next =>
      obtain ⟨_, _, S6, q⟩ := q
      exact ⟨_, _, S6.unsuite ok, q⟩
    | ret u =>
      obtain ⟨_, _, _, S6, r, q⟩ := q
      exact ⟨_, _, _, S6.unsuite ok, r, q⟩
    | brk =>
      obtain ⟨_, _, S6, q⟩ := q
      exact ⟨_, _, S6.unsuite ok, q⟩
    | cont =>
      obtain ⟨_, _, S6, q⟩ := q
      exact ⟨_, _, S6.unsuite ok, q⟩
  | false => exact dn2.on hs hf tk (hno rfl)
end
section
variable {c : Ctx} {X : Cx} {S : AS} {Γ : Gam} {M : Cells} {E : PEnds} {x : Str} {pos pos' : Pos}
/-- try: .. except (x1, x2): y = k -/
theorem ws_tryT {C1 C2 : Addr} {x1 x2 : Str} {i : Nat} {y : Str} {body : List Stmt} {q1 q2 tp p1 p2 p3 : Pos} {v : Bool} {j k : Nat} (ht : c.top = true) (hg1 : GlC c.sc x1) (hm1 : c.mg x1 = some (.ref C1)) (hg2 : GlC c.sc x2) (hm2 : c.mg x2 = some (.ref C2)) (hy : c.N[i]? = some y) (hl : LocC c y)
    (h : WSs (c.tr (fun C => PySem.W.exmAny c.K (.ref C) [.ref C1, .ref C2]) fun _ _ Γ1 M1 => E.nx (Γ1.set i (some (.bl v))) M1) body E Γ M) (hd1 : (x1 == ("__debug__" : Str)) = false := by decide) (hd2 : (x2 == ("__debug__" : Str)) = false := by decide)
    (hs : ∀ env, swapsWith (.Constant (.bool v) j p2) (some (.Name y p1)) p3.line env = pure false := by intro _; rfl) :
    WS c (.Try body [.ExceptHandler (some (.Tuple [.Name x1 q1, .Name x2 q2] k tp)) none [.Assign [.Name y p1] (.Constant (.bool v) j p2) p3] pos'] [] [] pos) E Γ M := .mk fun X S σ H at_ Ds l => by
  obtain ⟨W, tk, hW⟩ := at_.land
  obtain ⟨hst, hfr⟩ := at_.is.stk ht
  refine PS.to (ps_try_two (c1 := .ref C1) (c2 := .ref C2) (tb := fun W D σ H => ∀ pn xe, Takes (X.tr pn xe) W → PassesOwn (model X.prog X.w) X.A X.env xe → wSs (X.tr pn xe) body D σ H) (ts := fun _ _ _ => tSeq (tAsg (tC (.bl v)) (gName i)) tNext) (Wout := W) hst hfr ⟨at_.is.gl hg1, hd1, .inl (at_.is.mgN hm1)⟩ ⟨at_.is.gl hg2, hd2, .inl (at_.is.mgN hm2)⟩ tk (fun W pn xe t po => ⟨fun pins s σ H D I h => h pn xe t po pins s I⟩) (fun a oe cls d pn hz hf => ?_)) ?_
  · exact pss_cons (L2.ps_set (X := X.suite a ((a, oe) :: pn)) at_.is.nd (at_.is.nm hy) (at_.is.loc hl) pe_bl (hs _) (at_.is.st hl)) pss_nil
  · intro pn xe t po
    refine h.run (X.tr pn xe) S σ H ⟨⟨at_.is.prog, at_.is.w, at_.is.K, at_.is.mg, at_.is.base, at_.is.N, at_.is.sc, at_.is.room, at_.is.calm, at_.is.nd, at_.is.fn, po, at_.is.stk, at_.is.roomH, at_.is.lam⟩, at_.core, at_.slots, ⟨_, t, fun C dd v0 d σ' H' Γ' M' cc sl1 st1 hx r1 z => ?_⟩⟩ Ds ⟨l.nx, l.rt, l.bk, l.ct⟩
    rw [at_.is.K]
    rcases z with ⟨z1, z2⟩ | ⟨z1, z2⟩
    · exact ⟨true, z1, fun _ a na => l.nx _ _ _ _ cc (sl1.set .bl) st1 z2, fun z => (by cases z)⟩
    · exact ⟨false, z1, fun z => (by cases z), fun _ => hW C dd v0 d σ' H' Γ' M' cc sl1 st1 hx r1 z2⟩
end
section
variable {c : PL.Ctx} {X : Cx} {S : AS} {Γ : Gam} {M : Cells} {a b : Expr} {pos : Pos} {R : Bool → Cells → Prop} {C : Addr}
/-- a != b by an own __eq__, as a test -/
theorem wt_neO {f : Addr} {fd : FuncData} {ps : List Str} {k : Nat} {pf : PF} (F : MDef c.P c.w c.K c.mg c.base C "__eq__" f fd ps k pf) (n : NeC c.K C) (hk : k + 1 ≤ c.k)
    (h : WE c a Γ M fun x M1 => WE c b Γ M1 fun y M2 => ∃ fs gs, ObjAt M2 x C fs ∧ ObjAt M2 y C gs ∧ ∃ kept lent, M2 = kept ++ lent ∧ ∀ (R' : D → Cells → Prop) (Z : Addr → D → Cells → Prop), (∀ k M3, R (!k) (kept ++ M3) → R' (.bl k) M3) → pf [x, y] lent R' Z)
    (hm : behindInMarks .NotEq b = false := by rfl) (hcm : c.calm = true := by first | rfl | assumption) : WT c (.Compare a [.NotEq] [b] pos) Γ M R := .mk fun X S σ H at_ Q' hq => by
  obtain ⟨W, tk, _⟩ := at_.land
  have eP := at_.is.prog; have ew := at_.is.w; have eK := at_.is.K; have emg := at_.is.mg; have eb := at_.is.base
  have G : FnOk X.prog X.w X.K X.mg X.base (L2.CX X.prog X.w) k f fd ps (liftF X.K pf) := by rw [eP, ew, eK, emg, eb]; exact F.ok
  refine PT.to (pt_cmpR (op_neO G (by rw [eK]; exact F.me) (by rw [eK]; exact n) (by rw [eK]; exact F.binds) ((at_.is.room hcm).mono hk) tk) wE.pe wE.pe hm) (two h at_ fun v1 v2 H2 d1 d2 M2 c2 s2 r1 r2 ⟨fs, gs, o1, o2, kept, lent, eM, q⟩ => ?_)
  obtain ⟨a1, dx, vs, e1, h1, _⟩ := o1.get c2 r1
  obtain ⟨a2, dy, ws, e2, h2, _⟩ := o2.get c2 r2
  refine ⟨⟨a1, dx, vs, e1, h1⟩, ⟨a2, dy, ws, e2, h2⟩, ?_⟩
  subst eM
  have toL : To (av S (kept ++ lent)) (av (av S kept) lent) H2 H2 := To.of_iff fun b z => av_app.mp z
  rw [eK]
  refine ⟨av S kept, lent, [d1, d2], c2.lend, .cons (r1.to toL) (.cons (r2.to toL) .nil), ?_⟩
  exact q _ _ fun k M3 hd v H' c3 st r => by
    cases r
    obtain ⟨c4, st4⟩ := c2.back c3 st
    refine ⟨⟨k, rfl⟩, fun k' e => ?_⟩
    cases e
    exact ⟨!k, rfl, hq _ _ _ c4 (s2.trans st4) hd⟩
end
end PL
namespace PL
open PySem PySem.Spec PyProof.Rows L2
/-! lambdas: made as a call's first argument, called as a variable -/
/-- some addresses are let go -/
def hide (H : Hp) (Dl : Addr → Bool) : Hp := fun b => if Dl b then none else H b
/-- some addresses are as in H1 -/
def back (H H1 : Hp) (Dl : Addr → Bool) : Hp := fun b => if Dl b then H1 b else H b
theorem hide_t {H : Hp} {Dl : Addr → Bool} {b : Addr} (h : Dl b = true) : hide H Dl b = none := if_pos h
theorem hide_f {H : Hp} {Dl : Addr → Bool} {b : Addr} (h : Dl b = false) : hide H Dl b = H b := if_neg (by rw [h]; exact Bool.false_ne_true)
theorem back_t {H H1 : Hp} {Dl : Addr → Bool} {b : Addr} (h : Dl b = true) : back H H1 Dl b = H1 b := if_pos h
theorem back_f {H H1 : Hp} {Dl : Addr → Bool} {b : Addr} (h : Dl b = false) : back H H1 Dl b = H b := if_neg (by rw [h]; exact Bool.false_ne_true)
theorem atK_ok {P : Program} {w : World} {H : Hp} {h : Heap} {a : Addr} {o : Obj} (e : h.get? a = some o) : ObjOk P w H h a (atK a o) := ⟨e, ⟨o, e⟩, fun h1 h2 x st => st _ x⟩
theorem atK_at {P : Program} {w : World} {H : Hp} {h : Heap} {a : Addr} {o : Obj} (hok : HOk P w H h) (e : H a = some (atK a o)) : h.get? a = some o := (hok a _ e).1
/-- functions and cells alone stand there -/
def Fc (h : Heap) (Dl : Addr → Bool) : Prop := ∀ b o, Dl b = true → h.get? b = some o → (∃ fd, o.data = .func fd) ∨ ∃ v, o.data = .cell v
section
variable {P : Program} {w : World} {K : PySem.W.Frag} {A A' : AS} {H H' : Hp} {h : Heap} {Dl : Addr → Bool}
theorem fc_not (fc : Fc h Dl) {b : Addr} {o : Obj} (e : h.get? b = some o) (n1 : ∀ fd, o.data ≠ .func fd) (n2 : ∀ v, o.data ≠ .cell v) : Dl b = false := by
  cases z : Dl b with
  | false => rfl
  | true =>
    rcases fc b o z e with ⟨fd, q⟩ | ⟨v, q⟩
    · exact absurd q (n1 fd)
    · exact absurd q (n2 v)
theorem fc_own (ok : HOk P w H h) (fc : Fc h Dl) {b x : Addr} {C : Addr} {fs : List (Str × V)} (e : H x = some (.ins C b fs)) : Dl b = false := by
  obtain ⟨_, _, _, _, mA, ⟨o, es, ep, ho, hd, _⟩, _⟩ := ok x _ e
  exact fc_not fc ho (fun _ z => by rw [hd] at z; cases z) fun _ z => by rw [hd] at z; cases z
theorem fc_obj (ok : HOk P w H h) (fc : Fc h Dl) {b : Addr} {u : HO} (e : H b = some u) (hu : (∃ xs, u = .lst xs) ∨ (∃ xs, u = .tup xs) ∨ (∃ kvs, u = .dK kvs) ∨ (∃ C dx fs, u = .ins C dx fs) ∨ (∃ fs, u = .xd fs) ∨ (∃ ps, u = .tbl ps)) : Dl b = false := by
  have ho := ok b u e
  rcases hu with ⟨xs, rfl⟩ | ⟨xs, rfl⟩ | ⟨kvs, rfl⟩ | ⟨C, dx, fs, rfl⟩ | ⟨fs, rfl⟩ | ⟨ps, rfl⟩
  · obtain ⟨_, its, n, _, g⟩ := ho
    exact fc_not fc g (fun _ z => by cases z) fun _ z => by cases z
  · obtain ⟨_, its, _, o, g, _, n, hd⟩ := ho
    exact fc_not fc g (fun _ z => by rw [hd] at z; cases z) fun _ z => by rw [hd] at z; cases z
  · obtain ⟨_, _, vs, _, o, es, ep, g, _, hd, _⟩ := ho
    exact fc_not fc g (fun _ z => by rw [hd] at z; cases z) fun _ z => by rw [hd] at z; cases z
  · obtain ⟨_, _, _, g, _⟩ := ho
    exact fc_not fc g (fun _ z => by cases z) fun _ z => by cases z
  · obtain ⟨mA, ⟨o, es, ep, g, hd, _⟩, _⟩ := ho
    exact fc_not fc g (fun _ z => by rw [hd] at z; cases z) fun _ z => by rw [hd] at z; cases z
  · exact fc_not fc (show h.get? b = some _ from ho) (fun _ z => by cases z) fun _ z => by cases z
theorem fc_frz (ok : HOk P w H h) (fc : Fc h Dl) {b : Addr} {o : Obj} {xs : List V} (e : H b = some (.frz o (.lst xs)) ∨ H b = some (.frz o (.tup xs))) : Dl b = false := by
  rcases e with e | e
  · obtain ⟨g, _, its, n, _, g2⟩ := ok b _ e
    exact fc_not fc g2 (fun _ z => by cases z) fun _ z => by cases z
  · obtain ⟨g, _, its, _, o2, g2, _, n, hd⟩ := ok b _ e
    exact fc_not fc g2 (fun _ z => by rw [hd] at z; cases z) fun _ z => by rw [hd] at z; cases z
/-- a heap that is as another one but there -/
structure Bar (Dl : Addr → Bool) (A A' : AS) (H H' : Hp) : Prop where
  keep : ∀ b o, Dl b = false → ¬ A b → H b = some o → H' b = some o
  av : ∀ b, A' b → A b ∨ H b = none
theorem Bar.ins {a : Addr} {o : HO} (t : Bar Dl A A' H H') (d : Dl a = false) (n : ¬ A a) (e : H a = some o) : ¬ A' a ∧ H' a = some o :=
  ⟨fun z => (t.av a z).elim n fun q => (by rw [q] at e; cases e), t.keep a o d n e⟩
theorem Bar.rdt (t : Bar Dl A A' H H') (ok : HOk P w H h) (fc : Fc h Dl) {a : Addr} {vs : List V} (r : RdT K A H a vs) : RdT K A' H' a vs := by
  rcases r with ⟨n, e | ⟨o, e⟩⟩ | r
  · have q := t.ins (fc_obj ok fc e (.inr (.inl ⟨_, rfl⟩))) n e
    exact .inl ⟨q.1, .inl q.2⟩
  · have q := t.ins (fc_frz ok fc (.inr e)) n e
    exact .inl ⟨q.1, .inr ⟨o, q.2⟩⟩
  · exact .inr r
theorem Bar.rdl (t : Bar Dl A A' H H') (ok : HOk P w H h) (fc : Fc h Dl) {a : Addr} {vs : List V} (r : RdL K A H a vs) : RdL K A' H' a vs := by
  rcases r with ⟨n, e | ⟨o, e⟩⟩ | r
  · have q := t.ins (fc_obj ok fc e (.inl ⟨_, rfl⟩)) n e
    exact .inl ⟨q.1, .inl q.2⟩
  · have q := t.ins (fc_frz ok fc (.inl e)) n e
    exact .inl ⟨q.1, .inr ⟨o, q.2⟩⟩
  · exact .inr r
theorem Bar.rep (t : Bar Dl A A' H H') (ok : HOk P w H h) (fc : Fc h Dl) {v : V} {d : D} (r : Rep K A H v d) : Rep K A' H' v d :=
  Rep.rec (motive_1 := fun v d _ => Rep K A' H' v d) (motive_2 := fun vs ds _ => Reps K A' H' vs ds) (motive_3 := fun vs ds _ => RepF K A' H' vs ds)
    .non .bl .int .str (fun e _ ih => .tup (t.rdt ok fc e) ih) (fun e _ ih => .lst (t.rdl ok fc e) ih) .ptr
    (fun n e _ ih => let q := t.ins (fc_obj ok fc e (.inr (.inr (.inr (.inl ⟨_, _, _, rfl⟩))))) n e; .obj q.1 q.2 ih)
    (fun {a C dx o v d} n n2 e x e2 _ ih =>
      have d1 : Dl a = false := fc_not fc (atK_at ok e) (fun _ z => by obtain ⟨vs, q⟩ := x.data; rw [q] at z; cases z) fun _ z => by obtain ⟨vs, q⟩ := x.data; rw [q] at z; cases z
      have d2 : Dl dx = false := fc_obj ok fc e2 (.inr (.inr (.inr (.inr (.inl ⟨_, rfl⟩)))))
      let q := t.ins d1 n e
      let q2 := t.ins d2 n2 e2
      .exc q.1 q2.1 q.2 x q2.2 ih)
    .nil (fun _ _ i1 i2 => .cons i1 i2) .nil (fun _ _ i1 i2 => .cons i1 i2) r
theorem Bar.reps (t : Bar Dl A A' H H') (ok : HOk P w H h) (fc : Fc h Dl) : ∀ {vs : List V} {ds : List D}, Reps K A H vs ds → Reps K A' H' vs ds
  | _, _, .nil => .nil
  | _, _, .cons r rs => .cons (t.rep ok fc r) (t.reps ok fc rs)
theorem Bar.repF (t : Bar Dl A A' H H') (ok : HOk P w H h) (fc : Fc h Dl) : ∀ {vs : List (Str × V)} {ds : List (Str × D)}, RepF K A H vs ds → RepF K A' H' vs ds
  | _, _, .nil => .nil
  | _, _, .cons r rs => .cons (t.rep ok fc r) (t.repF ok fc rs)
theorem Bar.repK (t : Bar Dl A A' H H') (ok : HOk P w H h) (fc : Fc h Dl) : ∀ {vs : List (Key × V)} {ds : List (Key × D)}, RepK K A H vs ds → RepK K A' H' vs ds
  | _, _, .nil => .nil
  | _, _, .cons r rs => .cons (t.rep ok fc r) (t.repK ok fc rs)
/-- cells without lambdas -/
def NoFn (M : Cells) : Prop := ∀ p ∈ M, ∀ f L ds, p.2 ≠ .fn f L ds
theorem Bar.cell (t : Bar Dl A A' H H') (ok : HOk P w H h) (fc : Fc h Dl) {m : MO} (nf : ∀ f L ds, m ≠ .fn f L ds) {o : HO} (c : CellOf K A H o m) : CellOf K A' H' o m := by
  cases m with
  | lst ds => obtain ⟨vs, e, r⟩ := c; exact ⟨vs, e, t.reps ok fc r⟩
  | dK ds => obtain ⟨vs, e, r⟩ := c; exact ⟨vs, e, t.repK ok fc r⟩
  | ins C ds => obtain ⟨dx, vs, e, r⟩ := c; exact ⟨dx, vs, e, t.repF ok fc r⟩
  | tbl q =>
    obtain ⟨ps, e, e2, e3⟩ := c
    refine ⟨ps, e, e2, fun pos cv hc => ?_⟩
    obtain ⟨a, e1, n, e4⟩ := e3 pos cv hc
    obtain ⟨⟨oc, vs, t2, g1, g2, g3⟩, _, _⟩ := ok a _ e4
    have d : Dl a = false := fc_not fc g1 (fun _ z => by rw [g2] at z; cases z) fun _ z => by rw [g2] at z; cases z
    have q := t.ins d n e4
    exact ⟨a, e1, q.1, q.2⟩
  | fn f L ds => exact absurd rfl (nf f L ds)
/-- lambdas, captured cells alone are told there -/
def Ats (H : Hp) (Dl : Addr → Bool) : Prop := ∀ b o, Dl b = true → H b = some o → ∃ ob, o = atK b ob
theorem HOk.hide (ok : HOk P w H h) (ha : Ats H Dl) : HOk P w (PL.hide H Dl) h := fun b u e => by
  cases z : Dl b with
  | true => rw [hide_t z] at e; cases e
  | false =>
    rw [hide_f z] at e
    refine (ok b u e).stay (fun d v _ q => q) (fun d q => ?_) fun d xs q => ?_
    · cases zd : Dl d with
      | false => rw [hide_f zd]; exact q
      | true => obtain ⟨ob, e2⟩ := ha d _ zd q; unfold atK at e2; cases e2
    · cases zd : Dl d with
      | false => rw [hide_f zd]; exact q
      | true => obtain ⟨ob, e2⟩ := ha d _ zd q; unfold atK at e2; cases e2
theorem HOk.back {H1 : Hp} (ok : HOk P w H h) (nn : ∀ b, Dl b = true → H b = none) (ha : ∀ b o, Dl b = true → H1 b = some o → ∃ ob, o = atK b ob ∧ h.get? b = some ob) : HOk P w (PL.back H H1 Dl) h := fun b u e => by
  cases z : Dl b with
  | true =>
    rw [back_t z] at e
    obtain ⟨ob, e1, e2⟩ := ha b u z e
    subst e1
    exact atK_ok e2
  | false =>
    rw [back_f z] at e
    refine (ok b u e).stay (fun d v _ q => q) (fun d q => ?_) fun d xs q => ?_
    · cases zd : Dl d with
      | false => rw [back_f zd]; exact q
      | true => rw [nn d zd] at q; cases q
    · cases zd : Dl d with
      | false => rw [back_f zd]; exact q
      | true => rw [nn d zd] at q; cases q
end
section
variable {X : Cx} {pins : List (Addr × Obj)} {σ : L2.St} {H H' : Hp} {s s' : Shared} {Dl : Addr → Bool}
theorem ats_not (ha : Ats H Dl) {b : Addr} {u : HO} (e : H b = some u) (n : ∀ a o, u ≠ atK a o) : Dl b = false := by
  cases z : Dl b with
  | false => rfl
  | true => obtain ⟨ob, q⟩ := ha b u z e; exact absurd q (n b ob)
theorem Inv.hide (I : Inv X pins σ H s) (ha : Ats H Dl) : Inv X pins σ (PL.hide H Dl) s := by
  have q := I.un (h' := s.heap) (t' := s.toks) (H' := PL.hide H Dl) ⟨fun b o e _ _ _ => e, fun b o e _ _ _ => ⟨o.slots, e⟩, fun b o _ n _ => ?_, fun b o e _ => ⟨o, e⟩, fun b xs e => ?_, fun b o u e => ?_, fun b ps e => ⟨#[], ?_⟩⟩ (HOk.hide I.hok ha)
  · exact q
  · cases z : Dl b with
    | true => exact hide_t z
    | false => rw [hide_f z]; exact n
  · rw [hide_f (ats_not ha e fun a o z => by unfold atK at z; cases z)]; exact e
  · rw [hide_f (ats_not ha e fun a o z => by unfold atK at z; cases z)]; exact e
  · rw [hide_f (ats_not ha e fun a o z => by unfold atK at z; cases z)]; rw [e]; simp
theorem Inv.back {H1 : Hp} {s1 : Shared} {σ1 : L2.St} (I : Inv X pins σ H s) (I1 : Inv X pins σ1 H1 s1) (nn : ∀ b, Dl b = true → H b = none) (ha : ∀ b o, Dl b = true → H1 b = some o → ∃ ob, o = atK b ob ∧ s.heap.get? b = some ob) : Inv X pins σ (PL.back H H1 Dl) s := by
  have kp : ∀ {b u}, H b = some u → PL.back H H1 Dl b = some u := fun {b u} e => by
    cases z : Dl b with
    | true => rw [nn b z] at e; cases e
    | false => rw [back_f z]; exact e
  refine ⟨I.ok, I.os, I.bare, ⟨I.base.keep, I.base.slot, fun b o e n hx => ?_, I.base.there, fun b xs e => kp (I.base.tups b xs e), fun b o u e => kp (I.base.frzs b o u e), fun b ps e => let ⟨more, q⟩ := I.base.tbls b ps e; ⟨more, kp q⟩⟩, I.loc, I.cell, ?_, fun x c e => ?_, fun p hp => ?_, HOk.back I.hok nn ha, I.len⟩
  · cases z : Dl b with
    | true => rw [back_t z]; exact I1.base.free b o e n hx
    | false => rw [back_f z]; exact I.base.free b o e n hx
  · cases z : Dl X.env.locals with
    | true => rw [back_t z]; exact I1.free
    | false => rw [back_f z]; exact I.free
  · cases z : Dl c with
    | true => rw [back_t z]; exact I1.freeC x c e
    | false => rw [back_f z]; exact I.freeC x c e
  · obtain ⟨p1, p2, p3⟩ := I.pin p hp
    refine ⟨p1, ?_, p3⟩
    cases z : Dl p.1 with
    | true => rw [back_t z]; exact (I1.pin p hp).2.1
    | false => rw [back_f z]; exact p2
end
/-- what is asked of a lambda's words, its parameters ps -/
structure LamW (L : LamT) (ps : List Str) : Prop where
  sc : NdefX.NScope (ps ++ L.fr) ps L.fr L.scope
  bind : ∀ (cl : List (Str × Addr)) (pm ctv : Value) (c' : Addr) (us : List Value), us.length = ps.length → bindArgs (PySem.W.kla_fn "<lambda>" L.qual L.params L.body L.scope cl pm (.ref c') ctv) ⟨us, []⟩ = pure (ps.zip us)
/-- the context of its body -/
def lamC (P : Program) (w : World) (K : PySem.W.Frag) (mg : Str → Option Value) (base : Heap) (L : LamT) (ps : List Str) (k : Nat) : PL.Ctx :=
  ⟨P, w, K, mg, base, ps ++ L.fr, L.scope, k, fun _ _ _ _ => False, fun _ => false, false, true, none⟩
def dlOf (f : Addr) (cl : List (Str × Addr)) (fr : List Str) : Addr → Bool := fun b => decide (b = f) || fr.any fun y => decide (cl.lookup y = some b)
theorem dlOf_iff {f b : Addr} {cl : List (Str × Addr)} {fr : List Str} : dlOf f cl fr b = true ↔ b = f ∨ ∃ y ∈ fr, cl.lookup y = some b := by
  simp [dlOf]
section
variable {P : Program} {w : World} {K : PySem.W.Frag} {mg : Str → Option Value} {base : Heap} {N ps fr : List Str} {F : NdefX.NF} {f : Addr} {A : Around} {outer : List Env} {s : Shared} {H : Hp} {E : XK} {S : AS} {M : Cells} {L : LamT} {ds caps : List D} {k : Nat}
/-- the start of its body -/
theorem lam_at {vs : List V} {ws : List (Option V)} (W : LamW L ps) (hN : F.scope = L.scope) (hr : Room k (A.deeper (NdefX.envF F f s.heap.objs.size))) (cr : Core K S M H) (rs : Reps K (av S M) H vs ds) (hl : ds.length = ps.length) (hl2 : caps.length = L.fr.length)
    (hw : ws.length = L.fr.length) (hc : ∀ (i : Nat) (d : D), caps[i]? = some d → ∃ v, ws[i]? = some (some v) ∧ Rep K (av S M) H v d) :
    At (lamC P w K mg base L ps k) (NdefX.ncx (L2.CX P w) P w K mg base (ps ++ L.fr) F f A outer s H E) S (ds.map some ++ caps.map some) M (NdefX.startF (ps ++ L.fr) vs ws) H := by
  have hvl := rs.length
  refine ⟨⟨rfl, rfl, rfl, rfl, rfl, rfl, hN, fun _ => hr, fun _ => rfl, W.sc.nd, fun _ _ z => (by cases z), passes_of rfl, fun z => (by cases z), L2H.roomH_of hr, fun _ _ _ z => (by cases z)⟩, cr, ⟨?_, fun i d e => ?_⟩, ⟨fun _ _ _ _ => False, ?_, fun _ _ _ _ _ _ _ _ _ _ _ _ _ z => z⟩⟩
  · unfold NdefX.startF
    simp only [List.length_append, List.length_map, List.length_replicate]
    omega
  · by_cases h1 : i < ds.length
    · rw [List.getElem?_append_left (by simpa using h1), List.getElem?_map] at e
      cases e1 : ds[i]? with
      | none => rw [e1] at e; cases e
      | some d' =>
        rw [e1] at e
        have q := Option.some.inj (Option.some.inj e)
        subst q
        obtain ⟨v, hv, r⟩ := rs.get e1
        refine ⟨v, ?_, r⟩
        unfold NdefX.startF
        rw [List.getElem?_append_left (by rw [List.length_map]; omega), List.getElem?_map, hv]
        rfl
    · rw [List.getElem?_append_right (by simpa using Nat.le_of_not_lt h1), List.length_map, List.getElem?_map] at e
      cases e1 : caps[i - ds.length]? with
      | none => rw [e1] at e; cases e
      | some d' =>
        rw [e1] at e
        have q := Option.some.inj (Option.some.inj e)
        subst q
        obtain ⟨v, hv, r⟩ := hc _ _ e1
        refine ⟨v, ?_, r⟩
        have hi := (List.getElem?_eq_some_iff.mp hv).1
        unfold NdefX.startF
        rw [List.getElem?_append_right (by rw [List.length_map]; omega), List.length_map, hvl, List.getElem?_append_left hi]
        exact hv
  · rintro u s' ⟨_, _, _, _, _, _, _, _, _, _, _, _, _, _, _, _, z⟩
    exact z.elim
end
section
variable {c : PL.Ctx} {X : Cx} {S : AS} {Γ Γ' : Gam} {M M' : Cells} {σ σ' : L2.St} {H H' : Hp} {e : Expr} {es : List Expr} {pos p : Pos} {Q : D → Cells → Prop} {x : Str} {L : LamT} {ps : List Str} {f : Addr} {caps : List D}
theorem caps_dl {K : PySem.W.Frag} {A : AS} {H : Hp} {cl : List (Str × Addr)} {fr : List Str} {ds : List D} {b : Addr} (ct : CapsT K A H cl fr ds) (h : dlOf f cl fr b = true) : b = f ∨ (¬ A b ∧ ∃ o, H b = some (atK b o) ∧ ∃ v, o.data = .cell v) := by
  rcases dlOf_iff.mp h with h | ⟨y, hy, e⟩
  · exact .inl h
  · exact .inr (ct.all y b e)
/-- x(..), x a variable that holds a lambda -/
theorem we_callF {i k : Nat} (W : LamW L ps) (hN : c.N[i]? = some x) (hv : VisC c.sc x) (gΓ : Γ[i]? = some (some (.ptr f))) (hM : (f, MO.fn f L caps) ∈ M) (hk : k + 1 ≤ c.k)
    (h : WA c (e :: es) Γ M fun ds M1 => ∃ kept lent, M1 = kept ++ (f, .fn f L caps) :: lent ∧ ds.length = ps.length ∧ caps.length = L.fr.length ∧ NoFn lent ∧ WE (lamC c.P c.w c.K c.mg c.base L ps k) L.body (ds.map some ++ caps.map some) lent fun d M2 => Q d (kept ++ (f, .fn f L caps) :: M2))
    (hd : (x == ("__debug__" : Str)) = false := by decide) (hcd : (x == ("__classdict__" : Str)) = false := by decide)
    (he : ∀ env, starEach (e :: es) env = (false, eval e env) :: starEach es env := by intro _; rfl) (hpl : ∀ env, (backTo pos (starEach es env)).any (·.1) = false := by intro _; rfl) (hcm : c.calm = true := by first | rfl | assumption) :
    WE c (.Call (.Name x p) (e :: es) [] pos) Γ M Q := .mk fun X S σ H at_ Q' hq => by
  have eP := at_.is.prog; have ew := at_.is.w; have eK := at_.is.K; have emg := at_.is.mg; have eb := at_.is.base
  intro pins s I
  obtain ⟨v0, hv0, r0⟩ := at_.slots.at_ i _ gΓ
  cases r0
  have fnAt : ∀ {s : Shared} {σ : L2.St} {pins : List (Addr × Obj)} {H : Hp} {M : Cells}, Inv X pins σ H s → Core c.K S M H → (f, MO.fn f L caps) ∈ M → PySem.W.FnAt f s.heap := fun {s σ pins H M} I cr hm => by
    obtain ⟨o, ho, pm, ctv, c', cl, e1, _⟩ := cr.cells _ hm
    subst e1
    exact ⟨_, _, _, _, atK_at I.hok ho⟩
  refine wpAny_Call_Name_kw (thn ((pe_var (pos := p) (at_.is.nm hN) (at_.is.vis hv) hd hcd).run pins s σ H (fun v H1 => v = .ref f ∧ H1 = H) I ⟨.ref f, hv0, rfl, rfl⟩) fun u s1 ⟨v, H1, I1, r1, q1⟩ => ?_)
  obtain ⟨ev, eH⟩ := q1
  subst ev
  rw [eH] at I1
  obtain rfl : u = Value.ref f := r1
  refine PySem.W.callWith_F (first := []) (fnAt I1 at_.core hM) (thn (h.run X S σ H at_ (fun vs H2 => ∃ ds M1, Core c.K S M1 H2 ∧ Step M M1 H H2 ∧ Reps c.K (av S M1) H2 vs ds ∧ ∃ kept lent, M1 = kept ++ (f, .fn f L caps) :: lent ∧ ds.length = ps.length ∧ caps.length = L.fr.length ∧ NoFn lent ∧ WE (lamC c.P c.w c.K c.mg c.base L ps k) L.body (ds.map some ++ caps.map some) lent fun d M2 => Q d (kept ++ (f, .fn f L caps) :: M2))
    (fun vs H2 ds M1 c1 s1 rs q => ⟨ds, M1, c1, s1, rs, q⟩) pos pins s1 I1) fun us s2 ⟨vs, H2, I2, rv, ds, M1, c2, st2, rs, kept, lent, eM, hl, hl2, nf, body⟩ => ?_) (he _) (hpl _)
  subst eM
  have hmf : (f, MO.fn f L caps) ∈ kept ++ (f, .fn f L caps) :: lent := List.mem_append_right _ List.mem_cons_self
  refine ⟨fnAt I2 c2 hmf, ?_⟩
  show wpAny _ _ (call (.ref f) us) _ _ _
  obtain ⟨o, ho, pm, ctv, c', cl, eo, nc', hc', ct⟩ := c2.cells _ hmf
  subst eo
  have hobj := atK_at I2.hok ho
  -- what is let go
  have cap : ∀ b, dlOf f cl L.fr b = true → b = f ∨ (¬ av S (kept ++ (f, .fn f L caps) :: lent) b ∧ ∃ o, H2 b = some (atK b o) ∧ ∃ v, o.data = .cell v) := fun b hb => caps_dl ct hb
  have ha : Ats H2 (dlOf f cl L.fr) := fun b u hb e => by
    rcases cap b hb with rfl | ⟨_, o, q, _⟩
    · rw [ho] at e; cases e; exact ⟨_, rfl⟩
    · rw [q] at e; cases e; exact ⟨_, rfl⟩
  have fc : Fc s2.heap (dlOf f cl L.fr) := fun b ob hb e => by
    rcases cap b hb with rfl | ⟨_, o, q, hv⟩
    · rw [hobj] at e; cases e; exact .inl ⟨_, rfl⟩
    · rw [atK_at I2.hok q] at e; cases e; exact .inr hv
  have some2 : ∀ b, dlOf f cl L.fr b = true → ∃ ob, H2 b = some (atK b ob) ∧ s2.heap.get? b = some ob := fun b hb => by
    rcases cap b hb with rfl | ⟨_, o, q, hv⟩
    · exact ⟨_, ho, hobj⟩
    · exact ⟨o, q, atK_at I2.hok q⟩
  have nodM : (dom (kept ++ (f, MO.fn f L caps) :: lent)).Nodup := c2.nod
  have edom : dom (kept ++ (f, MO.fn f L caps) :: lent) = dom kept ++ f :: dom lent := by unfold dom; rw [List.map_append]; rfl
  rw [edom, List.nodup_append] at nodM
  obtain ⟨nk, nfl, dis2⟩ := nodM
  obtain ⟨f1, f2⟩ := List.nodup_cons.mp nfl
  have f3 : f ∉ dom kept := fun z => dis2 f z f List.mem_cons_self rfl
  have fS : ¬ S f := c2.dis f (by rw [edom]; exact List.mem_append_right _ List.mem_cons_self)
  have dl_S : ∀ b, S b → dlOf f cl L.fr b = false := fun b hb => by
    cases z : dlOf f cl L.fr b with
    | false => rfl
    | true =>
      rcases cap b z with rfl | ⟨n, _⟩
      · exact absurd hb fS
      · exact absurd (.inl hb) n
  have dl_k : ∀ b ∈ dom kept, dlOf f cl L.fr b = false := fun b hb => by
    cases z : dlOf f cl L.fr b with
    | false => rfl
    | true =>
      rcases cap b z with rfl | ⟨n, _⟩
      · exact absurd hb f3
      · exact absurd (.inr (by rw [edom]; exact List.mem_append_left _ hb)) n
  have dl_l : ∀ b ∈ dom lent, dlOf f cl L.fr b = false := fun b hb => by
    cases z : dlOf f cl L.fr b with
    | false => rfl
    | true =>
      rcases cap b z with rfl | ⟨n, _⟩
      · exact absurd hb f1
      · exact absurd (.inr (by rw [edom]; exact List.mem_append_right _ (List.mem_cons_of_mem _ hb))) n
  have I5 : Inv X pins σ (PL.hide H2 (dlOf f cl L.fr)) s2 := Inv.hide I2 ha
  have bar : Bar (dlOf f cl L.fr) (av S (kept ++ (f, .fn f L caps) :: lent)) (av (av S kept) lent) H2 (PL.hide H2 (dlOf f cl L.fr)) := ⟨fun b o d _ e => by rw [hide_f d]; exact e, fun b z => .inl (by
    rcases z with (z | z) | z
    · exact .inl z
    · exact .inr (by rw [edom]; exact List.mem_append_left _ z)
    · exact .inr (by rw [edom]; exact List.mem_append_right _ (List.mem_cons_of_mem _ z)))⟩
  have cr5 : Core c.K (av S kept) lent (PL.hide H2 (dlOf f cl L.fr)) := by
    refine ⟨fun b z => ?_, f2, fun a ha z => ?_, fun q hq => ?_⟩
    · rcases z with z | z
      · rw [hide_f (dl_S b z)]; exact c2.known b z
      · rw [hide_f (dl_k b z)]
        obtain ⟨y, hy, e⟩ := List.mem_map.mp z
        have := (c2.cells y (List.mem_append_left _ hy)).ne
        rw [e] at this
        exact this
    · rcases z with z | z
      · exact c2.dis a (by rw [edom]; exact List.mem_append_right _ (List.mem_cons_of_mem _ ha)) z
      · exact dis2 a z a (List.mem_cons_of_mem _ ha) rfl
    · obtain ⟨o, e1, e2⟩ := c2.cells q (List.mem_append_right _ (List.mem_cons_of_mem _ hq))
      exact ⟨o, by rw [hide_f (dl_l q.1 (List.mem_map.mpr ⟨q, hq, rfl⟩))]; exact e1, bar.cell I2.hok fc (nf q hq) e2⟩
  have rs5 : Reps c.K (av (av S kept) lent) (PL.hide H2 (dlOf f cl L.fr)) vs ds := bar.reps I2.hok fc rs
  -- its captured values
  let Fn : NdefX.NF := ⟨"<lambda>", L.qual, L.params, [], L.scope, cl, c'⟩
  obtain ⟨ws, hwl, hws, hwr⟩ : ∃ ws : List (Option V), ws.length = L.fr.length ∧ (∀ (i : Nat) (y : Str), L.fr[i]? = some y → ∃ a, cl.lookup y = some a ∧ ∀ v, ws[i]? = some (some v) → ∃ u, L2.RelV v u ∧ s2.heap.IsCell a (some u)) ∧
      ∀ (i : Nat) (d : D), caps[i]? = some d → ∃ v, ws[i]? = some (some v) ∧ Rep c.K (av (av S kept) lent) (PL.hide H2 (dlOf f cl L.fr)) v d := by
    have hx : ∀ j : Fin L.fr.length, ∃ (v : V), (∃ (a : Addr) (u : Value), cl.lookup (L.fr[j.1]'j.2) = some a ∧ L2.RelV v u ∧ s2.heap.IsCell a (some u)) ∧ Rep c.K (av (av S kept) lent) (PL.hide H2 (dlOf f cl L.fr)) v (caps[j.1]'(by rw [hl2]; exact j.2)) := fun j => by
      obtain ⟨a, o, u, v, e1, e2, e3, e4, e5⟩ := ct.has j.1 (L.fr[j.1]'j.2) (caps[j.1]'(by rw [hl2]; exact j.2)) (List.getElem?_eq_getElem _) (List.getElem?_eq_getElem _)
      exact ⟨v, ⟨a, u, e1, e4, o, atK_at I2.hok e2, e3⟩, bar.rep I2.hok fc e5⟩
    obtain ⟨g, hg⟩ := Classical.skolem.mp hx
    refine ⟨List.ofFn fun j => some (g j), List.length_ofFn, fun j y e => ?_, fun j d e => ?_⟩
    · obtain ⟨hj, ey⟩ := List.getElem?_eq_some_iff.mp e
      obtain ⟨⟨a, u, e1, e2, e3⟩, _⟩ := hg ⟨j, hj⟩
      refine ⟨a, by rw [← ey]; exact e1, fun v ev => ⟨u, ?_, e3⟩⟩
      rw [List.getElem?_ofFn, dif_pos hj] at ev
      have := Option.some.inj (Option.some.inj ev)
      rw [← this]
      exact e2
    · obtain ⟨hj, ey⟩ := List.getElem?_eq_some_iff.mp e
      obtain ⟨_, r⟩ := hg ⟨j, by rw [← hl2]; exact hj⟩
      refine ⟨g ⟨j, by rw [← hl2]; exact hj⟩, by rw [List.getElem?_ofFn, dif_pos (by rw [← hl2]; exact hj)], ?_⟩
      rw [← ey]
      exact r
  have room := at_.is.room hcm
  have hb := W.bind cl pm ctv c' us (by rw [← rv.length, rs.length]; exact hl)
  have C5 : NdefX.CellsAt Fn.cl L.fr ws s2.heap (PL.hide H2 (dlOf f cl L.fr)) := by
    refine ⟨hwl, fun y a e => ?_, ct.inj, fun i y e => hws i y e⟩
    obtain ⟨_, o, q, v, hv⟩ := ct.all y a e
    exact ⟨hide_t (dlOf_iff.mpr (.inr ⟨y, ct.sub y a e, e⟩)), v, o, atK_at I2.hok q, hv⟩
  have e0 := I5.env0
  obtain ⟨⟨oc, cvs, t, g1, g2, g3⟩, _, _⟩ := I2.hok c' _ hc'
  have rc : codeAny (model X.prog X.w) X.A (.call (.ref f) ⟨us, []⟩) (CR (L2.CX X.prog X.w) X.stack X.prog X.w (PL.hide H2 (dlOf f cl L.fr)) s2 (fun v H' => ∃ d M2, Core c.K (av S kept) M2 H' ∧ Step lent M2 (PL.hide H2 (dlOf f cl L.fr)) H' ∧ Rep c.K (av (av S kept) M2) H' v d ∧ Q d (kept ++ (f, .fn f L caps) :: M2)) (fun _ _ _ => False)) s2 := by
    refine PySem.W.kla_callFunE room.depth hobj rfl W.sc.co W.sc.gen rfl ⟨c', oc, cvs, t, rfl, g1, g2, g3⟩ ?_
    rw [hb]
    refine wpAny_pure (wpAny_newFunctionEnv W.sc.nocell (fun ⟨n, _⟩ hy => W.sc.par n (List.of_mem_zip hy).1) (fun h1 hns hsb => ⟨I2.nolimit.fresh _ hsb, ?_⟩) W.sc.kind)
    show codeAny _ _ (.expr L.body (NdefX.envF Fn f s2.heap.objs.size)) _ _
    have kp : ∀ b o, s2.heap.get? b = some o → h1.get? b = some o := fun b o e => hsb.extBut b o (Nat.ne_of_lt (Heap.lt_size e)) (Heap.get?_push_of_some _ e)
    have J : Inv (NdefX.ncx (L2.CX X.prog X.w) X.prog X.w X.K X.mg X.base (ps ++ L.fr) Fn f X.A X.stack s2 (PL.hide H2 (dlOf f cl L.fr)) (fun _ _ _ => False)) [] (NdefX.startF (ps ++ L.fr) vs ws) (PL.hide H2 (dlOf f cl L.fr)) { s2 with heap := h1, toks := s2.toks + (ps.zip us).length } :=
      NdefX.inv_startN W.sc room.hd e0 (by rw [rs.length]; exact hl) rv C5 hns kp
    have at5 : At (lamC c.P c.w c.K c.mg c.base L ps k) (NdefX.ncx (L2.CX X.prog X.w) X.prog X.w X.K X.mg X.base (ps ++ L.fr) Fn f X.A X.stack s2 (PL.hide H2 (dlOf f cl L.fr)) (fun _ _ _ => False)) (av S kept) (ds.map some ++ caps.map some) lent (NdefX.startF (ps ++ L.fr) vs ws) (PL.hide H2 (dlOf f cl L.fr)) := by
      rw [eP, ew, eK, emg, eb]
      exact lam_at W rfl ((room.mono hk).deeper _) cr5 rs5 hl hl2 hwl hwr
    refine PySem.W.kla_codeExpr (wpAny_mono (body.run _ _ _ _ at5 (fun v H' => ∃ d M2, Core c.K (av S kept) M2 H' ∧ Step lent M2 (PL.hide H2 (dlOf f cl L.fr)) H' ∧ Rep c.K (av (av S kept) M2) H' v d ∧ Q d (kept ++ (f, .fn f L caps) :: M2)) (fun v H' d M2 c3 s3 r3 q3 => ⟨d, M2, c3, s3, r3, q3⟩) [] _ J) (fun u s' hq => ?_) fun e s' hq => hq)
    obtain ⟨v', H', J', rv', q'⟩ := hq
    exact ⟨v', H', J'.os, J'.bare, J'.base, J'.hok, rv', q'⟩
  refine wpAny_call (codeAny_mono rc fun r s' hq' => ?_)
  cases r with
  | error e' =>
    obtain ⟨_, _, _, _, _, _, _, _, _, _, _, _, z⟩ := hq'
    exact z.elim
  | ok fl =>
    cases fl with
    | next => exact False.elim hq'
    | brk => exact False.elim hq'
    | cont => exact False.elim hq'
    | ret u' =>
      obtain ⟨v, H', os, bare, un, hok', rv', d, M2, c3, st3, r3, q3⟩ := hq'
      obtain ⟨v1, H1', I', _, ev1, eH1⟩ := I5.after (Q := fun v1 H1 => v1 = v ∧ H1 = H') ⟨v, H', os, bare, un, hok', rv', rfl, rfl⟩
      subst ev1 eH1
      have nn : ∀ b, dlOf f cl L.fr b = true → H1' b = none := fun b hb => by
        obtain ⟨ob, _, g⟩ := some2 b hb
        exact un.free b ob g (hide_t hb) (by simp)
      have hkeep : ∀ b o, dlOf f cl L.fr b = true → H2 b = some o → ∃ ob, o = atK b ob ∧ s'.heap.get? b = some ob := fun b o hb e => by
        obtain ⟨ob, q, g⟩ := some2 b hb
        rw [q] at e
        cases e
        exact ⟨ob, rfl, un.keep b ob g (hide_t hb) (fun hm => by have z := I2.stkFree b hm; rw [q] at z; cases z) (by simp)⟩
      have IB := Inv.back I' I2 nn hkeep
      have edom2 : dom (kept ++ (f, MO.fn f L caps) :: M2) = dom kept ++ f :: dom M2 := by unfold dom; rw [List.map_append]; rfl
      have m2no : ∀ b ∈ dom M2, dlOf f cl L.fr b = false := fun b hb => by
        cases z : dlOf f cl L.fr b with
        | false => rfl
        | true =>
          obtain ⟨y, hy, ey⟩ := List.mem_map.mp hb
          have q := (c3.cells y hy).ne
          rw [ey] at q
          exact absurd (nn b z) q
      have keepF : ∀ b o, b ∉ dom lent → H2 b = some o → PL.back H1' H2 (dlOf f cl L.fr) b = some o := fun b o n e => by
        cases z : dlOf f cl L.fr b with
        | true => rw [back_t z]; exact e
        | false => rw [back_f z]; exact st3.keep b o n (by rw [hide_f z]; exact e)
      have freshF : ∀ b ∈ dom M2, b ∈ dom lent ∨ H2 b = none := fun b hb => by
        rcases st3.fresh b hb with q | q
        · exact .inl q
        · rw [hide_f (m2no b hb)] at q
          exact .inr q
      have toF : To (av S (kept ++ (f, .fn f L caps) :: lent)) (av S (kept ++ (f, .fn f L caps) :: M2)) H2 (PL.back H1' H2 (dlOf f cl L.fr)) := by
        refine ⟨fun b o n e => keepF b o (fun z => n (.inr (by rw [edom]; exact List.mem_append_right _ (List.mem_cons_of_mem _ z)))) e, fun b z => ?_⟩
        rcases z with z | z
        · exact .inl (.inl z)
        · rw [edom2] at z
          rcases List.mem_append.mp z with z | z
          · exact .inl (.inr (by rw [edom]; exact List.mem_append_left _ z))
          · rcases List.mem_cons.mp z with z | z
            · exact .inl (.inr (by rw [edom, z]; exact List.mem_append_right _ List.mem_cons_self))
            · rcases freshF b z with q | q
              · exact .inl (.inr (by rw [edom]; exact List.mem_append_right _ (List.mem_cons_of_mem _ q)))
              · exact .inr q
      have toL : To (av (av S kept) M2) (av S (kept ++ (f, .fn f L caps) :: M2)) H1' (PL.back H1' H2 (dlOf f cl L.fr)) := by
        refine ⟨fun b o n e => ?_, fun b z => ?_⟩
        · cases zz : dlOf f cl L.fr b with
          | true => rw [nn b zz] at e; cases e
          | false => rw [back_f zz]; exact e
        · rcases z with z | z
          · exact .inl (.inl (.inl z))
          · rw [edom2] at z
            rcases List.mem_append.mp z with z | z
            · exact .inl (.inl (.inr z))
            · rcases List.mem_cons.mp z with z | z
              · rw [z]; exact .inr (nn f (dlOf_iff.mpr (.inl rfl)))
              · exact .inl (.inr z)
      have crF : Core c.K S (kept ++ (f, .fn f L caps) :: M2) (PL.back H1' H2 (dlOf f cl L.fr)) := by
        refine ⟨fun b z => ?_, ?_, fun a ha z => ?_, fun q hq => ?_⟩
        · rw [back_f (dl_S b z)]
          exact c3.known b (.inl z)
        · rw [edom2, List.nodup_append]
          refine ⟨nk, List.nodup_cons.mpr ⟨fun z => ?_, c3.nod⟩, fun a ha b hb e => ?_⟩
          · have q := m2no f z
            rw [dlOf_iff.mpr (.inl rfl)] at q
            cases q
          · subst e
            rcases List.mem_cons.mp hb with e | hb
            · exact f3 (e ▸ ha)
            · exact c3.dis a hb (.inr ha)
        · rw [edom2] at ha
          rcases List.mem_append.mp ha with ha | ha
          · exact c2.dis a (by rw [edom]; exact List.mem_append_left _ ha) z
          · rcases List.mem_cons.mp ha with ha | ha
            · exact fS (ha ▸ z)
            · exact c3.dis a ha (.inl z)
        · rcases List.mem_append.mp hq with hq | hq
          · exact CellAt.to toF (fun o e => keepF q.1 o (fun z => dis2 q.1 (List.mem_map.mpr ⟨q, hq, rfl⟩) q.1 (List.mem_cons_of_mem _ z) rfl) e) (c2.cells q (List.mem_append_left _ hq))
          · rcases List.mem_cons.mp hq with e | hq
            · subst e
              exact CellAt.to toF (fun o e => keepF f o f1 e) (c2.cells _ hmf)
            · refine CellAt.to toL (fun o e => ?_) (c3.cells q hq)
              rw [back_f (m2no q.1 (List.mem_map.mpr ⟨q, hq, rfl⟩))]
              exact e
      have stF : Step (kept ++ (f, .fn f L caps) :: lent) (kept ++ (f, .fn f L caps) :: M2) H2 (PL.back H1' H2 (dlOf f cl L.fr)) := by
        refine ⟨fun b o n e => keepF b o (fun z => n (by rw [edom]; exact List.mem_append_right _ (List.mem_cons_of_mem _ z))) e, fun b n => ?_, fun b hb => ?_⟩
        · cases z : dlOf f cl L.fr b with
          | true => rw [back_t z]; exact n
          | false => rw [back_f z]; exact st3.grow b (by rw [hide_f z]; exact n)
        · rw [edom2] at hb
          rw [edom]
          rcases List.mem_append.mp hb with z | z
          · exact .inl (List.mem_append_left _ z)
          · rcases List.mem_cons.mp z with z | z
            · exact .inl (by rw [z]; exact List.mem_append_right _ List.mem_cons_self)
            · exact (freshF b z).imp (fun q => List.mem_append_right _ (List.mem_cons_of_mem _ q)) id
      exact ⟨v1, _, IB, rv', hq v1 _ d _ crF (st2.trans stF) (r3.to toL) q3⟩
end
theorem dom_inj : ∀ {M : Cells} {p q : Addr × MO}, (dom M).Nodup → p ∈ M → q ∈ M → p.1 = q.1 → p = q
  | [], _, _, _, h, _, _ => by cases h
  | z :: M, p, q, nd, hp, hq, e => by
    obtain ⟨n1, n2⟩ := List.nodup_cons.mp (show (z.1 :: dom M).Nodup from nd)
    rcases List.mem_cons.mp hp with e1 | hp
    · rcases List.mem_cons.mp hq with e2 | hq
      · rw [e1, e2]
      · exact absurd (show z.1 ∈ dom M from List.mem_map.mpr ⟨q, hq, by rw [← e, e1]⟩) n1
    · rcases List.mem_cons.mp hq with e2 | hq
      · exact absurd (show z.1 ∈ dom M from List.mem_map.mpr ⟨p, hp, by rw [e, e2]⟩) n1
      · exact dom_inj n2 hp hq e
section
variable {X : Cx} {pins : List (Addr × Obj)} {σ : L2.St} {H : Hp} {s : Shared}
/-- a lambda is made: its code object is new, or found in the table -/
theorem lam_make3 {K : PySem.W.Frag} {A : AS} {c P : Addr} {params : Arguments} {body : Expr} {scope : Scope} {pos : Pos} {E : Value → Shared → Prop} {Q : Value → Shared → Prop} {o : HO} (I : Inv X pins σ H s) (TB : LamX.TabB X.base X.mg c P) (hcode : X.env.code = .ref c)
    (hP : H P = some o) (hc : CellOf K A H o (.tbl (X.env.qual ++ "<lambda>"))) (hA : ∀ b, A b → H b ≠ none) (hdef : defaultsOf params X.env = ([], [])) (hfree : ∀ y ∈ scope.names, y.2 = .free → ∃ c, X.env.cells.lookup y.1 = some c)
    (h : ∀ (f c' : Addr) (pm ctv : Value) (H1 : Hp) (o1 : HO) (s' : Shared), Inv X pins σ H1 s' → (∀ b u, b ≠ P → H b = some u → H1 b = some u) → H1 P = some o1 → CellOf K A H1 o1 (.tbl (X.env.qual ++ "<lambda>")) → s.heap.objs.size ≤ f →
      s'.heap.get? f = some (PySem.W.kla_obj "<lambda>" (X.env.qual ++ "<lambda>") params body scope (cloFrom X.env.cells scope.names []) pm c' ctv) → H1 f = none → ¬ A c' → H1 c' = some (LamX.CodeO c' (X.env.qual ++ "<lambda>")) → Q (.ref f) s') :
    wpAny (model X.prog X.w) X.A (eval (.Lambda params body scope pos) X.env) Q E s := by
  obtain ⟨ps, eo, ht, ha⟩ := hc
  subst eo
  have bP : s.heap.BuiltinsAt X.mg P := TB.bm.keeps I.bk
  have hP' : s.heap.get? P = some { cls := .none, data := .fields ps } := I.hok P _ hP
  refine PySem.W.kla_eval hdef ?_
  cases hq : codeAmong pos ps.toList with
  | some cv =>
    obtain ⟨c', e, nA, hco⟩ := ha pos cv hq
    subst e
    refine PySem.W.kla_makeFunctionHit (mg := X.mg) (c := c) (P := P) (ps := ps) (closure_ok hfree) I.ok.glob (I.mod.glob.keeps I.bk) hcode (TB.code.keeps I.bk) hP' ht hq bP fun ctv h' tk hx hsz => ?_
    exact h h'.objs.size c' _ ctv H _ _ (I.kept (t' := tk) fun b o e => Heap.get?_push_of_some _ (hx b o e)) (fun b u _ e => e) hP ⟨ps, rfl, ht, ha⟩ hsz (Heap.get?_push_size _ rfl) (I.hok.fresh hsz) nA hco
  | none =>
    refine PySem.W.kla_makeFunction (mg := X.mg) (c := c) (P := P) (ps := ps) (closure_ok hfree) I.ok.glob (I.mod.glob.keeps I.bk) hcode (TB.code.keeps I.bk) hP' ht hq TB.gP bP fun c' ctv h' tk hx hge hlt hrec htb => ?_
    obtain ⟨c2, oc, vs, t, e2, hoc, hd, hv⟩ := hrec
    cases e2
    have hsz : s.heap.objs.size ≤ h'.objs.size := Nat.le_trans hge (Nat.le_of_lt hlt)
    have nC : H c' = none := I.hok.fresh hge
    have nPc : P ≠ c' := ne_of_none hP nC
    have I1 := LamX.inv_table (t' := tk) (q := X.env.qual ++ "<lambda>") (more := #[rawInt pos.line, rawInt pos.col, .ref c']) (h' := h'.push (PySem.W.kla_obj "<lambda>" (X.env.qual ++ "<lambda>") params body scope (cloFrom X.env.cells scope.names []) ((X.mg "__name__").getD .none) c' ctv)) I hP
      (fun b o hb e => Heap.get?_push_of_some _ (hx b o hb e)) (Heap.get?_push_of_some _ htb) hge ⟨oc, vs, t, Heap.get?_push_of_some _ hoc, hd, hv⟩
    have kp : ∀ b u, b ≠ P → H b = some u → upd (upd H P (.tbl (ps ++ #[rawInt pos.line, rawInt pos.col, .ref c']))) c' (LamX.CodeO c' (X.env.qual ++ "<lambda>")) b = some u := fun b u n e => by
      rw [upd_ne (ne_of_none e nC), upd_ne n]
      exact e
    have eL : (ps ++ #[rawInt pos.line, rawInt pos.col, .ref c']).toList = ps.toList ++ [rawInt pos.line, rawInt pos.col, .ref c'] := by simp
    have nA : ¬ A c' := fun z => hA c' z nC
    refine h h'.objs.size c' _ ctv _ (.tbl (ps ++ #[rawInt pos.line, rawInt pos.col, .ref c'])) _ I1 kp (by rw [upd_ne nPc, upd_same]) ⟨_, rfl, by rw [eL]; exact PySem.TriplesOk_snoc _ _ _ _ ht, fun p' cv hcv => ?_⟩ hsz (Heap.get?_push_size _ rfl) ?_ nA upd_same
    · rw [eL] at hcv
      rcases LamX.among_app _ ht hcv with z | z
      · obtain ⟨a, e1, n1, e2⟩ := ha p' cv z
        refine ⟨a, e1, n1, kp a _ (fun zz => ?_) e2⟩
        rw [zz, hP] at e2
        exact absurd (Option.some.inj e2).symm (LamX.codeO_ne _)
      · exact ⟨c', z, nA, upd_same⟩
    · rw [upd_ne (Nat.ne_of_gt hlt), upd_ne (Nat.ne_of_gt (Nat.lt_of_lt_of_le (Heap.lt_size hP') hsz))]
      exact I.hok.fresh hsz
end
/-- what stands at some addresses, told -/
def trk (s : Shared) : Hp := fun b => (s.heap.get? b).map (atK b)
section
variable {c : PL.Ctx} {X : Cx} {S : AS} {Γ Γ' : Gam} {M M' : Cells} {σ σ' : L2.St} {H H' : Hp} {e : Expr} {es : List Expr} {pos p lpos : Pos} {Q : D → Cells → Prop} {x : Str}
/-- x(lambda ..: .., ..) -/
theorem we_callL {f0 cA Pt : Addr} {q : Str} {fd : FuncData} {ps : List Str} {k : Nat} {pf : PF} {params : Arguments} {body : Expr} {scope : Scope} {fr : List Str} {js : List Nat} {caps : List D} (F : Def c.P c.w c.K c.mg c.base x f0 fd ps k pf) (hk : k ≤ c.k) (hg : GlC c.sc x)
    (hlam : c.lam = some (cA, Pt, q)) (hM : (Pt, MO.tbl q) ∈ M) (hfr : ∀ y ∈ fr, c.sc.names.lookup y = some .cell ∧ c.own y = true) (hfree : ∀ y ∈ scope.names, y.2 = .free → y.1 ∈ fr) (hfr2 : ∀ y ∈ fr, (y, NameKind.free) ∈ scope.names)
    (hjs : js.map (fun j => c.N[j]?) = fr.map some) (hΓ : js.map (fun j => Γ[j]?) = caps.map fun d => some (some d))
    (h : WA c es Γ M fun ds M2 => NoFn M2 ∧ ∀ (f : Addr) (R : D → Cells → Prop) (Z : Addr → D → Cells → Prop), (∀ d M4, NoFn M4 → Q d M4 → R d ((f, .fn f ⟨q, params, body, scope, fr⟩ caps) :: M4)) → pf (.ptr f :: ds) ((f, .fn f ⟨q, params, body, scope, fr⟩ caps) :: M2) R Z)
    (hdef : ∀ env, defaultsOf params env = ([], []) := by intro _; rfl) (hdb : (x == ("__debug__" : Str)) = false := by decide)
    (he : ∀ env, starEach (.Lambda params body scope lpos :: es) env = (false, eval (.Lambda params body scope lpos) env) :: starEach es env := by intro _; rfl) (hpl : ∀ env, (backTo pos (starEach es env)).any (·.1) = false := by intro _; rfl) (hcm : c.calm = true := by first | rfl | assumption) :
    WE c (.Call (.Name x p) (.Lambda params body scope lpos :: es) [] pos) Γ M Q := .mk fun X S σ H at_ Q' hq => by
  have eP := at_.is.prog; have ew := at_.is.w; have eK := at_.is.K; have emg := at_.is.mg; have eb := at_.is.base
  intro pins s I
  obtain ⟨hcode, TB, eq⟩ := at_.is.lam _ _ _ hlam
  have hfree' : ∀ y ∈ scope.names, y.2 = .free → X.env.scope.names.lookup y.1 = some .cell ∨ X.env.scope.names.lookup y.1 = some .free := fun y hy e => .inl (by rw [at_.is.sc]; exact (hfr y.1 (hfree y hy e)).1)
  have hfreeC : ∀ y ∈ scope.names, y.2 = .free → ∃ c, X.env.cells.lookup y.1 = some c := fun y hy e => (hfree' y hy e).elim (fun z => I.ok.has _ (.inl z)) fun z => I.ok.has _ (.inr z)
  obtain ⟨oP, hP, cP⟩ := at_.core.cells _ hM
  have domP : Pt ∈ dom M := List.mem_map.mpr ⟨_, hM, rfl⟩
  refine wpAny_Call_Name_kw (ld_glob I (at_.is.gl hg) (at_.is.mgN F.mgx) ?_ hdb)
  refine PySem.W.callWith_K (h₀ := X.base) I.ok.mod.kin (by rw [eK]; exact F.kp) (spliced_more ?_ (he _)) (he _) (hpl _)
  refine lam_make3 (K := c.K) (A := av S M) I TB hcode hP (by rw [eq]; exact cP) (fun b z => ?_) (hdef _) hfreeC fun f c' pm ctv H1 o1 s1 I1 kp hP1 cP1 hf hobj hfn nc' hc' => ?_
  · rcases z with z | z
    · exact at_.core.known b z
    · obtain ⟨y, hy, e⟩ := List.mem_map.mp z
      rw [← e]
      exact (at_.core.cells y hy).ne
  rw [eq] at cP1 hobj hc'
  have kpd : ∀ b o, b ∉ dom M → H b = some o → H1 b = some o := fun b o n e => kp b o (fun z => n (z ▸ domP)) e
  have to1 : To (av S M) (av S M) H H1 := ⟨fun b o n e => kpd b o (fun z => n (.inr z)) e, fun b z => .inl z⟩
  have grow1 : ∀ b, H b ≠ none → H1 b ≠ none := fun b n => by
    by_cases z : b = Pt
    · rw [z, hP1]; exact fun q => by cases q
    · cases e : H b with
      | none => exact absurd e n
      | some o => rw [kp b o z e]; exact fun q => by cases q
  have cr1 : Core c.K S M H1 := by
    refine ⟨fun b z => grow1 b (at_.core.known b z), at_.core.nod, at_.core.dis, fun y hy => ?_⟩
    by_cases z : y.1 = Pt
    · have ey : y = (Pt, MO.tbl q) := dom_inj at_.core.nod hy hM z
      subst ey
      exact ⟨o1, hP1, cP1⟩
    · exact CellAt.to to1 (fun o e => kp y.1 o z e) (at_.core.cells y hy)
  have st1 : Step M M H H1 := ⟨kpd, grow1, fun b hb => .inl hb⟩
  have nL : f ≠ X.env.locals := fun z => by have := I.lt; rw [← z] at this; exact absurd (Nat.lt_of_lt_of_le this hf) (Nat.lt_irrefl _)
  have I1p : Inv X ((f, PySem.W.kla_obj "<lambda>" q params body scope (cloFrom X.env.cells scope.names []) pm c' ctv) :: pins) σ H1 s1 := I1.pins_of fun y hy => by
    rcases List.mem_cons.mp hy with rfl | hy
    · exact ⟨hobj, hfn, nL, I.nofs hf, fun v z => by cases z⟩
    · exact I1.pin y (List.mem_append_right _ hy)
  refine thn (h.run X S σ H1 (at_.step cr1 st1) (fun vs H2 => ∃ ds M2, Core c.K S M2 H2 ∧ Step M M2 H1 H2 ∧ Reps c.K (av S M2) H2 vs ds ∧ NoFn M2 ∧ ∀ (f : Addr) (R : D → Cells → Prop) (Z : Addr → D → Cells → Prop), (∀ d M4, NoFn M4 → Q d M4 → R d ((f, .fn f ⟨q, params, body, scope, fr⟩ caps) :: M4)) → pf (.ptr f :: ds) ((f, .fn f ⟨q, params, body, scope, fr⟩ caps) :: M2) R Z)
    (fun vs H2 ds M2 c2 s2 rs z => ⟨ds, M2, c2, s2, rs, z⟩) pos _ s1 I1p) fun us s2 ⟨vs, H2, I2p, rv, ds, M2, c2, st2, rs, nf, hpf⟩ => ?_
  have hobj2 := (I2p.pin _ (List.mem_append_right _ List.mem_cons_self)).1
  have hfn2 := (I2p.pin _ (List.mem_append_right _ List.mem_cons_self)).2.1
  have I2 : Inv X pins σ H2 s2 := I2p.pins_of fun y hy => I2p.pin y (List.mem_append_right _ (List.mem_cons_of_mem _ hy))
  refine ⟨I2.kIn, ?_⟩
  show wpAny _ _ (call (.ref f0) (.ref f :: us)) _ _ _
  -- what is captured
  obtain ⟨cl, ecl⟩ : ∃ cl, cl = cloFrom X.env.cells scope.names [] := ⟨_, rfl⟩
  have cps : NdefX.Caps X cl fr js := by rw [ecl]; exact NdefX.Caps.made I2.ok hfree' hfr2 (by rw [at_.is.N]; exact hjs)
  have C2 := NdefX.cells_of I2 cps
  have clsub : ∀ y a, cl.lookup y = some a → y ∈ fr := fun y a e => by
    rw [ecl] at e
    rcases cloFrom_mem (PySem.mem_of_lookup e) with z | ⟨z, _⟩
    · cases z
    · exact hfree _ z rfl
  rw [← ecl] at hobj2
  have capc : ∀ b, dlOf f cl fr b = true → b = f ∨ (X.s_0.heap.objs.size ≤ b ∧ b ≠ X.env.locals ∧ H2 b = none ∧ ∃ v, s2.heap.IsCell b v) := fun b hb => by
    rcases dlOf_iff.mp hb with z | ⟨y, hy, e⟩
    · exact .inl z
    · have ex := cps.sub y b e
      obtain ⟨n, v, hv⟩ := C2.all y b e
      exact .inr ⟨I2.ok.cab y b (at_.is.fn y (hfr y hy).1 (hfr y hy).2) ex, I2.cne y b ex, n, v, hv⟩
  have none2 : ∀ b, dlOf f cl fr b = true → H2 b = none := fun b hb => (capc b hb).elim (fun z => z ▸ hfn2) fun z => z.2.2.1
  have get2 : ∀ b, dlOf f cl fr b = true → ∃ ob, s2.heap.get? b = some ob ∧ ((∃ g, ob.data = .func g) ∨ ∃ v, ob.data = .cell v) := fun b hb => by
    rcases capc b hb with z | ⟨_, _, _, v, ob, g1, g2⟩
    · exact ⟨_, z ▸ hobj2, .inl ⟨_, rfl⟩⟩
    · exact ⟨ob, g1, .inr ⟨v, g2⟩⟩
  have dlf : dlOf f cl fr f = true := dlOf_iff.mpr (.inl rfl)
  have e3 : ∀ {b ob}, dlOf f cl fr b = true → s2.heap.get? b = some ob → PL.back H2 (trk s2) (dlOf f cl fr) b = some (atK b ob) := fun {b ob} hb g => by
    rw [back_t hb]
    unfold trk
    rw [g]
    rfl
  have hok3 : HOk X.prog X.w (PL.back H2 (trk s2) (dlOf f cl fr)) s2.heap := HOk.back I2.hok none2 fun b o hb e => by
    obtain ⟨ob, g, _⟩ := get2 b hb
    unfold trk at e
    rw [g] at e
    exact ⟨ob, (Option.some.inj e).symm, g⟩
  have notFr : ∀ b, dlOf f cl fr b = true → b ∉ frs X.stack := fun b hb hm => by
    rcases capc b hb with z | ⟨z1, z2, _⟩
    · subst z
      rcases List.mem_cons.mp (I2.stkSub b hm) with z | z
      · exact nL z
      · exact I.nofs hf z
    · rcases List.mem_cons.mp (I2.stkSub b hm) with z | z
      · exact z2 z
      · obtain ⟨_, o, ho, _⟩ := I2.ok.funs.mem z
        exact absurd (Nat.lt_of_lt_of_le (Heap.lt_size ho) z1) (Nat.lt_irrefl _)
  have e0 : Env0 X.prog X.w X.K X.mg X.base X.A X.stack s2 (PL.back H2 (trk s2) (dlOf f cl fr)) := by
    have e := I2.env0
    refine ⟨e.frames, e.mod, fun b o eb => ⟨(e.bs b o eb).1, ?_⟩, e.bsz, e.funs, fun b hb => ?_, hok3, e.bare⟩
    · cases z : dlOf f cl fr b with
      | false => rw [back_f z]; exact (e.bs b o eb).2
      | true =>
        rcases capc b z with z | ⟨z1, _⟩
        · subst z
          exact absurd (Nat.lt_of_lt_of_le (Heap.lt_size (I.bs b o eb).1) hf) (Nat.lt_irrefl _)
        · exact absurd (Nat.lt_of_lt_of_le (Heap.lt_size eb) (Nat.le_trans I2.ok.bsz z1)) (Nat.lt_irrefl _)
    · cases z : dlOf f cl fr b with
      | false => rw [back_f z]; exact e.frf b hb
      | true => exact absurd hb (notFr b z)
  have keep3 : ∀ b o, H2 b = some o → PL.back H2 (trk s2) (dlOf f cl fr) b = some o := fun b o e => by
    cases z : dlOf f cl fr b with
    | false => rw [back_f z]; exact e
    | true => rw [none2 b z] at e; cases e
  have to3 : To (av S M2) (av S ((f, .fn f ⟨q, params, body, scope, fr⟩ caps) :: M2)) H2 (PL.back H2 (trk s2) (dlOf f cl fr)) := ⟨fun b o _ e => keep3 b o e, fun b z => by
    rcases z with z | z
    · exact .inl (.inl z)
    · rcases List.mem_cons.mp z with z | z
      · rw [z]; exact .inr hfn2
      · exact .inl (.inr z)⟩
  have m2no : ∀ b ∈ dom M2, dlOf f cl fr b = false := fun b hb => by
    cases z : dlOf f cl fr b with
    | false => rfl
    | true =>
      obtain ⟨y, hy, ey⟩ := List.mem_map.mp hb
      have w := (c2.cells y hy).ne
      rw [ey] at w
      exact absurd (none2 b z) w
  have sno : ∀ b, S b → dlOf f cl fr b = false := fun b hb => by
    cases z : dlOf f cl fr b with
    | false => rfl
    | true => exact absurd (none2 b z) (c2.known b hb)
  have fm2 : f ∉ dom M2 := fun z => by have w := m2no f z; rw [dlf] at w; cases w
  have fS : ¬ S f := fun z => by have w := sno f z; rw [dlf] at w; cases w
  have code2 := st2.to.ins nc' hc'
  have code3 := to3.ins code2.1 code2.2
  have sl2 := at_.slots.to (st1.trans st2).to
  have lenc : caps.length = fr.length := by
    have a := congrArg List.length hjs
    have b := congrArg List.length hΓ
    simp only [List.length_map] at a b
    omega
  have caps3 : CapsT c.K (av S ((f, .fn f ⟨q, params, body, scope, fr⟩ caps) :: M2)) (PL.back H2 (trk s2) (dlOf f cl fr)) cl fr caps := by
    have nav : ∀ b, b ≠ f → dlOf f cl fr b = true → ¬ av S ((f, MO.fn f ⟨q, params, body, scope, fr⟩ caps) :: M2) b := fun b n hb z => by
      rcases z with z | z
      · rw [sno b z] at hb; cases hb
      · rcases List.mem_cons.mp z with z | z
        · exact n z
        · rw [m2no b z] at hb; cases hb
    have cellne : ∀ {b v}, s2.heap.IsCell b v → b ≠ f := fun {b v} ⟨o, g, d⟩ z => by rw [z, hobj2] at g; cases g; cases d
    refine ⟨lenc, C2.inj, clsub, fun y a e => ?_, fun i y d h1 h2 => ?_⟩
    · have hb : dlOf f cl fr a = true := dlOf_iff.mpr (.inr ⟨y, clsub y a e, e⟩)
      obtain ⟨_, v, ob, g, dt⟩ := C2.all y a e
      exact ⟨nav a (cellne ⟨ob, g, dt⟩) hb, ob, e3 hb g, v, dt⟩
    · obtain ⟨a, e, hv⟩ := C2.has i y h1
      have hb : dlOf f cl fr a = true := dlOf_iff.mpr (.inr ⟨y, clsub y a e, e⟩)
      have hj : i < js.length := by
        have a1 := congrArg List.length hjs
        simp only [List.length_map] at a1
        have := (List.getElem?_eq_some_iff.mp h1).1
        omega
      have hg : Γ[js[i]]? = some (some d) := by
        have z := congrArg (fun l => l[i]?) hΓ
        simp only [List.getElem?_map, List.getElem?_eq_getElem hj, h2, Option.map_some] at z
        exact Option.some.inj z
      obtain ⟨v, hs, r⟩ := sl2.at_ _ _ hg
      have hw : (js.map (NdefX.slotAt σ))[i]? = some (some v) := by
        rw [List.getElem?_map, List.getElem?_eq_getElem hj, Option.map_some, NdefX.slotAt_of hs]
      obtain ⟨u, ru, ob, g, dt⟩ := hv v hw
      exact ⟨a, ob, u, v, e, e3 hb g, dt, ru, r.to to3⟩
  have cr3 : Core c.K S ((f, .fn f ⟨q, params, body, scope, fr⟩ caps) :: M2) (PL.back H2 (trk s2) (dlOf f cl fr)) := by
    refine ⟨fun b z => by rw [back_f (sno b z)]; exact c2.known b z, List.nodup_cons.mpr ⟨fm2, c2.nod⟩, fun a ha z => ?_, fun y hy => ?_⟩
    · rcases List.mem_cons.mp ha with ha | ha
      · have ha : a = f := ha
        exact fS (ha ▸ z)
      · exact c2.dis a ha z
    · rcases List.mem_cons.mp hy with rfl | hy
      · exact ⟨_, e3 dlf hobj2, pm, ctv, c', cl, rfl, code3.1, code3.2, caps3⟩
      · exact CellAt.to to3 (fun o e => keep3 _ o e) (c2.cells y hy)
  have hb0 := F.binds
  rw [← eK] at hb0
  have lsp : liftF X.K pf (.ref f :: vs) (PL.back H2 (trk s2) (dlOf f cl fr)) (fun v H' => ∃ d M4, Core c.K S ((f, .fn f ⟨q, params, body, scope, fr⟩ caps) :: M4) H' ∧ Step ((f, .fn f ⟨q, params, body, scope, fr⟩ caps) :: M2) ((f, .fn f ⟨q, params, body, scope, fr⟩ caps) :: M4) (PL.back H2 (trk s2) (dlOf f cl fr)) H' ∧ Rep c.K (av S ((f, .fn f ⟨q, params, body, scope, fr⟩ caps) :: M4)) H' v d ∧ NoFn M4 ∧ Q d M4) (fun _ _ _ => False) := by
    rw [eK]
    refine ⟨S, _, .ptr f :: ds, cr3, .cons .ptr (rs.to to3), hpf f _ _ fun d M4 n4 q4 v H' c4 s4 r4 => ⟨d, M4, c4, s4, r4, n4, q4⟩⟩
  have hlen := F.ok.len _ _ _ _ (by rw [← eK]; exact lsp)
  have bnd := hb0 s2 (.ref f :: us) I2.kIn (by rw [List.append_nil, List.length_cons, ← rv.length]; exact hlen)
  rw [List.append_nil] at bnd
  have G : FnOk X.prog X.w X.K X.mg X.base (L2.CX X.prog X.w) k f0 fd ps (liftF X.K pf) := by rw [eP, ew, eK, emg, eb]; exact F.ok
  refine wpAny_call (codeAny_mono (G.run X.A X.stack s2 _ ⟨.ref f :: us, []⟩ (.ref f :: us) (.ref f :: vs) _ _ ((at_.is.room hcm).mono hk) e0 bnd (.cons rfl rv) lsp) fun r s' hq' => ?_)
  cases r with
  | error e' =>
    obtain ⟨_, _, _, _, _, _, _, _, _, _, _, _, z⟩ := hq'
    exact z.elim
  | ok fl =>
    cases fl with
    | next => exact False.elim hq'
    | brk => exact False.elim hq'
    | cont => exact False.elim hq'
    | ret u' =>
      obtain ⟨v, H', os, bare, un, hok', rv', d, M4, c4, s4, r4, nf4, q4⟩ := hq'
      have fM4 : f ∉ dom M4 := (List.nodup_cons.mp (show (f :: dom M4).Nodup from c4.nod)).1
      -- what stands at these places now
      have at4 : ∀ b, dlOf f cl fr b = true → ∃ ob, H' b = some (atK b ob) ∧ s'.heap.get? b = some ob ∧ ((∃ g, ob.data = .func g) ∨ ∃ v, ob.data = .cell v) ∧ (b ≠ f → s2.heap.get? b = some ob) := fun b hb => by
        by_cases z : b = f
        · subst z
          obtain ⟨o, ho, pm', ctv', c'', cl', eo, _⟩ := c4.cells _ List.mem_cons_self
          subst eo
          exact ⟨_, ho, atK_at hok' ho, .inl ⟨_, rfl⟩, fun n => absurd rfl n⟩
        · obtain ⟨ob, g, w⟩ := get2 b hb
          have nd : b ∉ dom ((f, MO.fn f ⟨q, params, body, scope, fr⟩ caps) :: M2) := fun y => by
            rcases List.mem_cons.mp y with y | y
            · exact z y
            · have k := m2no b y
              rw [hb] at k
              cases k
          have e := s4.keep b _ nd (e3 hb g)
          exact ⟨ob, e, atK_at hok' e, w, fun _ => g⟩
      have ha : Ats H' (dlOf f cl fr) := fun b u hb e => by
        obtain ⟨ob, e2, _⟩ := at4 b hb
        rw [e2] at e
        cases e
        exact ⟨ob, rfl⟩
      have fc : Fc s'.heap (dlOf f cl fr) := fun b ob hb e => by
        obtain ⟨ob2, _, g, w, _⟩ := at4 b hb
        rw [g] at e
        cases e
        exact w
      have nrm : ∀ b o, H2 b = some o → dlOf f cl fr b = false := fun b o e => by
        cases z : dlOf f cl fr b with
        | false => rfl
        | true => rw [none2 b z] at e; cases e
      have un4 : Un (frs X.stack) [f] H2 (PL.hide H' (dlOf f cl fr)) s2.heap s'.heap := by
        refine ⟨fun b o e n nb nc => ?_, fun b o e n nb nc => ?_, fun b o e n nc => ?_, fun b o e nc => un.there b o e (by simp), fun b xs e => ?_, fun b o u e => ?_, fun b ps e => ?_⟩
        · cases z : dlOf f cl fr b with
          | false => exact un.keep b o e (by rw [back_f z]; exact n) nb (by simp)
          | true =>
            obtain ⟨ob, _, g, _, w⟩ := at4 b z
            have g2 := w (fun y => nc (by rw [y]; exact List.mem_cons_self))
            rw [e] at g2
            cases g2
            exact g
        · cases z : dlOf f cl fr b with
          | false => exact un.slot b o e (by rw [back_f z]; exact n) nb (by simp)
          | true => exact absurd nb (notFr b z)
        · cases z : dlOf f cl fr b with
          | false => rw [hide_f z]; exact un.free b o e (by rw [back_f z]; exact n) (by simp)
          | true => exact hide_t z
        · rw [hide_f (nrm b _ e)]
          exact un.tups b xs (keep3 b _ e)
        · rw [hide_f (nrm b _ e)]
          exact un.frzs b o u (keep3 b _ e)
        · rw [hide_f (nrm b _ e)]
          exact un.tbls b ps (keep3 b _ e)
      have fsz : ∀ {b o}, s.heap.get? b = some o → b ≠ f := fun {b o} e z => absurd (Nat.lt_of_lt_of_le (Heap.lt_size e) (z ▸ hf)) (Nat.lt_irrefl _)
      have IF : Inv X pins σ (PL.hide H' (dlOf f cl fr)) s' := by
        obtain ⟨hh, g, dr, t, os'⟩ := s'
        obtain rfl : os' = s2.os := os
        refine I2.call (h' := hh) (g' := g) (d' := dr) (t' := t) (ch := [f]) un4 (HOk.hide hok' ha) bare fun b hb => ?_
        have eb : b = f := by simpa using hb
        subst eb
        refine ⟨.inr (Nat.le_trans I.sz hf), nL, fun y a ea => ?_, fun y hy => ?_⟩
        · obtain ⟨v, o, ho, _⟩ := I.cell y a ea
          exact fsz ho
        · exact fsz (I.pin y hy).1
      have m4no : ∀ y ∈ M4, dlOf f cl fr y.1 = false := fun y hy => by
        cases z : dlOf f cl fr y.1 with
        | false => rfl
        | true =>
          exfalso
          obtain ⟨ob, e, _⟩ := at4 y.1 z
          obtain ⟨o, ho, co⟩ := c4.cells y (List.mem_cons_of_mem _ hy)
          rw [e] at ho
          cases ho
          cases hm : y.2 with
          | lst ds => rw [hm] at co; obtain ⟨_, w, _⟩ := co; unfold atK at w; cases w
          | dK ds => rw [hm] at co; obtain ⟨_, w, _⟩ := co; unfold atK at w; cases w
          | ins C ds => rw [hm] at co; obtain ⟨_, _, w, _⟩ := co; unfold atK at w; cases w
          | tbl q => rw [hm] at co; obtain ⟨_, w, _⟩ := co; unfold atK at w; cases w
          | fn g L ds => exact nf4 y hy g L ds hm
      have bar : Bar (dlOf f cl fr) (av S ((f, .fn f ⟨q, params, body, scope, fr⟩ caps) :: M4)) (av S M4) H' (PL.hide H' (dlOf f cl fr)) := ⟨fun b o w _ e => by rw [hide_f w]; exact e, fun b z => .inl (z.imp id (List.mem_cons_of_mem _))⟩
      have crF : Core c.K S M4 (PL.hide H' (dlOf f cl fr)) := by
        refine ⟨fun b z => by rw [hide_f (sno b z)]; exact c4.known b z, (List.nodup_cons.mp (show (f :: dom M4).Nodup from c4.nod)).2, fun a ha z => c4.dis a (List.mem_cons_of_mem _ ha) z, fun y hy => ?_⟩
        obtain ⟨o, e1, e2⟩ := c4.cells y (List.mem_cons_of_mem _ hy)
        exact ⟨o, by rw [hide_f (m4no y hy)]; exact e1, bar.cell hok' fc (nf4 y hy) e2⟩
      have st4 : Step M2 M4 H2 (PL.hide H' (dlOf f cl fr)) := by
        refine ⟨fun b o n e => ?_, fun b n => ?_, fun b hb => ?_⟩
        · rw [hide_f (nrm b o e)]
          exact s4.keep b o (fun z => by
            rcases List.mem_cons.mp z with z | z
            · have z : b = f := z
              rw [z, hfn2] at e; cases e
            · exact n z) (keep3 b o e)
        · cases e : H2 b with
          | none => exact absurd e n
          | some o =>
            rw [hide_f (nrm b o e)]
            exact s4.grow b (by rw [keep3 b o e]; exact fun z => by cases z)
        · rcases s4.fresh b (List.mem_cons_of_mem _ hb) with z | z
          · rcases List.mem_cons.mp z with z | z
            · have z : b = f := z
              exact absurd (z ▸ hb) fM4
            · exact .inl z
          · refine .inr ?_
            cases e : H2 b with
            | none => rfl
            | some o => rw [keep3 b o e] at z; cases z
      exact ⟨v, _, IF, rv', hq v _ d M4 crF ((st1.trans st2).trans st4) (bar.rep hok' fc r4) q4⟩
end
end PL
/-! set comprehensions over any kind of keys; sorted({.. for ..}) -/
namespace PL
open PySem PySem.Spec PyProof.Rows L2
open PpSet (newSet_ok eval_SetComp compLoopS_any codeAny_compStart_set)
/-- a kind of keys: κ their data, T what is known of an element (its place, its key) -/
structure GrowK (P : Program) (w : World) (K : PySem.W.Frag) (κ T : Type) where
  ob : Addr → List T → HO
  vr : T → V
  key : T → κ
  kd : κ → D
  ft : Hp → T → Prop
  srt : List κ → Prop
  isS : List κ → List κ → Prop
  rep0 : ∀ {A : AS} {H : Hp} {v : V} {k : κ}, Rep K A H v (kd k) → ∃ z, v = vr z ∧ key z = k
  rep1 : ∀ {A : AS} {H : Hp} {z : T}, Rep K A H (vr z) (kd (key z)) → ft H z
  new : ∀ {H : Hp} {h : Heap} {a : Addr}, h.get? a = some (setNew w) → ObjOk P w H h a (ob a [])
  add : ∀ (X : Cx), X.prog = P → X.w = w → X.K = K → X.A.units + 64 < cLine → ∀ {pins : List (Addr × Obj)} {σ : L2.St} {H : Hp} {s : Shared} {E : Value → Shared → Prop} {a : Addr} {acc : List T} {z : T} {u : Value} {Q : Value → Shared → Prop}, Inv X pins σ H s → H a = some (ob a acc) → acc.length < 60 →
    ft H z → (∀ y ∈ acc, ft H y) → RelV (vr z) u → (∀ s' : Shared, Inv X pins σ (upd H a (ob a (acc ++ [z]))) s' → Q .none s') → wpAny (model X.prog X.w) X.A (call (.builtin "set.add") [.ref a, u]) Q E s
  sorted : ∀ (X : Cx), X.prog = P → X.w = w → X.K = K → X.A.units + 64 < cLine → X.calm = true → ∀ {pins : List (Addr × Obj)} {σ : L2.St} {H : Hp} {s : Shared} {E : Value → Shared → Prop} {a : Addr} {acc : List T} {Q : Value → Shared → Prop}, Inv X pins σ H s → H a = some (ob a acc) → acc.length ≤ 60 →
    (∀ y ∈ acc, ft H y) → srt (acc.map key) → (∀ (L : List T) (p : Addr) (s' : Shared), isS (acc.map key) (L.map key) → (∀ z ∈ L, z ∈ acc) → H p = none → Inv X pins σ (upd H p (.lst (L.map vr))) s' → Q (.ref p) s') → wpAny (model X.prog X.w) X.A (call (.builtin "sorted") [.ref a]) Q E s
section
variable {P : Program} {w : World} {K : PySem.W.Frag} {κ T : Type} {X : Cx}
/-- {elt for tg in iter if ..} of such keys -/
def tGrow (G : GrowK P w K κ T) (wi : TI) (g : TG) (tt : TT) (te : TE) (vs : List Nat) : TE := fun σ H Q => wi σ H fun J Hi => ∀ a, Hi a = none → ∃ W : Nat → Nat → Hp → Prop, (∃ m, W 0 m (upd Hi a (G.ob a []))) ∧ ∀ i m H, W i m H →
  (J.stop i H ∧ Q (.ref a) H) ∨ (J.go i H ∧ ∃ Nx : Hp → Prop, (∀ H', Nx H' → ∃ m', m' < m ∧ W (i + 1) m' H') ∧ ∀ x H', J.yld i H x H' → g x (wipe σ vs) H' fun σ2 H2 => wipe σ2 vs = wipe σ vs ∧ tt σ2 H2 fun b H3 =>
    if b = true then te σ2 H3 fun y H4 => ∃ (z : T) (acc : List T), y = G.vr z ∧ H4 a = some (G.ob a acc) ∧ acc.length < 60 ∧ G.ft H4 z ∧ (∀ q ∈ acc, G.ft H4 q) ∧ Nx (upd H4 a (G.ob a (acc ++ [z]))) else Nx H3)
theorem grow_core {G : GrowK P w K κ T} (eP : X.prog = P) (ew : X.w = w) (eK : X.K = K) (hu : X.A.units + 64 < cLine) {pins : List (Addr × Obj)} {s : Shared} {σ : L2.St} {H : Hp} {Q : VK} {elt tg iter : Expr} {ifs : List Expr} {scope : Scope} {own : List (PySem.Str × Nat)} {pos qos : Pos} {wi : TI} {g : TG} {tt : TT} {te : TE} {Qf : Value → Shared → Prop}
    (calm : X.calm = true) (nod : X.N.Nodup) (I : Inv X pins σ H s) (pi : PI X tg iter wi) (blk : BlkOk X.N X.env.scope scope own)
    (pgs : ∀ s0 H0 C cl fp, PG (X.blk s0 H0 scope (compEnvC scope cl C X.env) fp) tg g) (pts : ∀ s0 H0 C cl fp, PTs (X.blk s0 H0 scope (compEnvC scope cl C X.env) fp) ifs tt)
    (pes : ∀ s0 H0 C cl fp, PE (X.blk s0 H0 scope (compEnvC scope cl C X.env) fp) elt te) (folded : ∀ x, foldedSetIterable iter X.env x = pure x)
    (h : tGrow G wi g tt te (own.map (·.2)) σ H Q)
    (after : ∀ a C s' m H', Inv X pins σ H' s' → Q (.ref a) H' → s'.heap.Ns C m → FpOk X pins H' C → compPost (model X.prog X.w) X.A X.xe none Qf (.ref a) C (.ok .next) s') :
    wpAny (model X.prog X.w) X.A (comprehension (.SetComp elt [⟨tg, iter, ifs, 0⟩] scope pos) scope X.env qos (newSet (.type "set")) false (eval iter X.env) none) Qf X.xe s := by
  have captured : ∀ y ∈ scope.names, y.2 = .free → ∃ c, X.env.cells.lookup y.1 = some c := fun y hy e => (blk.free y hy e).elim (fun k => I.ok.has _ (.inl k)) fun k => I.ok.has _ (.inr k)
  refine wpAny_comprehension_free (use := none) rfl folded (closure_ok captured) blk.kind (fun y hy e => by rw [blk.uniq y hy, e])
    (thn (pi.run pins s σ H _ I h) fun xv s1 q1 => thn q1 fun itv s2 q2 => ?_)
  obtain ⟨it, fp, tn, J, H2, e, I2, WT, b0, free2, q⟩ := q2
  subst e
  refine newSet_ok (newEnv_comp ?_)
  generalize ea : s2.heap.objs.size = a
  obtain ⟨W, ⟨m0, w0⟩, turn⟩ := q a (I2.hok.fresh (Nat.le_of_eq ea))
  -- the set, still empty
  generalize es3 : ({ s2 with heap := s2.heap.push (setNew X.w) } : Shared) = s3
  have hp3 : s3.heap = s2.heap.push (setNew X.w) := by rw [← es3]
  have at3 : s3.heap.get? a = some (setNew X.w) := by rw [hp3, ← ea]; exact Heap.get?_push_size _ rfl
  have I3 : Inv X pins σ (upd H2 a (G.ob a [])) s3 := by
    have nw : ObjOk X.prog X.w (upd H2 a (G.ob a [])) s3.heap a (G.ob a []) := by
      subst eP ew
      exact G.new at3
    rw [← es3] at nw ⊢
    exact I2.laid (t' := s2.toks) (fun b o e => Heap.get?_push_of_some _ e) (Nat.le_of_eq ea) nw
  have old : ∀ b ∈ fp, b < s2.heap.objs.size := fun b hb => by
    obtain ⟨o, e, _⟩ := WT.obj _ _ b0 b hb
    exact Heap.lt_size e
  have free3 : ∀ b ∈ fp, FpOk X pins (upd H2 a (G.ob a [])) b ∧ b < s3.heap.objs.size := fun b hb => by
    have lt := old b hb
    refine ⟨⟨?_, (free2 b hb).2⟩, by rw [hp3, Heap.size_push]; exact Nat.lt_succ_of_lt lt⟩
    rw [upd_ne (by rw [← ea]; exact Nat.ne_of_lt lt)]
    exact (free2 b hb).1
  have b3 : tn 0 s3.heap := WT.keep _ _ _ b0 fun b _ o e => by rw [hp3]; exact Heap.get?_push_of_some _ e
  have I4 := block_start I3 blk nod free3
  obtain ⟨cls, ecl⟩ : ∃ cls, cls = cellsFrom (s3.heap.objs.size + 1) scope.names (cloFrom X.env.cells scope.names []) := ⟨_, rfl⟩
  have pg := pgs s3 (upd H2 a (G.ob a [])) s3.heap.objs.size cls fp
  have pt := pts s3 (upd H2 a (G.ob a [])) s3.heap.objs.size cls fp
  have pe := pes s3 (upd H2 a (G.ob a [])) s3.heap.objs.size cls fp
  rw [← ecl] at I4
  have goal0 : codeAny (model X.prog X.w) X.A (.compStart (.SetComp elt [⟨tg, iter, ifs, 0⟩] scope pos) 0 (.ref it) (.ref a) (compEnvC scope cls s3.heap.objs.size X.env)) (compPost (model X.prog X.w) X.A X.xe none Qf (.ref a) s3.heap.objs.size) { s3 with heap := pushCells (s3.heap.push { cls := .type "dict", data := .dict #[] }) scope.names } → codeAny (model X.prog X.w) X.A (.compStart (.SetComp elt [⟨tg, iter, ifs, 0⟩] scope pos) 0 (.ref it) (.ref a) (compEnvC scope (cellsFrom (s3.heap.objs.size + 1) scope.names (cloFrom X.env.cells scope.names [])) s3.heap.objs.size X.env)) (compPost (model X.prog X.w) X.A X.xe none Qf (.ref a) s3.heap.objs.size) { s3 with heap := pushCells (s3.heap.push { cls := .type "dict", data := .dict #[] }) scope.names } := fun z => by rw [← ecl]; exact z
  have blank : ∀ b ∈ fp, (upd H2 a (G.ob a [])) b = none := fun b hb => (free3 b hb).1.1
  subst es3
  refine goal0 ?_
  generalize es3 : ({ s2 with heap := s2.heap.push (setNew X.w) } : Shared) = s3 at I3 I4 pg pt pe free3 b3 hp3
  generalize ece : compEnvC scope cls s3.heap.objs.size X.env = ce at I4 pg pt pe ⊢
  have ecl2 : ce.locals = s3.heap.objs.size := by subst ece; rfl
  generalize eH3 : upd H2 a (G.ob a []) = H3 at I3 I4 pg pt pe w0 blank free3
  generalize es4 : ({ s3 with heap := pushCells (s3.heap.push { cls := .type "dict", data := .dict #[] }) scope.names } : Shared) = s4 at I4 ⊢
  have b4 : tn 0 s4.heap := WT.keep _ _ _ b3 fun b _ o e => by rw [← es4]; exact pushCells_keeps _ _ _ _ (Heap.get?_push_of_some _ e)
  let Y : Cx := X.blk s3 H3 scope ce fp
  have own_fp : ∀ {σ' H' s'}, Inv Y [] σ' H' s' → (∀ b ∈ fp, H' b = none) → ∀ b ∈ fp, FpOk Y [] H' b := fun {σ' H' s'} I' n b hb =>
    ⟨n b hb, (I'.ok.exf b hb).1, I'.ok.exfs b hb, .inl hb, fun x c e => (I'.ok.exf b hb).2 x c e, fun p hp => absurd (show p ∈ ([] : List (Addr × Obj)) ++ [] from hp) (by simp)⟩
  let Z : Nat → Shared → Prop := fun n s' => ∃ i H', Inv Y [] (wipe σ (own.map (·.2))) H' s' ∧ tn i s'.heap ∧ (∀ b ∈ fp, H' b = none) ∧ W i n H'
  have loop : codeAny (model X.prog X.w) X.A (.compLoop (.SetComp elt [⟨tg, iter, ifs, 0⟩] scope pos) 0 (.ref it) (.ref a) ce) (compPost (model X.prog X.w) X.A X.xe none Qf (.ref a) s3.heap.objs.size) s4 := by
    refine compLoopS_any Z ?_ m0 ⟨0, H3, I4, b4, blank, w0⟩
    rintro n s5 ⟨i, H5, I5, b5, n5, w5⟩
    rcases turn i n H5 w5 with ⟨stop, qq⟩ | ⟨go, Nx, next, step⟩
    · refine thnF (WT.done Y rfl rfl rfl calm i [] s5 _ H5 (fun _ _ => False) I5 (own_fp I5 n5) b5 stop) fun r s6 ⟨hr, I6⟩ => ?_
      subst hr
      have I7 : Inv X pins σ H5 s6 := I3.call' (ch := fp) I6.os I6.base I6.hok I6.bare fun b hb => let z := (free3 b hb).1; ⟨z.2.2.2.1, z.2.1, z.2.2.2.2.1, z.2.2.2.2.2⟩
      have gone : H5 s3.heap.objs.size = none := ecl2 ▸ (show H5 ce.locals = none from I6.free)
      obtain ⟨m, ns, _⟩ := I6.loc
      exact after a s3.heap.objs.size s6 m H5 I7 qq (ecl2 ▸ (show s6.heap.Ns ce.locals m from ns)) (I3.fpOk (Nat.le_refl _) gone)
    · refine thnF (WT.item Y rfl rfl rfl calm i [] s5 _ H5 (fun _ _ => False) I5 (own_fp I5 n5) b5 go) fun r s6 ⟨u, hr, q6⟩ => ?_
      subst hr
      refine thnF q6 fun _ s7 ⟨x, H7, I7, r7, y7, b7, n7⟩ => ?_
      have J7 := I7.pinned (own_fp I7 n7) (WT.obj _ _ b7)
      refine thnF (pg.run _ s7 _ H7 x u _ J7 r7 (step x H7 y7)) fun _ s8 ⟨σ8, H8, I8, ew8, q8⟩ => ?_
      refine thnF (pt.run _ s8 σ8 H8 _ I8 q8) fun b s9 ⟨H9, I9, q9⟩ => ?_
      have fin : ∀ {s' H'}, Inv Y ([] ++ pinsAt fp s7.heap) σ8 H' s' → Nx H' → ∃ m, m < n ∧ Z m s' := fun {s' H'} I' nx => by
        obtain ⟨m', lt, w'⟩ := next H' nx
        have pins7 : ∀ b ∈ fp, ∀ o, s7.heap.get? b = some o → s'.heap.get? b = some o ∧ H' b = none := fun b hb o e =>
          have z := I'.pin (b, o) (List.mem_append_right _ (List.mem_append_right _ (mem_pinsAt hb e)))
          ⟨z.1, z.2.1⟩
        refine ⟨m', lt, i + 1, H', (I'.unpinned (pins := [])).weak (by rw [← ew8, wipe_length]) (fun j v e => ?_), WT.keep _ _ _ b7 fun b hb o e => (pins7 b hb o e).1, fun b hb => ?_, w'⟩
        · exact (wipe_some (ew8 ▸ e)).1
        · obtain ⟨o, e, _⟩ := WT.obj _ _ b7 b hb
          exact (pins7 b hb o e).2
      cases b with
      | false =>
        simp only [Bool.false_eq_true, if_false] at q9 ⊢
        exact fin I9 q9
      | true =>
        simp only [if_true] at q9 ⊢
        refine thnF (pe.run _ s9 σ8 H9 _ I9 q9) fun zv s10 ⟨yv, H10, I10, r10, z, acc, ey, ha, few, fz, facc, nx⟩ => ?_
        subst ey
        exact G.add Y eP ew eK hu I10 ha few fz facc r10 fun s11 I11 => fin I11 nx
  exact codeAny_compStart_set loop (WT.self X.A 0 _ _ _ b4 loop)
/-- sorted({..}) -/
theorem pe_sortGrow {G : GrowK P w K κ T} (eP : X.prog = P) (ew : X.w = w) (eK : X.K = K) (hu : X.A.units + 64 < cLine) {elt tg iter : Expr} {ifs : List Expr} {scope : Scope} {own : List (PySem.Str × Nat)} {pos p q : Pos} {wi : TI} {g : TG} {tt : TT} {te : TE}
    (calm : X.calm = true) (hg : Gl X "sorted") (hm : X.mg "sorted" = none) (nod : X.N.Nodup) (pi : PI X tg iter wi) (blk : BlkOk X.N X.env.scope scope own)
    (pgs : ∀ s0 H0 C cl fp, PG (X.blk s0 H0 scope (compEnvC scope cl C X.env) fp) tg g) (pts : ∀ s0 H0 C cl fp, PTs (X.blk s0 H0 scope (compEnvC scope cl C X.env) fp) ifs tt)
    (pes : ∀ s0 H0 C cl fp, PE (X.blk s0 H0 scope (compEnvC scope cl C X.env) fp) elt te) (folded : ∀ x, foldedSetIterable iter X.env x = pure x) :
    PE X (.Call (.Name "sorted" p) [.SetComp elt [⟨tg, iter, ifs, 0⟩] scope q] [] pos) (fun σ H Q => tGrow G wi g tt te (own.map (·.2)) σ H fun v H2 => ∃ (a : Addr) (acc : List T), v = .ref a ∧ H2 a = some (G.ob a acc) ∧ acc.length ≤ 60 ∧ (∀ y ∈ acc, G.ft H2 y) ∧ G.srt (acc.map G.key) ∧
      ∀ (L : List T) (b : Addr), G.isS (acc.map G.key) (L.map G.key) → (∀ z ∈ L, z ∈ acc) → H2 b = none → Q (.ref b) (upd H2 b (.lst (L.map G.vr)))) := by
  refine ⟨fun pins s σ H Q I h => ?_⟩
  refine Call_ (ld_blt I hg hm PyProof.Rows.boot_sorted ?_)
  refine PyProof.Rows.callWith_builtin1 (PyProof.Rows.args_cons ?_ rfl) rfl rfl
  rw [eval_SetComp]
  refine grow_core eP ew eK hu calm nod I pi blk pgs pts pes folded h fun a C s' m H' I' hq hn f => ⟨m, hn, fun h2 sb => ?_⟩
  obtain ⟨f0, f1, f2, f3, f4, f5⟩ := f
  refine PyProof.Rows.args_nil ?_
  have I2 := I'.turned (t' := s'.toks) (fun b o hb e => (sb.2 b hb).trans e) f0 f1 f3 f4 f5
  obtain ⟨a', acc, e, ha, few, fts, srt, qq⟩ := hq
  cases e
  exact G.sorted X eP ew eK hu calm I2 ha few fts srt fun L b s2 iss sub nb I3 => ⟨.ref b, _, I3, rfl, qq L b iss sub nb⟩
end
section
variable {κ T α : Type} {c : Ctx} {X : Cx} {S : AS} {Γ : Gam} {M : Cells} {σ : L2.St} {elt tg iter : Expr} {pos p q : Pos} {Q : D → Cells → Prop} {scope : Scope}
/-- S and one place more -/
def plus (S : AS) (a : Addr) : AS := fun b => S b ∨ b = a
theorem Core.plus {S : AS} {M : Cells} {H : Hp} {a : Addr} {o : HO} {K : PySem.W.Frag} (cr : Core K S M H) (np : H a = none) : Core K (plus S a) M (upd H a o) := by
  have nd : a ∉ dom M := fun z => by
    obtain ⟨y, hy, ey⟩ := List.mem_map.mp z
    have w := (cr.cells y hy).ne
    rw [ey] at w
    exact w np
  refine ⟨fun b z => ?_, cr.nod, fun b hb z => ?_, fun y hy => ?_⟩
  · by_cases e : b = a
    · rw [e, upd_same]; exact fun z => by cases z
    · rw [upd_ne e]
      exact z.elim (cr.known b) fun z => absurd z e
  · rcases z with z | z
    · exact cr.dis b hb z
    · exact nd (z ▸ hb)
  · refine CellAt.to (A := av S M) (H := H) ⟨fun b o2 _ e => ?_, fun b z => ?_⟩ (fun o2 e => ?_) (cr.cells y hy)
    · rw [upd_ne (fun z => by rw [z, np] at e; cases e)]; exact e
    · rcases z with (z | z) | z
      · exact .inl (.inl z)
      · exact .inr (z ▸ np)
      · exact .inl (.inr z)
    · rw [upd_ne (fun z => by rw [z, np] at e; cases e)]; exact e
theorem Core.minus {S : AS} {M : Cells} {H : Hp} {a : Addr} {K : PySem.W.Frag} (cr : Core K (PL.plus S a) M H) : Core K S M H :=
  ⟨fun b z => cr.known b (.inl z), cr.nod, fun b hb z => cr.dis b hb (.inl z), fun y hy => CellAt.to (A := av (PL.plus S a) M) ⟨fun _ _ _ e => e, fun b z => .inl (z.imp .inl id)⟩ (fun _ e => e) (cr.cells y hy)⟩
theorem minus_to {S : AS} {M : Cells} {H : Hp} {a : Addr} : To (av (PL.plus S a) M) (av S M) H H := ⟨fun _ _ _ e => e, fun b z => .inl (z.imp .inl id)⟩
theorem plus_to {S : AS} {M : Cells} {H : Hp} {a : Addr} {o : HO} (np : H a = none) : To (av S M) (av (PL.plus S a) M) H (upd H a o) :=
  ⟨fun b o2 _ e => by rw [upd_ne (fun z => by rw [z, np] at e; cases e)]; exact e, fun b z => by
    rcases z with (z | z) | z
    · exact .inl (.inl z)
    · exact .inr (z ▸ np)
    · exact .inl (.inr z)⟩
theorem own_to {S : AS} {M : Cells} {H : Hp} {a : Addr} {o : HO} : To (av (PL.plus S a) M) (av (PL.plus S a) M) H (upd H a o) :=
  ⟨fun b o2 n e => by rw [upd_ne (fun z => n (.inl (.inr z)))]; exact e, fun b z => .inl z⟩
theorem Core.own {S : AS} {M : Cells} {H : Hp} {a : Addr} {o : HO} {K : PySem.W.Frag} (cr : Core K (PL.plus S a) M H) : Core K (PL.plus S a) M (upd H a o) := by
  refine ⟨fun b z => ?_, cr.nod, cr.dis, fun y hy => CellAt.to own_to (fun o2 e => ?_) (cr.cells y hy)⟩
  · by_cases e : b = a
    · rw [e, upd_same]; exact fun z => by cases z
    · rw [upd_ne e]; exact cr.known b z
  · rw [upd_ne (fun z => cr.dis y.1 (List.mem_map_of_mem hy) (.inr z))]; exact e
theorem we_sortGrow (G : GrowK c.P c.w c.K κ T) (own : List (Str × Nat)) (hb : blkC c.N c.sc scope own = true) (hg : GlC c.sc "sorted") (hm : c.mg "sorted" = none) (xs : List α) (f : α → D) (g : α → κ)
    (h : WE c iter Γ M fun d M1 => d = .lst (xs.map f) ∧ xs.length ≤ 60 ∧ (∀ y ∈ xs, Turn1 c scope (own.map (·.2)) tg elt [] (f y) Γ M1 (fun d M4 => d = G.kd (g y) ∧ M4 = M1) (fun _ => False)) ∧ G.srt (xs.map g) ∧ ∀ L : List κ, G.isS (xs.map g) L → Q (.lst (L.map G.kd)) M1)
    (hs : ∀ env x, foldedSetIterable iter env x = pure x := by intro _ _; rfl) (hcm : c.calm = true := by first | rfl | assumption) : WE c (.Call (.Name "sorted" p) [.SetComp elt [⟨tg, iter, [], 0⟩] scope q] [] pos) Γ M Q := .mk fun X S σ H at_ Q' hq =>
  PE.to (pe_sortGrow (G := G) at_.is.prog at_.is.w at_.is.K at_.is.hu (at_.is.calm hcm) (at_.is.gl hg) (at_.is.mgN hm) at_.is.nd (pi_list wE.pe) (at_.blkOk hb) (fun s H C cl fp => gB.pg s H C cl fp) (fun s H C cl fp => ttB.pts s H C cl fp) (fun s H C cl fp => tB.pe s H C cl fp) (hs _))
    (h.run X S σ H at_ _ fun v1 H1 d1 M1 c1 s1 r1 ⟨e1, hl, turn, srt, hfin⟩ => by
      subst e1
      cases r1 with
      | @lst a0 us _ h1 h2 =>
      refine ⟨_, rfl, ⟨_, by rw [at_.is.K]; exact h1.sq⟩, fun a np => ?_⟩
      have hul : us.length = xs.length := by rw [h2.length, List.length_map]
      have nd1 : a ∉ dom M1 := fun z => by
        obtain ⟨y, hy, ey⟩ := List.mem_map.mp z
        have w := (c1.cells y hy).ne
        rw [ey] at w
        exact w np
      let Pv : Nat → Hp → Prop := fun i H2 => ∃ acc : List T, acc.map G.key = (xs.take i).map g ∧ H2 a = some (G.ob a acc) ∧ Core c.K (PL.plus S a) M1 H2 ∧ PL.Step M1 M1 H1 H2 ∧ (∀ y ∈ acc, Rep c.K (av (PL.plus S a) M1) H2 (G.vr y) (G.kd (G.key y))) ∧ To (av S M1) (av (PL.plus S a) M1) H1 H2
      have own_step : ∀ {H2 : Hp} {o : HO}, PL.Step M1 M1 H1 H2 → PL.Step M1 M1 H1 (upd H2 a o) := fun {H2 o} st => ⟨fun b o2 n e => by
          rw [upd_ne (fun z => by rw [z, np] at e; cases e)]; exact st.keep b o2 n e, fun b n => by
          rw [upd_ne (fun z => by rw [z] at n; exact n np)]; exact st.grow b n, fun b hb => .inl hb⟩
      refine ⟨fun i m H2 => m = xs.length - i ∧ i ≤ xs.length ∧ Pv i H2, ⟨xs.length, by simp, Nat.zero_le _, [], rfl, upd_same, c1.plus np, own_step .refl, fun y hy => (by cases hy), plus_to np⟩, ?_⟩
      rintro i m H2 ⟨rfl, hi, acc, hk, ha, c2, s2, rs, t2⟩
      by_cases lt : i < xs.length
      · refine .inr ⟨⟨us, us[i]'(by omega), by rw [at_.is.K]; exact (t2.rdl h1).sq, by simp [hul, lt]⟩, Pv (i + 1), fun H' pv => ⟨xs.length - (i + 1), by omega, rfl, lt, pv⟩, fun x H' ⟨e, y⟩ => ?_⟩
        subst e
        have hx := y us (by rw [at_.is.K]; exact (t2.rdl h1).sq)
        obtain ⟨d, hd', rd⟩ := h2.getV hx
        rw [List.getElem?_map, List.getElem?_eq_getElem lt] at hd'
        have ed := Option.some.inj hd'
        subst ed
        obtain ⟨is, ts, ht, hv, hi2⟩ := turn _ (List.getElem_mem lt)
        intro s0 H0 C cl fp
        have sl2 : Slots c.K (av (PL.plus S a) M1) H' (wipeG Γ (own.map (·.2))) (wipe σ (own.map (·.2))) := ((at_.slots.to s1.to).wipes _).to t2
        refine ht.run (at_.is.blk s0 H0 C cl fp) hcm sl2 (rd.to t2) fun σ2 sl3 hl3 hk3 => ⟨wipe_same (by rw [hl3, wipe_length]) fun j hj => hk3 j fun z => hj (List.contains_iff_mem.mp (List.all_eq_true.mp hv j z)), ?_⟩
        intro s2' H02 C2 cl2 fp2
        refine hi2.run _ (PL.plus S a) σ2 H' ⟨at_.is.blk s2' H02 C2 cl2 fp2, c2, sl3, land_blk s2' H02 C2 cl2 fp2⟩ _ fun k H3 M3 c3 s3 q3 => ?_
        cases k with
        | false => exact (q3.2 rfl).elim
        | true =>
          simp only [if_true]
          intro s4 H04 C4 cl4 fp4
          refine (q3.1 rfl).run _ (PL.plus S a) σ2 H3 ⟨at_.is.blk s4 H04 C4 cl4 fp4, c3, sl3.to s3.to, land_blk s4 H04 C4 cl4 fp4⟩ _ fun yv H4 d4 M4 c4 s4' r4 ⟨e4, e5⟩ => ?_
          subst e4 e5
          obtain ⟨z, ez, ekz⟩ := G.rep0 (show Rep c.K _ _ _ _ from r4)
          subst ez
          have s34 := s3.trans s4'
          have ha4 := s34.keep a _ nd1 ha
          have rs4 : ∀ y ∈ acc, Rep c.K (av (PL.plus S a) M4) H4 (G.vr y) (G.kd (G.key y)) := fun y hy => (rs y hy).to s34.to
          have len : acc.length = i := by
            have := congrArg List.length hk
            rw [List.length_map, List.length_map, List.length_take] at this
            omega
          refine ⟨z, acc, rfl, ha4, by omega, G.rep1 (by rw [ekz]; exact r4), fun y hy => G.rep1 (rs4 y hy), acc ++ [z], ?_, upd_same, c4.own, own_step (s2.trans s34), fun y hy => ?_, ?_⟩
          · rw [List.map_append, hk, List.map_singleton, ekz, List.take_succ, List.map_append, List.getElem?_eq_getElem lt]
            rfl
          · rcases List.mem_append.mp hy with hy | hy
            · exact (rs4 y hy).to own_to
            · rw [List.mem_singleton.mp hy, ekz]
              exact r4.to own_to
          · refine ⟨fun b o n e => ?_, t2.av⟩
            have nn : ¬ av (PL.plus S a) M4 b := fun z => by
              rcases z with (z | z) | z
              · exact n (.inl z)
              · rw [z, np] at e; cases e
              · exact n (.inr z)
            exact own_to.keep b o nn (s34.to.keep b o nn (t2.keep b o n e))
      · have e : i = xs.length := by omega
        subst e
        rw [List.take_length] at hk
        refine .inl ⟨⟨us, by rw [at_.is.K]; exact (t2.rdl h1).sq, Nat.le_of_eq hul⟩, a, acc, rfl, ha, ?_, fun y hy => G.rep1 (rs y hy), by rw [hk]; exact srt, fun L b iss sub nb => ?_⟩
        · have := congrArg List.length hk
          rw [List.length_map, List.length_map] at this
          omega
        · have rr : Reps c.K (av S M1) H2 (L.map G.vr) ((L.map G.key).map G.kd) := by
            clear iss
            induction L with
            | nil => exact .nil
            | cons z L ih => exact .cons ((rs z (sub z List.mem_cons_self)).to minus_to) (ih fun y hy => sub y (List.mem_cons_of_mem _ hy))
          obtain ⟨k1, k2, k3⟩ := fresh_lst (c := c) (K := c.K) c2.minus nb rr
          exact hq _ _ _ _ k1 ((s1.trans s2).trans k2) k3 (hfin _ (hk ▸ iss)))
end
end PL
/-! kinds of keys: ints, tuples of ints and texts -/
namespace PL
open PySem PySem.Spec PyProof.Rows L2
def intG (P : Program) (w : World) (K : PySem.W.Frag) : GrowK P w K Int Int where
  ob := fun a acc => .ext fun h => ∃ n, SetR w h a (fun j => decide (j ∈ acc)) n ∧ n ≤ acc.length
  vr := V.int
  key := id
  kd := D.int
  ft := fun _ _ => True
  srt := fun _ => True
  isS := fun acc L => L.Pairwise (· < ·) ∧ ∀ k : Int, k ∈ L ↔ k ∈ acc
  rep0 := fun r => by cases r; exact ⟨_, rfl, rfl⟩
  rep1 := fun _ => trivial
  new := fun {H h a} e => by
    have R : SetR w h a (fun j => decide (j ∈ ([] : List Int))) 0 := setR_new_at (ns := []) e
    exact ⟨⟨0, R, Nat.le_refl _⟩, ⟨_, e⟩, fun h1 h2 ⟨n, p, q⟩ k => ⟨n, p.at k, q⟩⟩
  add := fun X eP ew eK hu {pins σ H s E a acc z u Q} I ha few fz facc r h => by
    subst eP ew eK
    obtain ⟨t, rfl⟩ := r
    obtain ⟨⟨n, R, hn⟩, ⟨o, ho⟩, _⟩ := I.hok a _ ha
    refine setR_add R (by unfold scanBound; omega) fun h' sb R' => ?_
    have R2 : SetR X.w h' a (fun j => decide (j ∈ acc ++ [z])) (if decide (z ∈ acc) = true then n else n + 1) := R'.congr fun k => by
      simp only [List.mem_append, List.mem_singleton]
      by_cases e1 : k ∈ acc <;> by_cases e2 : k = z <;> simp [e1, e2]
    have he : ∃ u, h'.get? a = some u := let ⟨o, _, _, _, ho, _⟩ := R'; ⟨o, ho⟩
    refine h _ (I.write (e := a) (t' := s.toks + 1) (by rw [ha]; trivial) (.inl rfl) (fun b u hb hu => (sb.2 b hb).trans hu) he ⟨⟨_, R2, ?_⟩, he, fun h1 h2 ⟨n, p, q⟩ k => ⟨n, p.at k, q⟩⟩)
    rw [List.length_append, List.length_singleton]
    split <;> omega
  sorted := fun X eP ew eK hu hc {pins σ H s E a acc Q} I ha few facc _ h => by
    subst eP ew eK
    obtain ⟨⟨n, R, hn⟩, _, _⟩ := I.hok a _ ha
    refine sorted_set R (I.ok.hd hc) (by omega) fun s' p out cc ms kk g o hp hg' hi hs hm hl => ?_
    have hlen : (ms.map V.int).length ≤ sizeLine := by rw [List.length_map, hl, sizeLine_eq]; omega
    have np : H p = none := I.hok.fresh hp
    have J : Inv X pins σ (upd H p (.lst (ms.map V.int))) { s with heap := s'.heap, gens := s'.gens, drawn := s'.drawn, toks := s'.toks } :=
      I.call (ch := []) (Un.laid kk hp np) (I.hok.laid kk hp ⟨hlen, out.toList, cc, vals_of_ints hi, hg'⟩) (by rw [g]; exact I.bare) (fun _ z => nomatch z)
    have e : s' = { s with heap := s'.heap, gens := s'.gens, drawn := s'.drawn, toks := s'.toks } := by
      cases s'
      cases s
      cases o
      rfl
    rw [e]
    refine h ms p _ ⟨by rw [List.map_id]; exact hs, fun k => ?_⟩ (fun z hz => ?_) np J
    · rw [List.map_id, List.map_id, hm]; exact decide_eq_true_iff
    · have := (hm z).mp hz
      exact decide_eq_true_iff.mp this
/-- the kind of these keys -/
abbrev tk (P : Program) (w : World) := tupleKind (mixKind P w)
def tupG (P : Program) (w : World) (K : PySem.W.Frag) : GrowK P w K (List Key) (Addr × List Key) where
  ob := fun a acc => .ext fun h => (∃ o, h.get? a = some o ∧ o.cls = .type "set") ∧ ∃ L es ep t, GotH acc L ∧ ∀ h', (∀ o, h.get? a = some o → h'.get? a = some o) → (∀ p ∈ acc, (tk P w).is h' p.2 p.1) → SetH (tk P w) h' a L es ep t
  vr := fun p => .ref p.1
  key := fun p => p.2
  kd := tupD
  ft := fun H p => SqT K H p.1 (p.2.map atomV) ∧ Dp K H (.ref p.1) (tupD p.2).py
  srt := fun ks => PySem.W.AllAlike (ks.map fun k => (tupD k).py) ∧ PySem.W.Sortable (ks.map fun k => (tupD k).py)
  isS := fun acc L => ∃ L0 : List (List Key), L0.Nodup ∧ (∀ k, k ∈ L0 ↔ k ∈ acc) ∧ L = L0.mergeSort leK
  rep0 := fun {A H v k} r => by
    unfold tupD at r
    cases r with
    | @tup a vs ds h1 h2 => exact ⟨(a, k), rfl, rfl⟩
  rep1 := fun {A H z} r => by
    refine ⟨?_, r.dp 60 _ (tupD_ok _)⟩
    unfold tupD at r
    cases r with
    | tup h1 h2 =>
      rw [← atomV_reps h2]
      exact h1.sq
  new := fun {H h a} e => ⟨⟨⟨_, e, rfl⟩, [], #[], 0, _, ⟨fun p hp => (nomatch hp), fun p hp => (nomatch hp), Nat.zero_le _⟩, fun h' k _ => setNewH (k _ e)⟩, ⟨_, e⟩, fun h1 h2 ⟨⟨o, e1, e2⟩, L, es, ep, t, g, q⟩ k => ⟨⟨o, k o e1, e2⟩, L, es, ep, t, g, fun h' k' kk => q h' (fun o e => k' o (k o e)) kk⟩⟩
  add := fun X eP ew eK hu {pins σ H s E a acc z u Q} I ha few fz facc r h => by
    subst eP ew eK
    cases r
    obtain ⟨⟨⟨o, ho, hcl⟩, L, es, ep, t, g, R⟩, _, _⟩ := I.hok a _ ha
    have isk : ∀ {q : Addr × List Key}, (SqT X.K H q.1 (q.2.map atomV) ∧ Dp X.K H (.ref q.1) (tupD q.2).py) → ∀ s' H', Inv X pins σ H' s' → SqT X.K H' q.1 (q.2.map atomV) → (tk X.prog X.w).is s'.heap q.2 q.1 := fun {q} f s' H' I' sq => by
      obtain ⟨us, rv, ⟨o, ho, hc, n, hd⟩, _⟩ := I'.tuple sq
      exact ⟨o, us.toArray, n, ho, hc, hd, by simpa using items_keys rv⟩
    have R0 := R s.heap (fun _ e => e) fun p hp => isk (facc p hp) s H I (facc p hp).1
    have hz := isk fz s H I fz.1
    refine wpAny_call_entry F.slot_set_add ⟨o, ho, hcl⟩ F.entry_set_add ?_ (F.args_set_add_2 _ _)
    unfold Builtin.«set.add» Builtin.Frozenset.oneOther
    simp only [List.isEmpty_nil, bind_assoc]
    unfold Builtin.Frozenset.addrOf setAdd
    refine wpAny_bind (wpAny_pure ?_)
    try dsimp only
    refine wpAny_bind (wpAny_pure ?_)
    try dsimp only
    refine wpAny_bind ?_
    refine wpAny_holding ?_
    refine wpAny_bind ((tk X.prog X.w).pyHash (mixTup_in.room (by show X.A.units + _ < _; omega)) hz ?_)
    refine addH (s := { s with toks := s.toks + (tk X.prog X.w).draws z.2 }) mixTup_in R0 hz (by show X.A.units + _ < _; omega) (by have := g.len; omega) fun b h' L' es' ep' t' sb R' ad => ?_
    show wpAny _ _ (ret Value.none) _ _ _
    have he : ∃ u, h'.get? a = some u := let ⟨o, ho, _⟩ := R'.obj; ⟨o, ho⟩
    refine wpAny_pure ⟨_, rfl, h _ (I.write (e := a) (t' := s.toks + (tk X.prog X.w).draws z.2) (by rw [ha]; trivial) (.inl rfl) (fun b u hb hu => (sb.2 b hb).trans hu) he ⟨⟨?_, L', es', ep', t', g.next ad, fun h2 k kk => R'.keep mixTup_in k fun p hp => kk p ((g.next ad).sub p hp)⟩, he, fun h1 h2 ⟨⟨o, e1, e2⟩, L, es, ep, t, g, q⟩ k => ⟨⟨o, k o e1, e2⟩, L, es, ep, t, g, fun h' k' kk => q h' (fun o e => k' o (k o e)) kk⟩⟩)⟩
    obtain ⟨o2, ho2, hx, _⟩ := R'.obj
    exact ⟨o2, ho2, hx.1⟩
  sorted := fun X eP ew eK hu hc {pins σ H s E a acc Q} I ha few facc hsrt h => by
    subst eP ew eK
    obtain ⟨⟨_, L, es, ep, t, g, R⟩, _, _⟩ := I.hok a _ ha
    have R0 := R s.heap (fun _ e => e) fun p hp => by
      obtain ⟨us, rv, ⟨o, ho, hc, n, hd⟩, _⟩ := I.tuple (facc p hp).1
      exact ⟨o, us.toArray, n, ho, hc, hd, by simpa using items_keys rv⟩
    have sub : ∀ d, d ∈ L.map (fun p => (tupD p.2).py) → d ∈ (acc.map fun p => p.2).map fun k => (tupD k).py := fun d hd => by
      obtain ⟨p, hp, rfl⟩ := List.mem_map.mp hd
      exact List.mem_map.mpr ⟨p.2, List.mem_map_of_mem (g.sub p hp), rfl⟩
    refine sorted_setH (enc := fun k => (tupD k).py) R0 (I.ok.hd hc) (fun p hp => Dp.reads I _ _ _ (facc p (g.sub p hp)).2 rfl) (fun d hd d' hd' => hsrt.1 d (sub d hd) d' (sub d' hd'))
      (hsrt.2.imp (fun z d hd => z d (sub d hd)) fun z d hd => z d (sub d hd)) (fun p hp => by
        have := (D.plain_ok 60 _ (tupD_ok p.2)).2
        show X.A.units + 2 + (tupD p.2).py.depth < cLine
        omega) fun s' p out cc L1 kk gg o hp hg' pm ho => ?_
    have ho' : out.toList = (L1.mergeSort leP).map fun q => Value.ref q.1 := ho
    have len : ((L1.mergeSort leP).map fun q => V.ref q.1).length ≤ sizeLine := by
      rw [List.length_map, List.length_mergeSort, pm.length_eq, sizeLine_eq]
      have := R0.few
      omega
    have np : H p = none := I.hok.fresh hp
    have refs : ∀ N : List (Addr × List Key), Vals (N.map fun p => V.ref p.1) (N.map fun p => Value.ref p.1) := fun N => by
      induction N with
      | nil => exact .nil
      | cons p N ih => exact .cons rfl ih
    have J : Inv X pins σ (upd H p (.lst ((L1.mergeSort leP).map fun q => V.ref q.1))) { s with heap := s'.heap, gens := s'.gens, drawn := s'.drawn, toks := s'.toks } :=
      I.call (ch := []) (Un.laid kk hp np) (I.hok.laid kk hp ⟨len, out.toList, cc, by rw [ho']; exact refs _, hg'⟩) (by rw [gg]; exact I.bare) (fun _ z => nomatch z)
    have e : s' = { s with heap := s'.heap, gens := s'.gens, drawn := s'.drawn, toks := s'.toks } := by
      cases s'
      cases s
      cases o
      rfl
    rw [e]
    refine h (L1.mergeSort leP) p _ ⟨L1.map (·.2), (pm.map (·.2)).nodup_iff.mpr R0.once, fun k => ⟨fun hk => ?_, fun hk => ?_⟩, List.map_mergeSort (f := fun q : Addr × List Key => q.2) (s := leK) fun _ _ _ _ => rfl⟩ (fun z hz => g.sub z (pm.mem_iff.mp ((List.mergeSort_perm _ _).mem_iff.mp hz))) np J
    · obtain ⟨q, hq, rfl⟩ := List.mem_map.mp hk
      exact List.mem_map_of_mem (g.sub q (pm.mem_iff.mp hq))
    · obtain ⟨q, hq, rfl⟩ := List.mem_map.mp hk
      exact (pm.map (·.2)).mem_iff.mpr (g.all q hq)
end PL
/-! insert at the front, the last item -/
namespace PL
open PySem PySem.Spec PyProof.Rows L2
section
variable {c : Ctx} {X : Cx} {S : AS} {Γ : Gam} {M : Cells} {σ : L2.St} {a b e : Expr} {pos p : Pos} {Q : D → Cells → Prop} {R : Bool → Cells → Prop}
/-- xs.insert(0, e) -/
theorem we_insert0 {apos p0 : Pos} {k0 : Nat} (h : WE c a Γ M fun x M1 => ∃ (p : Addr) (i : Nat) (ds : List D), x = .ptr p ∧ M1[i]? = some (p, .lst ds) ∧ WE c e Γ M1 fun y M2 => ∃ (j : Nat) (ds2 : List D), M2[j]? = some (p, .lst ds2) ∧ ds2.length < sizeLine ∧ Q .non (M2.set j (p, .lst (y :: ds2))))
    (hbase : ∀ env, attributeBase a "insert" env (eval a env) = eval a env := by intro _; rfl)
    (hfew : ∀ env, ((backTo pos (starEach [.Constant (.int 0) k0 p0, e] env)).all (fun x => !x.1) && (backToKw pos (keywordEach [] env)).all (fun x => x.1.isSome)
      && decide ([Expr.Constant (.int 0) k0 p0, e].length + ([] : List Keyword).length + (if ([] : List Keyword).isEmpty then 0 else 1) < 30)) = true := by intro _; rfl)
    (hline : (apos.endLine == pos.line) = true := by rfl) (hst : ∀ env, starEach [.Constant (.int 0) k0 p0, e] env = (false, eval (.Constant (.int 0) k0 p0) env) :: starEach [e] env := by intro _; rfl)
    (hst2 : ∀ env, starEach [e] env = (false, eval e env) :: starEach [] env := by intro _; rfl) (hpl : ∀ env, (backTo pos (starEach [e] env)).any (·.1) = false := by intro _; rfl) :
    WE c (.Call (.Attribute a "insert" apos) [.Constant (.int 0) k0 p0, e] [] pos) Γ M Q :=
  we_listM (f := fun ds es z ds' => ∃ y, es = [.int 0, y] ∧ ds.length < sizeLine ∧ z = .non ∧ ds' = y :: ds) PySem.F.slot_list_insert PySem.F.type_list_insert (fun X => mt_insert)
    (fun {c S M H p vs ds ws es z ds' Q'} hp rs re hf q => by
      obtain ⟨y, e1, hl, e2, e3⟩ := hf
      subst e1 e2 e3
      cases re with
      | cons r0 re =>
        cases r0
        cases re with
        | cons r1 r2 =>
          cases r2
          refine ⟨p, vs, 0, _, rfl, rfl, hp, by rw [rs.length]; exact hl, by decide, by decide, q _ _ .non ?_⟩
          show Reps _ _ _ (([] ++ [_]) ++ vs) _
          exact .cons r1 rs)
    (.mk fun X S σ H at_ Q' hq => h.run X S σ H at_ Q' fun v H' d M' c1 s1 r1 ⟨p, i, ds, e1, hi, q⟩ => hq v H' d M' c1 s1 r1 ⟨p, i, ds, e1, hi, wa_cons (we_int (wa_cons (.mk fun X S σ H at_ Q' hq => q.run X S σ H at_ Q' fun v H' d M' c1 s1 r1 ⟨j, ds2, hj, hl, q⟩ => hq v H' d M' c1 s1 r1 (wa_nil ⟨j, ds2, .non, _, hj, ⟨d, rfl, hl, rfl, rfl⟩, q⟩)) hst2)) hst⟩)
    hbase hfew hline hst hpl
end
end PL
/-! defs that make lambdas, defs with defaults -/
namespace PL
open PySem PySem.Spec PyProof.Rows L2
/-- a def as it stands: dvs its defaults, cdv its code object -/
structure FunX (K : PySem.W.Frag) (x qual : Str) (st : Stmt) (dvs : List V) (cdv : Value) (f : Addr) (fd : FuncData) : Prop where
  ex : ∃ (oc : Value) (od : Option Addr) (dV kV doc pm : Value) (an : Option Addr) (ct : Value) (osl : Array (Option Value)),
    fd = PySem.W.fnOf x qual (defArgs st) (defBody st) (defScope st) dV kV doc pm an cdv ct ∧ K.lookup f = some ⟨oc, od, .func fd, osl⟩ ∧ PySem.W.codeIn K cdv qual = true ∧ DflV K dV dvs
  kp : PySem.W.keepIn K (.ref f) = true
section
variable {P : Program} {w : World} {K : PySem.W.Frag} {mg : Str → Option Value} {base : Heap} {x qual : Str} {st : Stmt} {dvs : List V} {cdv : Value} {f : Addr} {fd : FuncData} {N ps : List Str} {k : Nat} {pf : PF}
theorem funX_mk {oc : Value} {od an : Option Addr} {osl : Array (Option Value)} {kV doc pm ct : Value} (l : K.lookup f = some ⟨oc, od, .func (PySem.W.fnOf x qual (defArgs st) (defBody st) (defScope st) .none kV doc pm an cdv ct), osl⟩)
    (c : PySem.W.codeIn K cdv qual = true) (k : PySem.W.keepIn K (.ref f) = true) : FunX K x qual st [] cdv f (PySem.W.fnOf x qual (defArgs st) (defBody st) (defScope st) .none kV doc pm an cdv ct) := ⟨⟨oc, od, .none, kV, doc, pm, an, ct, osl, rfl, l, c, .inl ⟨rfl, rfl⟩⟩, k⟩
/-- one default, an int -/
theorem funX_mk1 {oc : Value} {od an odT : Option Addr} {osl slT : Array (Option Value)} {kV doc pm ct cT : Value} {T : Addr} {i : Int} {tk : Tok} {n : Nat} (l : K.lookup f = some ⟨oc, od, .func (PySem.W.fnOf x qual (defArgs st) (defBody st) (defScope st) (.ref T) kV doc pm an cdv ct), osl⟩)
    (lT : K.lookup T = some ⟨cT, odT, .seq #[.int i tk] n, slT⟩) (c : PySem.W.codeIn K cdv qual = true) (k : PySem.W.keepIn K (.ref f) = true) : FunX K x qual st [.int i] cdv f (PySem.W.fnOf x qual (defArgs st) (defBody st) (defScope st) (.ref T) kV doc pm an cdv ct) :=
  ⟨⟨oc, od, .ref T, kV, doc, pm, an, ct, osl, rfl, l, c, .inr ⟨by simp, T, _, [.int i tk], n, rfl, lT, rfl, .cons ⟨_, rfl⟩ .nil⟩⟩, k⟩
theorem FunX.d (F : FunX K x qual st dvs cdv f fd) : FunD K x qual (defArgs st) (defBody st) (defScope st) dvs [] f fd := by
  obtain ⟨oc, od, dV, kV, doc, pm, an, ct, osl, e, l, c, d⟩ := F.ex
  exact ⟨⟨oc, od, dV, kV, doc, pm, an, cdv, ct, osl, e, l, c, d, .inl rfl⟩, F.kp⟩
theorem FunX.binds (F : FunX K x qual st [] cdv f fd) (h : ∀ (kV doc pm : Value) (an : Option Addr) (cdv ct : Value) (us : List Value), us.length = ps.length → bindArgs (PySem.W.fnOf x qual (defArgs st) (defBody st) (defScope st) .none kV doc pm an cdv ct) ⟨us, []⟩ = pure (ps.zip us)) : Binds K fd ps [] := F.d.bindsN h
/-- all are given, though a default stands -/
theorem FunX.binds1 {d : V} (F : FunX K x qual st [d] cdv f fd)
    (h : ∀ (T : Addr) (kV doc pm : Value) (an : Option Addr) (cdv ct : Value) (us its : List Value), us.length = ps.length → its.length = 1 →
      ∃ k, bindArgs (PySem.W.fnOf x qual (defArgs st) (defBody st) (defScope st) (.ref T) kV doc pm an cdv ct) ⟨us, []⟩ = seqItems? (.ref T) >>= k ∧ k (some its.toArray) = pure (ps.zip us)) : Binds K fd ps [] := by
  obtain ⟨ds, v, b⟩ := F.d.binds1 (ps := ps) ps.length 1 (by simp) (by simp) fun T kV doc pm an cdv ct us its h1 h2 => by
    obtain ⟨k, e1, e2⟩ := h T kV doc pm an cdv ct us its h1 h2
    refine ⟨k, e1, ?_⟩
    rw [e2, List.drop_of_length_le (by rw [h2]; exact Nat.le_refl _), List.append_nil]
  cases v
  exact b
/-- a def's body, read; lam: its code object, the table of it, its lambda's name -/
theorem fn_mkX (F : FunX K x qual st dvs cdv f fd) (Sc : FnScope N ps (defScope st)) (lam : Option (Addr × Addr × Str)) (hlam : ∀ cA Pt q, lam = some (cA, Pt, q) → cdv = .ref cA ∧ LamX.TabB base mg cA Pt ∧ q = (envOfC qual (defScope st) 0 f cdv).qual ++ "<lambda>")
    (len : ∀ ds M R Z, pf ds M R Z → ds.length = ps.length)
    (body : ∀ ds M R Z, pf ds M R Z → WSs ⟨P, w, K, mg, base, N, defScope st, k, fun C d _ M' => Z C d M', fun _ => true, true, true, lam⟩ (defBody st) { nx := fun _ M' => R .non M', rt := R } (ds.map some ++ List.replicate (N.length - ds.length) none) M) :
    FnOk P w K mg base (L2.CX P w) (k + 1) f fd ps (liftF K pf) := by
  obtain ⟨oc, od, dV, kV, doc, pm, an, ct, osl, rfl, lk, hcd, _⟩ := F.ex
  refine fn_of lk hcd Sc (fun vs H Q E h => ?_) fun A outer s H vs Q E hr h => ?_
  · obtain ⟨S, M, ds, c1, r1, h⟩ := h
    rw [r1.length]
    exact len _ _ _ _ h
  · obtain ⟨S, M, ds, c1, r1, h⟩ := h
    refine ⟨_, wSs.pss, ?_⟩
    refine (body ds M _ _ h).run _ S _ H ⟨⟨rfl, rfl, rfl, rfl, rfl, rfl, rfl, fun _ => hr, fun _ => rfl, Sc.nd, fun _ _ _ => rfl, ?po, fun _ => ⟨rfl, rfl⟩, L2H.roomH_of hr, fun cA Pt q z => ?lm⟩, c1, ?sl, ?ld⟩ _ ⟨fun σ' H' Γ' M' c' sl' st' q => q .non H' c' st' .non, fun v H' d M' c' st' r' q => q v H' c' st' r', fun _ _ _ _ _ _ _ q => q.elim, fun _ _ _ _ _ _ _ q => q.elim⟩
    case po => exact passes_of rfl
    case lm =>
      obtain ⟨e1, e2, e3⟩ := hlam cA Pt q z
      exact ⟨e1, e2, e3.symm⟩
    case sl =>
      have hl := r1.length
      refine ⟨by simp [L2.start, hl], fun i d hd => ?_⟩
      by_cases hi : i < ds.length
      · rw [List.getElem?_append_left (by simpa using hi), List.getElem?_map] at hd
        cases e : ds[i]? with
        | none => rw [e] at hd; cases hd
        | some d' =>
          rw [e] at hd
          have := Option.some.inj (Option.some.inj hd)
          subst this
          obtain ⟨v, hv, r⟩ := r1.get e
          refine ⟨v, ?_, r⟩
          unfold L2.start
          rw [List.getElem?_append_left (by simpa [hl] using hi), List.getElem?_map, hv]
          rfl
      · rw [List.getElem?_append_right (by simpa using Nat.le_of_not_lt hi)] at hd
        have := List.mem_of_getElem? hd
        have := List.eq_of_mem_replicate this
        cases this
    case ld =>
      refine ⟨fun cls d _ H => E cls d H, takes_of rfl rfl rfl rfl, fun C dd v d σ' H' Γ' M' c' sl' st' hd r z => z dd v H' c' st' hd r⟩
/-- the lambdas' name -/
abbrev lamQ (qual : Str) (st : Stmt) : Str := (envOfC qual (defScope st) 0 0 .none).qual ++ "<lambda>"
theorem fn_mkL {cA Pt : Addr} (F : FunX K x qual st dvs (.ref cA) f fd) (Sc : FnScope N ps (defScope st)) (TB : LamX.TabB base mg cA Pt)
    (len : ∀ ds M R Z, pf ds M R Z → ds.length = ps.length)
    (body : ∀ ds M R Z, pf ds M R Z → WSs ⟨P, w, K, mg, base, N, defScope st, k, fun C d _ M' => Z C d M', fun _ => true, true, true, some (cA, Pt, lamQ qual st)⟩ (defBody st) { nx := fun _ M' => R .non M', rt := R } (ds.map some ++ List.replicate (N.length - ds.length) none) M) :
    FnOk P w K mg base (L2.CX P w) (k + 1) f fd ps (liftF K pf) :=
  fn_mkX F Sc (some (cA, Pt, lamQ qual st)) (fun cA' Pt' q e => by cases e; exact ⟨rfl, TB, rfl⟩) len body
end
end PL
namespace PL
open PySem PySem.Spec PyProof.Rows L2
section
variable {c : Ctx} {Γ : Gam} {M : Cells} {a b : Expr} {pos p : Pos} {Q : D → Cells → Prop}
/-- divmod(a, b) -/
theorem we_divmod (hg : GlC c.sc "divmod") (hm : c.mg "divmod" = none) (h : WE c a Γ M fun x M1 => WE c b Γ M1 fun y M2 => ∃ i j, x = .int i ∧ y = .int j ∧ CDiv i j ∧ Q (.tup [.int (i / j), .int (i % j)]) M2)
    (he : ∀ env, starEach [a, b] env = (false, eval a env) :: starEach [b] env := by intro _; rfl) (he2 : ∀ env, starEach [b] env = (false, eval b env) :: starEach [] env := by intro _; rfl) (hcm : c.calm = true := by first | rfl | assumption) : WE c (.Call (.Name "divmod" p) [a, b] [] pos) Γ M Q :=
  we_callB (fun X hc => call_divmod) hg hm (by decide +kernel) (wa_cons (.mk fun X S σ H at_ Q' hq => h.run X S σ H at_ Q' fun v H' d M' c1 s1 r1 q0 => hq v H' d M' c1 s1 r1 (wa_cons (.mk fun X S σ H at_ Q' hq => q0.run X S σ H at_ Q' fun v H' d' M' c1 s1 r1 ⟨i, j, e1, e2, hd, q⟩ => hq v H' d' M' c1 s1 r1 (wa_nil (by
    subst e1 e2
    intro S2 H2 vs c2 r2 Q2 hq2
    cases r2 with
    | cons r r' =>
      cases r' with
      | cons r1 r2 =>
        cases r2; cases r; cases r1
        refine ⟨i, j, rfl, hd, fun p np => ?_⟩
        exact hq2 _ _ _ _ (c2.new np) (Step.same (same_new np)) (.tup (.inl ⟨c2.free np, .inl upd_same⟩) (.cons .int (.cons .int .nil))) q))) he2)) he) (he := he) (hpl := fun env => by rw [he2]; rfl)
end
end PL
namespace PL
open PySem PySem.Spec PyProof.Rows L2
section
variable {c : Ctx} {Γ : Gam} {M : Cells} {a b : Expr} {pos p : Pos} {R : Bool → Cells → Prop}
/-- a not in d, as a test -/
theorem wt_dnin (h : WE c a Γ M fun y M1 => WE c b Γ M1 fun x M2 => ∃ (p : Addr) (i : Nat) (kvs : List (Key × D)) (k : Key), x = .ptr p ∧ M2[i]? = some (p, .dK kvs) ∧ y = keyD k ∧ R (!(lookK kvs k).isSome) M2) (hm : behindInMarks .NotIn b = false := by rfl) :
    WT c (.Compare a [.NotIn] [b] pos) Γ M R := .mk fun X S σ H at_ Q' hq =>
  PT.to (pt_cmp (pc_dnotin at_.is.hu1 wE.pe wE.pe) hm) (two h at_ fun v1 v2 H2 d1 d2 M2 c2 s2 r1 r2 ⟨p, i, kvs, k, e1, hi, e2, q⟩ => by
    subst e1 e2; cases r2
    have ek := r1.key
    subst ek
    obtain ⟨o, ho, vs, e, rs⟩ := c2.at_ hi
    subst e
    refine ⟨p, valV vs k, rfl, DGet.k ho, ?_⟩
    have e3 : (valV vs k).isSome = (lookK kvs k).isSome := by
      rcases rs.look k with ⟨l, l'⟩ | ⟨d', v, l1, l2, r⟩
      · rw [l, l']; rfl
      · rw [l1, l2]; rfl
    rw [e3]
    exact ⟨_, rfl, hq _ _ _ c2 s2 q⟩)
end
end PL
namespace PL
open PySem PySem.Spec PyProof.Rows L2
/-- the table of a code object -/
def tabOf (K : PySem.W.Frag) (c : Addr) : Option Addr := match K.lookup c with
  | some ⟨_, _, .fields vs, _⟩ => (match (vs[11]? : Option Value) with | some (.ref P) => some P | _ => none)
  | _ => none
end PL
namespace PL
open PySem PySem.Spec PyProof.Rows L2
theorem kwnX_of {K : PySem.W.Frag} {x qual : Str} {st : Stmt} {cdv : Value} {f : Addr} {fd : FuncData} {ps ks : List Str} {is : List Nat} {n : Nat} (F : FunX K x qual st [] cdv f fd)
    (h : ∀ (kV doc pm : Value) (an : Option Addr) (cdv ct : Value) (us ws : List Value), us.length = n → ws.length = ks.length → bindArgs (PySem.W.fnOf x qual (defArgs st) (defBody st) (defScope st) .none kV doc pm an cdv ct) ⟨us, ks.zip ws⟩ = pure (ps.zip (us ++ pick is ws))) : KwN K fd ps ks is n := by
  obtain ⟨oc, od, dV, kV, doc, pm, an, ct, osl, rfl, lk, hcd, hd⟩ := F.ex
  rcases hd with ⟨_, rfl⟩ | ⟨z, _⟩
  · exact ⟨fun s us ws _ h1 hl => .of_eq (h kV doc pm an cdv ct us ws h1 hl)⟩
  · exact absurd rfl z
end PL
/-! methods called with a default, an int -/
namespace PL
open PySem PySem.Spec PyProof.Rows L2
section
variable {c : Ctx} {X : Cx} {S : AS} {Γ : Gam} {M : Cells} {σ : L2.St} {o e : Expr} {es : List Expr} {pos apos : Pos} {Q : D → Cells → Prop} {C : Addr} {m : Str}
/-- the last parameter has the default i -/
structure DflI (K : PySem.W.Frag) (fd : FuncData) (ps : List Str) (i : Int) : Prop where
  ex : ∃ ds, Vals [V.int i] ds ∧ Binds K fd ps ds
theorem we_methD {pl : Env → Sem Bool} {f : Addr} {fd : FuncData} {ps : List Str} {k : Nat} {pf : PF} {i : Int} (F : MDef c.P c.w c.K c.mg c.base C m f fd ps k pf) (B : DflI c.K fd ps i) (hk : k ≤ c.k)
    (h : WE c o Γ M fun x M1 => ∃ fs, ObjAt M1 x C fs ∧ fs.lookup m = none ∧ WA c (e :: es) Γ M1 fun ds M2 => Callee c pf Γ (x :: ds ++ [.int i]) M2 Q)
    (he : ∀ env, starEach (e :: es) env = (false, eval e env) :: starEach es env := by intro _; rfl) (hpl : ∀ env, (backTo pos (starEach es env)).any (·.1) = false := by intro _; rfl)
    (ht : ∀ env, eval (.Call (.Attribute o m apos) (e :: es) [] pos) env = (do
      let ov ← eval o env
      standAt apos.atName
      let (f, first) ← holding [ov] (getMethod ov m (pl env))
      callWith pos f first (backTo pos (starEach (e :: es) env)) (backToKw pos (keywordEach [] env))) := by intro _; rfl) (hcm : c.calm = true := by first | rfl | assumption) :
    WE c (.Call (.Attribute o m apos) (e :: es) [] pos) Γ M Q := .mk fun X S σ H at_ Q' hq => by
  obtain ⟨W, tk, hW⟩ := at_.land
  have eP := at_.is.prog; have ew := at_.is.w; have eK := at_.is.K; have emg := at_.is.mg; have eb := at_.is.base
  have G : FnOk X.prog X.w X.K X.mg X.base (L2.CX X.prog X.w) k f fd ps (liftF c.K pf) := by rw [eP, ew, eK, emg, eb]; exact F.ok
  have hc : Cls X.K C := by rw [eK]; exact F.cl
  have hm : Meth X.K C m f := by rw [eK]; exact F.me
  obtain ⟨dfs, hd, hb⟩ := B.ex
  rw [← eK] at hb
  intro pins s I
  refine PySem.W.methodCall_KW (pl := pl X.env) (thn ((h.run X S σ H at_ (fun x H1 => ∃ a dx fs, x = .ref a ∧ H1 a = some (.ins C dx fs) ∧ fs.lookup m = none ∧ wA X (e :: es) σ H1 fun vs H2 => liftF c.K pf (x :: vs ++ [.int i]) H2 Q' (fun cls d H' => W cls d σ H')) ?_) pins s I) fun u s1 ⟨x, H1, I1, rx, a, dx, fs, ex, ea, l, q⟩ => ?_) (ht _)
  · rintro v1 H1 d1 M1 c1 s1 r1 ⟨fs, ho, l, q⟩
    obtain ⟨a, dx, vs, e1, h1, rf⟩ := ho.get c1 r1
    refine ⟨a, dx, vs, e1, h1, ?_, ?_⟩
    · rcases rf.look m with ⟨_, l2⟩ | ⟨d', v, l1, l2, r⟩
      · exact l2
      · rw [l] at l1; cases l1
    · refine q.run X S σ H1 (at_.step c1 s1) _ fun vs H2 ds M2 c2 s2 r2 q2 => ?_
      exact q2.lift (at_.step c2 (s1.trans s2)) (.cons (r1.to s2.to) (r2.append (.cons .int .nil))) (fun C dd v d σ' H' Γ' M' c3 sl3 st3 => hW C dd v d σ' H' Γ' M' c3 sl3 ((s1.trans s2).trans st3)) fun v H' d M' c3 st3 => hq v H' d M' c3 ((s1.trans s2).trans st3)
  · subst ex
    obtain rfl : u = Value.ref a := rx
    refine getmeth_ok I1 ea hc hm l ?_
    refine PySem.W.callWith_K (first := [.ref a]) (h₀ := X.base) I.ok.mod.kin hm.kp (thn (q pos pins s1 I1) fun us s2 ⟨vs, H2, I2, r, q2⟩ => ⟨I2.kIn, ?_⟩) (he _) (hpl _)
    exact run_fnSD (E := L2.WE W) (us := .ref a :: us) (vs := .ref a :: vs) G ((at_.is.room hcm).mono hk) hb hd (passAt tk σ) I2 (.cons rfl r) q2
/-- keywords, the last parameter by its default -/
structure KwD (K : PySem.W.Frag) (fd : FuncData) (ps ks : List Str) (is : List Nat) (n : Nat) (i : Int) : Prop where
  ex : ∃ ds, Vals [V.int i] ds ∧ ∀ (s : Shared) (us ws : List Value), K.In s.heap → us.length = n → ws.length = ks.length → BindsTo s fd ⟨us, ks.zip ws⟩ (ps.zip (us ++ (pick is ws ++ ds)))
theorem run_fnKD {CX : CXT} {k : Nat} {f : Addr} {fd : FuncData} {ps ks : List Str} {is : List Nat} {n : Nat} {i : Int} {sp : Sp} {E : XK} {pins : List (Addr × Obj)} {H : Hp} {s : Shared} {Q' : VK} {us ws : List Value} {vs zs : List V} (F : FnOk X.prog X.w X.K X.mg X.base CX k f fd ps sp) (hr : Room k X.A) (hb : KwD X.K fd ps ks is n i) (hx : PassesAt CX X σ E)
    (I : Inv X pins σ H s) (r : Vals vs us) (rz : Vals zs ws) (l1 : vs.length = n) (l2 : zs.length = ks.length) (h : sp (vs ++ (pick is zs ++ [.int i])) H Q' E) : wpAny (model X.prog X.w) X.A (call (.ref f) us (ks.zip ws)) (EP X pins σ Q') X.xe s := by
  obtain ⟨dfs, hd, hb⟩ := hb.ex
  refine wpAny_call (codeAny_mono (F.run X.A X.stack s H ⟨us, ks.zip ws⟩ (us ++ (pick is ws ++ dfs)) (vs ++ (pick is zs ++ [.int i])) Q' E hr I.env0 (hb s us ws I.kIn (by rw [← r.length, l1]) (by rw [← rz.length, l2])) (r.append ((Vals.pick rz is).append hd)) h) fun r s' hq => ?_)
  cases r with
  | error e => exact hx pins H s e s' I hq
  | ok fl =>
    cases fl with
    | ret u => exact I.after hq
    | next => exact False.elim hq
    | brk => exact False.elim hq
    | cont => exact False.elim hq
theorem we_methKD {pl : Env → Sem Bool} {f : Addr} {fd : FuncData} {ps ks : List Str} {is : List Nat} {k : Nat} {pf : PF} {i : Int} {kws : List Keyword} (F : MDef c.P c.w c.K c.mg c.base C m f fd ps k pf) (B : KwD c.K fd ps ks is 1 i) (hk : k ≤ c.k)
    (h : WE c o Γ M fun x M1 => ∃ fs, ObjAt M1 x C fs ∧ fs.lookup m = none ∧ WK c kws Γ M1 fun ds M2 => ds.length = ks.length ∧ Callee c pf Γ (x :: (pick is ds ++ [.int i])) M2 Q)
    (hall : ∀ env, (backToKw pos (keywordEach kws env)).all (·.1.isSome) = true := by intro _; rfl) (hks : ∀ env, (backToKw pos (keywordEach kws env)).filterMap (·.1) = ks := by intro _; rfl)
    (hpl : ∀ env, ((backTo pos (starEach [] env)).any (·.1) || (backToKw pos (keywordEach kws env)).any (·.1.isNone)) = false := by intro _; rfl)
    (ht : ∀ env, eval (.Call (.Attribute o m apos) [] kws pos) env = (do
      let ov ← eval o env
      standAt apos.atName
      let (f, first) ← holding [ov] (getMethod ov m (pl env))
      callWith pos f first (backTo pos (starEach [] env)) (backToKw pos (keywordEach kws env))) := by intro _; rfl) (hcm : c.calm = true := by first | rfl | assumption) :
    WE c (.Call (.Attribute o m apos) [] kws pos) Γ M Q := .mk fun X S σ H at_ Q' hq => by
  obtain ⟨W, tk, hW⟩ := at_.land
  have eP := at_.is.prog; have ew := at_.is.w; have eK := at_.is.K; have emg := at_.is.mg; have eb := at_.is.base
  have G : FnOk X.prog X.w X.K X.mg X.base (L2.CX X.prog X.w) k f fd ps (liftF c.K pf) := by rw [eP, ew, eK, emg, eb]; exact F.ok
  have hc : Cls X.K C := by rw [eK]; exact F.cl
  have hm : Meth X.K C m f := by rw [eK]; exact F.me
  have hb : KwD X.K fd ps ks is 1 i := by rw [eK]; exact B
  intro pins s I
  refine PySem.W.methodCall_KW (pl := pl X.env) (thn ((h.run X S σ H at_ (fun x H1 => ∃ a dx fs, x = .ref a ∧ H1 a = some (.ins C dx fs) ∧ fs.lookup m = none ∧ wK X kws σ H1 fun vs H2 => vs.length = ks.length ∧ liftF c.K pf (x :: (pick is vs ++ [.int i])) H2 Q' (fun cls d H' => W cls d σ H')) ?_) pins s I) fun u s1 ⟨x, H1, I1, rx, a, dx, fs, ex, ea, l, q⟩ => ?_) (ht _)
  · rintro v1 H1 d1 M1 c1 s1 r1 ⟨fs, ho, l, q⟩
    obtain ⟨a, dx, vs, e1, h1, rf⟩ := ho.get c1 r1
    refine ⟨a, dx, vs, e1, h1, ?_, ?_⟩
    · rcases rf.look m with ⟨_, l2⟩ | ⟨d', v, l1, l2, r⟩
      · exact l2
      · rw [l] at l1; cases l1
    · refine q.run X S σ H1 (at_.step c1 s1) _ fun vs H2 ds M2 c2 s2 r2 ⟨lq, q2⟩ => ⟨by rw [r2.length, lq], ?_⟩
      exact q2.lift (at_.step c2 (s1.trans s2)) (.cons (r1.to s2.to) ((r2.pick is).append (.cons .int .nil))) (fun C dd v d σ' H' Γ' M' c3 sl3 st3 => hW C dd v d σ' H' Γ' M' c3 sl3 ((s1.trans s2).trans st3)) fun v H' d M' c3 st3 => hq v H' d M' c3 ((s1.trans s2).trans st3)
  · subst ex
    obtain rfl : u = Value.ref a := rx
    refine getmeth_ok I1 ea hc hm l ?_
    refine PySem.W.callWith_KW0 (first := [.ref a]) (h₀ := X.base) I.ok.mod.kin hm.kp (hall _) ?_ (hpl _)
    refine thn (q pos pins s1 I1) fun ws s2 ⟨zs, H2, I2, rz, l2, q2⟩ => ⟨I2.kIn, ?_⟩
    rw [hks]
    exact run_fnKD (E := L2.WE W σ) (us := [.ref a]) (vs := [.ref a]) G ((at_.is.room hcm).mono hk) hb (passAt tk σ) I2 (.cons rfl .nil) rz rfl l2 q2
end
section
variable {K : PySem.W.Frag} {x qual : Str} {st : Stmt} {cdv : Value} {f : Addr} {fd : FuncData} {ps ks : List Str} {is : List Nat} {n : Nat} {i : Int}
theorem FunX.dfl (F : FunX K x qual st [.int i] cdv f fd) (hp : n + 1 = ps.length)
    (h : ∀ (T : Addr) (kV doc pm : Value) (an : Option Addr) (cdv ct : Value) (us its : List Value), us.length = n → its.length = 1 →
      ∃ k, bindArgs (PySem.W.fnOf x qual (defArgs st) (defBody st) (defScope st) (.ref T) kV doc pm an cdv ct) ⟨us, []⟩ = seqItems? (.ref T) >>= k ∧ k (some its.toArray) = pure (ps.zip (us ++ its))) : DflI K fd ps i := by
  obtain ⟨ds, v, b⟩ := F.d.binds1 (ps := ps) n 0 (by simp) (by simpa using hp) fun T kV doc pm an cdv ct us its h1 h2 => h T kV doc pm an cdv ct us its h1 (by simpa using h2)
  exact ⟨ds, v, b⟩
theorem FunX.looks (F : FunX K x qual st [.int i] cdv f fd) {args : List Value → Args} {g : List Value → List Value → List Value}
    (h : ∀ (T : Addr) (kV doc pm : Value) (an : Option Addr) (cdv ct : Value) (its : List Value), its.length = 1 → ∀ us ws : List Value, us.length = n → ws.length = ks.length →
      ∃ k, bindArgs (PySem.W.fnOf x qual (defArgs st) (defBody st) (defScope st) (.ref T) kV doc pm an cdv ct) ⟨us, ks.zip ws⟩ = seqItems? (.ref T) >>= k ∧ k (some its.toArray) = pure (ps.zip (us ++ (pick is ws ++ (if is.length + n = ps.length then [] else its))))) :
    ∃ its, Vals [V.int i] its ∧ ∀ (s : Shared) (us ws : List Value), K.In s.heap → us.length = n → ws.length = ks.length → BindsTo s fd ⟨us, ks.zip ws⟩ (ps.zip (us ++ (pick is ws ++ (if is.length + n = ps.length then [] else its)))) := by
  obtain ⟨oc, od, dV, kV, doc, pm, an, ct, osl, rfl, lk, hcd, hD⟩ := F.ex
  rcases hD with ⟨e, _⟩ | ⟨_, T, o, its, m, rfl, lT, oT, rT⟩
  · cases e
  · refine ⟨its, rT, fun s us ws X h1 h2 => ?_⟩
    obtain ⟨k, e1, e2⟩ := h T kV doc pm an cdv ct its rT.length.symm us ws h1 h2
    refine BindsTo.of_looks fun M => ?_
    rw [e1]
    exact looks_items X lT oT (.of_pure e2)
theorem FunX.kwd (F : FunX K x qual st [.int i] cdv f fd) (hn : is.length + n ≠ ps.length)
    (h : ∀ (T : Addr) (kV doc pm : Value) (an : Option Addr) (cdv ct : Value) (its us ws : List Value), its.length = 1 → us.length = n → ws.length = ks.length →
      ∃ k, bindArgs (PySem.W.fnOf x qual (defArgs st) (defBody st) (defScope st) (.ref T) kV doc pm an cdv ct) ⟨us, ks.zip ws⟩ = seqItems? (.ref T) >>= k ∧ k (some its.toArray) = pure (ps.zip (us ++ (pick is ws ++ its)))) : KwD K fd ps ks is n i := by
  obtain ⟨its, v, b⟩ := F.looks (n := n) (ks := ks) (is := is) (ps := ps) (args := fun _ => ⟨[], []⟩) (g := fun a _ => a) fun T kV doc pm an cdv ct its h0 us ws h1 h2 => by rw [if_neg hn]; exact h T kV doc pm an cdv ct its us ws h0 h1 h2
  rw [if_neg hn] at b
  exact ⟨its, v, b⟩
theorem FunX.kwn (F : FunX K x qual st [.int i] cdv f fd) (hn : is.length + n = ps.length)
    (h : ∀ (T : Addr) (kV doc pm : Value) (an : Option Addr) (cdv ct : Value) (its us ws : List Value), its.length = 1 → us.length = n → ws.length = ks.length →
      ∃ k, bindArgs (PySem.W.fnOf x qual (defArgs st) (defBody st) (defScope st) (.ref T) kV doc pm an cdv ct) ⟨us, ks.zip ws⟩ = seqItems? (.ref T) >>= k ∧ k (some its.toArray) = pure (ps.zip (us ++ pick is ws))) : KwN K fd ps ks is n := by
  obtain ⟨its, v, b⟩ := F.looks (n := n) (ks := ks) (is := is) (ps := ps) (args := fun _ => ⟨[], []⟩) (g := fun a _ => a) fun T kV doc pm an cdv ct its h0 us ws h1 h2 => by rw [if_pos hn, List.append_nil]; exact h T kV doc pm an cdv ct its us ws h0 h1 h2
  rw [if_pos hn] at b
  exact ⟨fun s us ws X h1 h2 => by have := b s us ws X h1 h2; rwa [List.append_nil] at this⟩
end
end PL
/-! all([truth values]); isinstance(x, (T, U)) -/
namespace PL
open PySem PySem.Spec PyProof.Rows L2
section
variable {c : Ctx} {X : Cx} {S : AS} {Γ : Gam} {M : Cells} {σ : L2.St} {e : Expr} {pos p : Pos} {Q : D → Cells → Prop}
theorem reads_bools {h : Heap} : ∀ (bs : List Bool) (vs : List Value), Vals (bs.map V.bl) vs → ∃ as, ReadsAll h vs (bs.map PyData.bool) as
  | [], _, .nil => ⟨_, .nil⟩
  | b :: bs, _, .cons r t => by
    obtain ⟨as, h2⟩ := reads_bools bs _ t
    obtain rfl := (show _ = Value.bool b from r)
    exact ⟨_, .cons (.bool b) h2⟩
theorem cr_allB (hc : X.calm = true) : CallR X (.builtin "all") (fun xs H Q => ∃ (p : Addr) (bs : List Bool), xs = [.ref p] ∧ SqL X.K H p (bs.map V.bl) ∧ Q (.bl (bs.all id)) H) := by
  intro pins s σ H xs us Q I r h
  obtain ⟨p, bs, rfl, hq, q⟩ := h
  obtain ⟨u, rfl, rx⟩ := vals1 r
  cases rx
  obtain ⟨its, r', pl, hz⟩ := I.list hq
  obtain ⟨as, hr⟩ := reads_bools (h := s.heap) bs its r'
  refine PySem.W.all_list_data (I.ok.hd hc) pl.isList (by simpa using hr) ?_ ?_ fun h' tk kp => ?_
  · clear hr hq q hz r'
    induction bs with
    | nil => rfl
    | cons b bs ih => simpa [PyData.plainAll, PyData.plain] using ih
  · intro x hx
    obtain ⟨b, _, rfl⟩ := List.mem_map.mp hx
    simp [PyData.fits63]
  · have e : ((bs.map PyData.bool).all PyData.truthy) = bs.all id := by rw [List.all_map]; rfl
    rw [e]
    exact ⟨.bl _, H, I.kept fun b o e => kp b o e, rfl, q⟩
def rAllB (K : PySem.W.Frag) : List V → Hp → VK → Prop := fun xs H Q => ∃ (p : Addr) (bs : List Bool), xs = [.ref p] ∧ SqL K H p (bs.map V.bl) ∧ Q (.bl (bs.all id)) H
theorem reps_bools {K : PySem.W.Frag} {A : AS} {H : Hp} : ∀ {bs : List Bool} {us : List V}, Reps K A H us (bs.map D.bl) → us = bs.map V.bl
  | [], _, .nil => rfl
  | b :: bs, _, .cons r t => by cases r; rw [reps_bools t]; rfl
/-- all(e), e a list of truth values -/
theorem we_allB (hg : GlC c.sc "all") (hm : c.mg "all" = none) (h : WE c e Γ M fun d M1 => ∃ bs : List Bool, d = .lst (bs.map D.bl) ∧ Q (.bl (bs.all id)) M1)
    (he : ∀ env, starEach [e] env = (false, eval e env) :: starEach [] env := by intro _; rfl) (hcm : c.calm = true := by first | rfl | assumption) : WE c (.Call (.Name "all" p) [e] [] pos) Γ M Q :=
  we_callB1 (r := rAllB c.K) (fun X i => by rw [← i.K]; exact cr_allB (i.calm hcm)) hg hm (by decide +kernel) (h.imp fun d M1 ⟨bs, e1, q⟩ S H v c1 r1 Q' hq => by
    subst e1
    cases r1 with
    | lst h1 h2 =>
      have ev := reps_bools h2
      subst ev
      exact ⟨_, bs, rfl, h1.sq, hq _ _ _ _ c1 .refl .bl q⟩) (he := he)
/-- isinstance(a, (T, U)), T and U built in -/
theorem we_isi2 {a : Expr} {T U : String} {n m : Str} {p2 p3 p4 tp : Pos} {kk : Nat} (hg : GlC c.sc "isinstance") (hm : c.mg "isinstance" = none) (hg2 : GlC c.sc n) (hm2 : c.mg n = none) (hT : bootBuiltins n = some (.type T)) (hg3 : GlC c.sc m) (hm3 : c.mg m = none) (hU : bootBuiltins m = some (.type U))
    (h : WE c a Γ M fun d M1 => ∃ d' t k l, View M1 d d' ∧ d'.tyN = some t ∧ kitB t T = some k ∧ kitB t U = some l ∧ Q (.bl (k || l)) M1)
    (na : ∀ env, starEach [a, .Tuple [.Name n p3, .Name m p4] kk tp] env = (false, eval a env) :: starEach [.Tuple [.Name n p3, .Name m p4] kk tp] env := by intro _; rfl)
    (hn : n ≠ "__name__" := by decide) (hd : (n == ("__debug__" : Str)) = false := by decide) (hn2 : m ≠ "__name__" := by decide) (hd2 : (m == ("__debug__" : Str)) = false := by decide) :
    WE c (.Call (.Name "isinstance" p2) [a, .Tuple [.Name n p3, .Name m p4] kk tp] [] pos) Γ M Q := .mk fun X S σ H at_ Q' hq =>
  PE.to (pe_callB call_isiT (at_.is.gl hg) (at_.is.mgN hm) PyProof.Rows.boot_isinstance (pa_cons wE.pe (pa_cons (pe_tup (pa_cons (pe_bltn (v := .ty T) (at_.is.gl hg2) (at_.is.mgN hm2) hT rfl hn hd) (pa_cons (pe_bltn (v := .ty U) (at_.is.gl hg3) (at_.is.mgN hm3) hU rfl hn2 hd2) pa_nil) rfl)) pa_nil) (na _)) (by decide) (by decide) (na _) (by rfl)) (h.run X S σ H at_ _ fun v1 H1 d1 M1 c1 s1 r1 ⟨d', t, k, l, w, ht, hk, hl, q⟩ => by
    refine ⟨by show 2 ≤ sizeLine; rw [sizeLine_eq]; omega, fun p np => ?_⟩
    have c2 := c1.new (o := .tup [.ty T, .ty U]) np
    have st : Step M1 M1 H1 (upd H1 p (.tup [.ty T, .ty U])) := Step.same (same_new np)
    refine ⟨v1, p, _, .type t, [.type T, .type U], k || l, rfl, upd_same, .cons (.ty T) (.cons (.ty U) .nil), ?_, ?_, hq _ _ _ _ c2 (s1.trans st) .bl q⟩
    · rw [at_.is.K]
      exact (w.rep c2 (r1.to st.to)).ty ht
    · unfold PySem.W.kitAny
      rw [kit_ty hk]
      cases k with
      | true => rfl
      | false =>
        unfold PySem.W.kitAny
        rw [kit_ty hl]
        cases l <;> rfl)
end
end PL
/-! comprehensions over lists whose list is left as a cell -/
namespace PL
open PySem PySem.Spec PyProof.Rows L2
section
variable {c : Ctx} {X : Cx} {S : AS} {Γ : Gam} {M : Cells} {σ : L2.St} {elt tg iter : Expr} {ifs : List Expr} {pos : Pos} {Q : D → Cells → Prop} {scope : Scope} {own : List (Str × Nat)} {α : Type} {xs : List α} {f : α → D}
theorem lcc_filter (p : α → Bool) (g : α → D) {vs0 : List Nat} (hz : xs.length ≤ sizeLine) (hs : ∀ y ∈ xs, Turn1 c scope vs0 tg elt ifs (f y) Γ M (fun d M4 => p y = true ∧ d = g y ∧ M4 = M) (fun M4 => p y = false ∧ M4 = M)) (q : ∀ a, Q (.ptr a) ((a, .lst ((xs.filter p).map g)) :: M)) :
    LcC c scope vs0 tg elt ifs Γ xs f (fun pre acc M2 => acc = (pre.filter p).map g ∧ M2 = M) M Q := by
  obtain ⟨h1, h2, h3, _⟩ := lcq_filter (Q := fun _ _ => True) p g hz hs trivial
  refine ⟨h1, h2, h3, ?_⟩
  rintro acc M2 a _ ⟨rfl, rfl⟩
  exact q a
theorem we_lcLC (own : List (Str × Nat)) (hb : blkC c.N c.sc scope own = true) (xs : List α) (f : α → D) (Inv : List α → List D → Cells → Prop) (h : WE c iter Γ M fun d M1 => d = .lst (xs.map f) ∧ LcC c scope (own.map (·.2)) tg elt ifs Γ xs f Inv M1 Q)
    (hs : ∀ env x, foldedSetIterable iter env x = pure x := by intro _ _; rfl) (hcm : c.calm = true := by first | rfl | assumption) : WE c (.ListComp elt [⟨tg, iter, ifs, 0⟩] scope pos) Γ M Q := .mk fun X S σ H at_ Q' hq =>
  PE.to (pe_lc (at_.is.calm hcm) at_.is.nd (pi_list wE.pe) (at_.blkOk hb) (fun s H C cl fp => gB.pg s H C cl fp) (fun s H C cl fp => ttB.pts s H C cl fp) (fun s H C cl fp => tB.pe s H C cl fp) (hs _)) (h.run X S σ H at_ _ fun v1 H1 d1 M1 c1 s1 r1 ⟨e1, q⟩ => by
    subst e1
    cases r1 with
    | @lst a us _ h1 h2 =>
      refine ⟨_, rfl, ⟨_, by rw [at_.is.K]; exact h1.sq⟩, fun D0 hn => ?_⟩
      obtain ⟨hz, h0, hst, hd⟩ := q
      have hl : us.length = xs.length := by rw [h2.length, List.length_map]
      refine lc_list (xs := us) (Qd := Q' (.ref D0)) (fun i H2 => ∃ acc M2, Core c.K S ((D0, .lst acc) :: M2) H2 ∧ Step M1 ((D0, .lst acc) :: M2) H1 H2 ∧ acc.length ≤ i ∧ Inv (xs.take i) acc M2) ?_ (fun i H _ p => ?_) (fun i v H hv p => ?_) (fun H p => ?_)
      · have k := c1.cell (o := .lst []) (m := .lst []) hn ⟨[], rfl, .nil⟩
        exact ⟨[], M1, k.1, k.2, Nat.le_refl _, h0⟩
      · obtain ⟨acc, M2, c2, s2, _, _⟩ := p
        rw [at_.is.K]
        exact (s2.to.rdl h1).sq
      · obtain ⟨acc, M2, c2, s2, hla, inv⟩ := p
        obtain ⟨d, hd', rd⟩ := h2.getV hv
        rw [List.getElem?_map] at hd'
        cases ex : xs[i]? with
        | none => rw [ex] at hd'; cases hd'
        | some z =>
          rw [ex] at hd'
          have ed : f z = d := Option.some.inj hd'
          subst ed
          obtain ⟨hi, _⟩ := List.getElem?_eq_some_iff.mp ex
          obtain ⟨sp, tk⟩ := split_at ex
          refine lc_turn at_.is hcm (at_.slots.to s1.to) c2 s2 (rd.to s2.to) (by omega) (hst _ z _ acc M2 sp (by rw [List.length_take]; omega) inv) ?_ ?_
          · intro d M4 H' c4 s4 q
            exact ⟨_, M4, c4, s4, by simp; omega, by rw [tk]; exact q⟩
          · intro M4 H' c4 s4 q
            exact ⟨_, M4, c4, s4, by omega, by rw [tk]; exact q⟩
      · obtain ⟨acc, M2, c2, s2, hla, inv⟩ := p
        rw [hl, List.take_length] at inv
        exact hq _ _ _ _ c2 (s1.trans s2) .ptr (hd acc M2 D0 (by omega) inv))
end
end PL
/-! comprehensions told late, their list left as a cell; xs.clear() -/
namespace PL
open PySem PySem.Spec PyProof.Rows L2
section
variable {c : Ctx} {X : Cx} {S : AS} {Γ : Gam} {M : Cells} {σ : L2.St} {a elt tg iter : Expr} {ifs : List Expr} {pos : Pos} {Q : D → Cells → Prop} {scope : Scope} {own : List (Str × Nat)} {α : Type} {f : α → D}
theorem we_lcLxC (own : List (Str × Nat)) (hb : blkC c.N c.sc scope own = true) (f : α → D) (h : WE c iter Γ M fun d M1 => ∃ xs : List α, d = .lst (xs.map f) ∧ ∃ Inv : List α → List D → Cells → Prop, LcC c scope (own.map (·.2)) tg elt ifs Γ xs f Inv M1 Q)
    (hs : ∀ env x, foldedSetIterable iter env x = pure x := by intro _ _; rfl) (hcm : c.calm = true := by first | rfl | assumption) : WE c (.ListComp elt [⟨tg, iter, ifs, 0⟩] scope pos) Γ M Q := .mk fun X S σ H at_ Q' hq =>
  PE.to (pe_lc (at_.is.calm hcm) at_.is.nd (pi_list wE.pe) (at_.blkOk hb) (fun s H C cl fp => gB.pg s H C cl fp) (fun s H C cl fp => ttB.pts s H C cl fp) (fun s H C cl fp => tB.pe s H C cl fp) (hs _)) (h.run X S σ H at_ _ fun v1 H1 d1 M1 c1 s1 r1 ⟨xs, e1, Iv, q⟩ => by
    subst e1
    cases r1 with
    | @lst a us _ h1 h2 =>
      refine ⟨_, rfl, ⟨_, by rw [at_.is.K]; exact h1.sq⟩, fun D0 hn => ?_⟩
      obtain ⟨hz, h0, hst, hd⟩ := q
      have hl : us.length = xs.length := by rw [h2.length, List.length_map]
      refine lc_list (xs := us) (Qd := Q' (.ref D0)) (fun i H2 => ∃ acc M2, Core c.K S ((D0, .lst acc) :: M2) H2 ∧ Step M1 ((D0, .lst acc) :: M2) H1 H2 ∧ acc.length ≤ i ∧ Iv (xs.take i) acc M2) ?_ (fun i H _ p => ?_) (fun i v H hv p => ?_) (fun H p => ?_)
      · have k := c1.cell (o := .lst []) (m := .lst []) hn ⟨[], rfl, .nil⟩
        exact ⟨[], M1, k.1, k.2, Nat.le_refl _, h0⟩
      · obtain ⟨acc, M2, c2, s2, _, _⟩ := p
        rw [at_.is.K]
        exact (s2.to.rdl h1).sq
      · obtain ⟨acc, M2, c2, s2, hla, inv⟩ := p
        obtain ⟨d, hd', rd⟩ := h2.getV hv
        rw [List.getElem?_map] at hd'
        cases ex : xs[i]? with
        | none => rw [ex] at hd'; cases hd'
        | some z =>
          rw [ex] at hd'
          have ed : f z = d := Option.some.inj hd'
          subst ed
          obtain ⟨hi, _⟩ := List.getElem?_eq_some_iff.mp ex
          obtain ⟨sp, tk⟩ := split_at ex
          refine lc_turn at_.is hcm (at_.slots.to s1.to) c2 s2 (rd.to s2.to) (by omega) (hst _ z _ acc M2 sp (by rw [List.length_take]; omega) inv) ?_ ?_
          · intro d M4 H' c4 s4 q
            exact ⟨_, M4, c4, s4, by simp; omega, by rw [tk]; exact q⟩
          · intro M4 H' c4 s4 q
            exact ⟨_, M4, c4, s4, by omega, by rw [tk]; exact q⟩
      · obtain ⟨acc, M2, c2, s2, hla, inv⟩ := p
        rw [hl, List.take_length] at inv
        exact hq _ _ _ _ c2 (s1.trans s2) .ptr (hd acc M2 D0 (by omega) inv))
/-- xs.clear() -/
theorem we_clear {apos : Pos} (h : WE c a Γ M fun x M1 => ∃ (p : Addr) (i : Nat) (ds : List D), x = .ptr p ∧ M1[i]? = some (p, .lst ds) ∧ Q .non (M1.set i (p, .lst [])))
    (hbase : ∀ env, attributeBase a "clear" env (eval a env) = eval a env := by intro _; rfl) (hline : (apos.endLine == pos.line) = true := by rfl) : WE c (.Call (.Attribute a "clear" apos) [] [] pos) Γ M Q :=
  we_listM0 (f := fun ds z ds' => z = .non ∧ ds' = []) PySem.F.slot_list_clear PySem.F.type_list_clear (fun X => mt_clear)
    (fun {c S M H p vs ds z ds' Q'} hp rs hf q => by
      obtain ⟨e1, e2⟩ := hf
      subst e1 e2
      exact ⟨p, vs, rfl, rfl, hp, q _ _ .non .nil⟩)
    (.mk fun X S σ H at_ Q' hq => h.run X S σ H at_ Q' fun v H' d M' c1 s1 r1 ⟨p, i, ds, e1, hi, q⟩ => hq v H' d M' c1 s1 r1 ⟨p, i, ds, .non, _, e1, hi, ⟨rfl, rfl⟩, q⟩) hbase hline
end
section
variable {c : Ctx} {Γ : Gam} {M : Cells} {a b : Expr} {pos : Pos} {R : Bool → Cells → Prop}
/-- a < b <= c of ints, as a test -/
theorem wt_ltLe {d : Expr} (h : WE c a Γ M fun x M1 => WE c b Γ M1 fun y M2 => ∃ i j, x = .int i ∧ y = .int j ∧ (¬ i < j → R false M2) ∧ (i < j → WE c d Γ M2 fun z M3 => ∃ k, z = .int k ∧ R (decide (j ≤ k)) M3))
    (hm : lastMarks [.Lt, .LtE] [b, d] = false := by with_unfolding_all rfl) : WT c (.Compare a [.Lt, .LtE] [b, d] pos) Γ M R := .mk fun X S σ H at_ Q' hq =>
  PT.to (pt_chain op_lt op_le wE.pe wE.pe wE.pe hm) (two h at_ fun v1 v2 H2 d1 d2 M2 c2 s2 r1 r2 ⟨i, j, e1, e2, q1, q2⟩ => by
    subst e1 e2; cases r1; cases r2
    refine ⟨i, j, rfl, rfl, decide (i < j), rfl, ?_⟩
    by_cases hij : i < j
    · rw [decide_eq_true hij]
      refine (q2 hij).run X S σ H2 (at_.step c2 s2) _ fun v3 H3 d3 M3 c3 s3 r3 ⟨k, e3, q⟩ => ?_
      subst e3; cases r3
      exact ⟨j, k, rfl, rfl, _, rfl, hq _ _ _ c3 (s2.trans s3) q⟩
    · rw [decide_eq_false hij]
      exact ⟨false, rfl, hq _ _ _ c2 s2 (q1 hij)⟩)
end
end PL
/-! list(range(n)); comprehensions over ranges whose list is left as a cell -/
namespace PL
open PySem PySem.Spec PyProof.Rows L2
section
variable {c : Ctx} {X : Cx} {S : AS} {Γ : Gam} {M : Cells} {σ : L2.St} {a elt tg iter : Expr} {ifs : List Expr} {pos : Pos} {Q : D → Cells → Prop} {scope : Scope} {own : List (Str × Nat)} {α : Type} {f : α → D} {E : PEnds}
theorem Reps.of_range {K : PySem.W.Frag} {A : AS} {H : Hp} (lo : Int) : ∀ l : List Nat, Reps K A H (l.map fun i => V.int (lo + (i : Nat))) (l.map fun (k : Nat) => D.int (lo + (k : Int)))
  | [] => .nil
  | _ :: l => .cons .int (Reps.of_range lo l)
/-- list(range(n)) -/
theorem we_listRg {p p2 q : Pos} (hg : GlC c.sc "list") (hm : c.mg "list" = none) (hg2 : GlC c.sc "range") (hm2 : c.mg "range" = none) (h : WE c a Γ M fun d M1 => ∃ n : Int, d = .int n ∧ (0 ≤ n ∧ n ≤ 16777216) ∧ Q (.lst ((List.range n.toNat).map fun (k : Nat) => .int (0 + (k : Int)))) M1)
    (na : ∀ env, starEach [a] env = (false, eval a env) :: starEach [] env := by intro _; rfl) (hcm : c.calm = true := by first | rfl | assumption) : WE c (.Call (.Name "list" p) [.Call (.Name "range" p2) [a] [] q] [] pos) Γ M Q := .mk fun X S σ H at_ Q' hq =>
  PE.to (pe_listRg (at_.is.calm hcm) (at_.is.gl hg) (at_.is.mgN hm) (prg_1 (at_.is.gl hg2) (at_.is.mgN hm2) wE.pe (na _))) (h.run X S σ H at_ _ fun v1 H1 d1 M1 c1 s1 r1 ⟨n, e1, hn, q⟩ => by
    subst e1; cases r1
    refine ⟨n, rfl, RgOk.of_le (by decide) hn.2 (by decide) hn.1, fun p np => ?_⟩
    refine hq _ _ _ _ (c1.new np) (s1.trans (Step.same (same_new np))) (.lst (.inl ⟨c1.free np, .inl upd_same⟩) ?_) q
    show Reps _ _ _ (rgV 0 n) _
    unfold rgV
    rw [Int.sub_zero]
    exact Reps.of_range 0 _)
theorem lcc_B {β : Type} {xs : List α} (h : β → D) (Inv : List α → List β → Cells → Prop) {vs0 : List Nat} (hz : xs.length ≤ sizeLine) (h0 : Inv [] [] M)
    (hs : ∀ pre y post bs M2, xs = pre ++ y :: post → bs.length ≤ pre.length → Inv pre bs M2 → Turn1 c scope vs0 tg elt ifs (f y) Γ M2 (fun d M4 => ∃ b, d = h b ∧ Inv (pre ++ [y]) (bs ++ [b]) M4) (fun M4 => Inv (pre ++ [y]) bs M4))
    (hd : ∀ bs M2 p, bs.length ≤ xs.length → Inv xs bs M2 → Q (.ptr p) ((p, .lst (bs.map h)) :: M2)) : LcC c scope vs0 tg elt ifs Γ xs f (fun pre acc M2 => ∃ bs, acc = bs.map h ∧ Inv pre bs M2) M Q := by
  obtain ⟨h1, h2, h3, _⟩ := lcq_B (Q := fun _ _ => True) h Inv hz h0 hs fun _ _ _ _ => trivial
  refine ⟨h1, h2, h3, ?_⟩
  rintro acc M2 p hl ⟨bs, rfl, hi⟩
  rw [List.length_map] at hl
  exact hd bs M2 p hl hi
theorem we_lcRC {p p' : Pos} (own : List (Str × Nat)) (hb : blkC c.N c.sc scope own = true) (hg : GlC c.sc "range") (hm : c.mg "range" = none) (Inv : List Nat → List D → Cells → Prop)
    (h : WE c a Γ M fun d M1 => ∃ n : Int, d = .int n ∧ -(2 ^ 62) ≤ n ∧ n < 2 ^ 62 ∧ LcC c scope (own.map (·.2)) tg elt ifs Γ (List.range n.toNat) (fun k => .int (0 + (k : Int))) Inv M1 Q)
    (hst : ∀ env, starEach [a] env = (false, eval a env) :: starEach [] env := by intro _; rfl) (hs : ∀ env x, foldedSetIterable (.Call (.Name "range" p) [a] [] p') env x = pure x := by intro _ _; rfl) (hcm : c.calm = true := by first | rfl | assumption) : WE c (.ListComp elt [⟨tg, .Call (.Name "range" p) [a] [] p', ifs, 0⟩] scope pos) Γ M Q := .mk fun X S σ H at_ Q' hq =>
  PE.to (pe_lc (at_.is.calm hcm) at_.is.nd (pi_range1 (at_.is.gl hg) (at_.is.mgN hm) (pa_cons wE.pe pa_nil (hst _)) (by rw [hst]; rfl)) (at_.blkOk hb) (fun s H C cl fp => gB.pg s H C cl fp) (fun s H C cl fp => ttB.pts s H C cl fp) (fun s H C cl fp => tB.pe s H C cl fp) (hs _)) (h.run X S σ H at_ _ fun v1 H1 d1 M1 c1 s1 r1 ⟨n, e1, b1, b2, q⟩ => by
    subst e1
    cases r1
    exact ⟨n, rfl, b1, b2, lcR_coreC at_.is hcm c1 (at_.slots.to s1.to) q fun v H' d M' c2 s2 r2 q2 => hq v H' d M' c2 (s1.trans s2) r2 q2⟩)
theorem ws_lcRC {p p' : Pos} {i : Nat} {y : Str} {py spos : Pos} (own : List (Str × Nat)) (hb : blkC c.N c.sc scope own = true) (hy : c.N[i]? = some y) (hyl : c.sc.names.lookup y = some .local) (hg : GlC c.sc "range") (hm : c.mg "range" = none) (Inv : List Nat → List D → Cells → Prop)
    (h : WE c a Γ M fun d M1 => ∃ n : Int, d = .int n ∧ -(2 ^ 62) ≤ n ∧ n < 2 ^ 62 ∧ LcC c scope (own.map (·.2)) tg elt ifs Γ (List.range n.toNat) (fun k => .int (0 + (k : Int))) Inv M1 fun d M2 => E.nx (Γ.set i (some d)) M2)
    (hsw : ∀ env, env.scope = c.sc → swapsWith (.ListComp elt [⟨tg, .Call (.Name "range" p) [a] [] p', ifs, 0⟩] scope pos) (some (.Name y py)) spos.line env = pure true := by (rintro ⟨_, _, _, _, _, _, _, _, _⟩ rfl; rfl))
    (hst : ∀ env, starEach [a] env = (false, eval a env) :: starEach [] env := by intro _; rfl) (hs : ∀ env x, foldedSetIterable (.Call (.Name "range" p) [a] [] p') env x = pure x := by intro _ _; rfl) (hcm : c.calm = true := by first | rfl | assumption) : WS c (.Assign [.Name y py] (.ListComp elt [⟨tg, .Call (.Name "range" p) [a] [] p', ifs, 0⟩] scope pos) spos) E Γ M := .mk fun X S σ H at_ Ds l =>
  PS.to (ps_setLc (at_.is.calm hcm) at_.is.nd (at_.is.nm hy) (by rw [at_.is.sc]; exact hyl) (hsw _ at_.is.sc) (pi_range1 (at_.is.gl hg) (at_.is.mgN hm) (pa_cons wE.pe pa_nil (hst _)) (by rw [hst]; rfl)) (at_.blkOk hb) (fun s H C cl fp => gB.pg s H C cl fp) (fun s H C cl fp => ttB.pts s H C cl fp) (fun s H C cl fp => tB.pe s H C cl fp) (hs _)) (h.run X S σ H at_ _ fun v1 H1 d1 M1 c1 s1 r1 ⟨n, e1, b1, b2, q⟩ => by
    subst e1
    cases r1
    exact ⟨n, rfl, b1, b2, lcR_coreC at_.is hcm c1 (at_.slots.to s1.to) q fun v H' d M' c2 s2 r2 q2 => l.nx _ _ _ _ c2 ((at_.slots.to (s1.trans s2).to).set r2) (s1.trans s2) q2⟩)
/-- a comprehension whose turns keep some cells and lend the others -/
theorem lcq_K {β : Type} {xs : List α} (kept : Cells) (h : β → D) (Inv : List α → List β → Cells → Prop) {vs0 : List Nat} (hz : xs.length ≤ sizeLine) (h0 : Inv [] [] M)
    (hs : ∀ pre y post bs Mq, xs = pre ++ y :: post → bs.length ≤ pre.length → Inv pre bs Mq → Turn1 c scope vs0 tg elt ifs (f y) Γ (kept ++ Mq) (fun d M4 => ∃ b M', d = h b ∧ M4 = kept ++ M' ∧ Inv (pre ++ [y]) (bs ++ [b]) M') (fun M4 => ∃ M', M4 = kept ++ M' ∧ Inv (pre ++ [y]) bs M'))
    (hd : ∀ bs Mq, bs.length ≤ xs.length → Inv xs bs Mq → Q (.lst (bs.map h)) (kept ++ Mq)) : LcQ c scope vs0 tg elt ifs Γ xs f (fun pre acc M2 => ∃ bs, acc = bs.map h ∧ ∃ Mq, M2 = kept ++ Mq ∧ Inv pre bs Mq) (kept ++ M) Q := by
  refine lcq_B h (fun pre bs M2 => ∃ Mq, M2 = kept ++ Mq ∧ Inv pre bs Mq) hz ⟨M, rfl, h0⟩ ?_ ?_
  · rintro pre y post bs M2 e hl ⟨Mq, rfl, hi⟩
    obtain ⟨is, us, ht, hv, hw⟩ := hs pre y post bs Mq e hl hi
    refine ⟨is, us, ht, hv, .mk fun X S σ H at_ Q' hq => hw.run X S σ H at_ Q' fun k H' M' c1 s1 b => hq k H' M' c1 s1 ⟨fun hk => .mk fun X S σ H at_ Q' hq => (b.1 hk).run X S σ H at_ Q' fun v H' d M' c1 s1 r1 ⟨b', M5, e1, e2, e3⟩ => hq v H' d M' c1 s1 r1 ⟨b', e1, M5, e2, e3⟩, fun hk => b.2 hk⟩⟩
  · rintro bs M2 hl ⟨Mq, rfl, hi⟩
    exact hd bs Mq hl hi
/-- the same frame and cells, written plainly -/
theorem wss_norm {rest : List Stmt} {Γ' : Gam} {M' : Cells} (hΓ : Γ = Γ') (hM : M = M') (h : WSs c rest E Γ' M') : WSs c rest E Γ M := by
  subst hΓ hM
  exact h
end
end PL
/-! slices up to a variable, from a variable; any([truth values]); comprehensions over cells, their lists left as cells -/
namespace PL
open PySem PySem.Spec PyProof.Rows L2
section
variable {c : Ctx} {X : Cx} {S : AS} {Γ : Gam} {M : Cells} {σ : L2.St} {a b e elt tg iter : Expr} {ifs : List Expr} {pos p : Pos} {Q : D → Cells → Prop} {scope : Scope} {own : List (Str × Nat)} {α : Type} {f : α → D} {E : PEnds}
/-- a[:e] of a list -/
theorem we_takeV {p2 : Pos} (h : WE c a Γ M fun x M1 => WE c e Γ M1 fun y M2 => ∃ ds k, x = .lst ds ∧ y = .int k ∧ 0 ≤ k ∧ Q (.lst (ds.take k.toNat)) M2) : WE c (.Subscript a (.Slice none (some e) none p2) pos) Γ M Q := .mk fun X S σ H at_ Q' hq =>
  PE.to (pe_slice sl_list wE.pe po_none (po_some wE.pe)) (two h at_ fun v1 v2 H2 d1 d2 M2 c2 s2 r1 r2 ⟨ds, k, e1, e2, hk, q⟩ => by
    subst e1 e2
    cases r2
    cases r1 with
    | lst h1 h2 =>
      rw [at_.is.K]
      obtain ⟨m, rfl⟩ : ∃ m : Nat, k = (m : Int) := ⟨k.toNat, by omega⟩
      have e2 : (ds.drop (HT.sIx ds.length 0 none)).take (HT.sIx ds.length ds.length (some (m : Int)) - HT.sIx ds.length 0 none) = ds.take m := by
        rw [HT.sIx_nat, HT.sIx_none, List.drop_zero, Nat.sub_zero]
        by_cases hm : m ≤ ds.length
        · rw [Nat.min_eq_left hm]
        · rw [Nat.min_eq_right (by omega), List.take_of_length_le (Nat.le_refl _), List.take_of_length_le (by omega)]
      refine ⟨m, rfl, _, _, rfl, h1.sq, fun p np => ?_⟩
      have r2 := cutV_D (lo := none) (hi := some (m : Int)) h2
      rw [e2] at r2
      obtain ⟨k1, k2, k3⟩ := fresh_lst (K := c.K) c2 np r2
      exact hq _ _ _ _ k1 (s2.trans k2) k3 q)
/-- a[e:] of a list -/
theorem we_fromV {p2 : Pos} (h : WE c a Γ M fun x M1 => WE c e Γ M1 fun y M2 => ∃ ds k, x = .lst ds ∧ y = .int k ∧ 0 ≤ k ∧ Q (.lst (ds.drop k.toNat)) M2) : WE c (.Subscript a (.Slice (some e) none none p2) pos) Γ M Q := .mk fun X S σ H at_ Q' hq =>
  PE.to (pe_slice sl_list wE.pe (po_some wE.pe) po_none) (two h at_ fun v1 v2 H2 d1 d2 M2 c2 s2 r1 r2 ⟨ds, k, e1, e2, hk, q⟩ => by
    subst e1 e2
    cases r2
    cases r1 with
    | lst h1 h2 =>
      rw [at_.is.K]
      obtain ⟨m, rfl⟩ : ∃ m : Nat, k = (m : Int) := ⟨k.toNat, by omega⟩
      have e2 : (ds.drop (HT.sIx ds.length 0 (some (m : Int)))).take (HT.sIx ds.length ds.length none - HT.sIx ds.length 0 (some (m : Int))) = ds.drop m := by
        rw [HT.sIx_nat]
        show (ds.drop (min m ds.length)).take (ds.length - min m ds.length) = ds.drop m
        rw [List.take_of_length_le (by simp)]
        by_cases hm : m ≤ ds.length
        · rw [Nat.min_eq_left hm]
        · rw [Nat.min_eq_right (by omega), List.drop_of_length_le (Nat.le_refl _), List.drop_of_length_le (by omega)]
      refine ⟨m, rfl, _, _, rfl, h1.sq, fun p np => ?_⟩
      have r2 := cutV_D (lo := some (m : Int)) (hi := none) h2
      rw [e2] at r2
      obtain ⟨k1, k2, k3⟩ := fresh_lst (K := c.K) c2 np r2
      exact hq _ _ _ _ k1 (s2.trans k2) k3 q)
theorem cr_anyB (hc : X.calm = true) : CallR X (.builtin "any") (fun xs H Q => ∃ (p : Addr) (bs : List Bool), xs = [.ref p] ∧ SqL X.K H p (bs.map V.bl) ∧ Q (.bl (bs.any id)) H) := by
  intro pins s σ H xs us Q I r h
  obtain ⟨p, bs, rfl, hq, q⟩ := h
  obtain ⟨u, rfl, rx⟩ := vals1 r
  cases rx
  obtain ⟨its, r', pl, hz⟩ := I.list hq
  obtain ⟨as, hr⟩ := reads_bools (h := s.heap) bs its r'
  refine PySem.W.any_list_data (I.ok.hd hc) pl.isList (by simpa using hr) ?_ ?_ fun h' tk kp => ?_
  · clear hr hq q hz r'
    induction bs with
    | nil => rfl
    | cons b bs ih => simpa [PyData.plainAll, PyData.plain] using ih
  · intro x hx
    obtain ⟨b, _, rfl⟩ := List.mem_map.mp hx
    simp [PyData.fits63]
  · have e : ((bs.map PyData.bool).any PyData.truthy) = bs.any id := by rw [List.any_map]; rfl
    rw [e]
    exact ⟨.bl _, H, I.kept fun b o e => kp b o e, rfl, q⟩
def rAnyB (K : PySem.W.Frag) : List V → Hp → VK → Prop := fun xs H Q => ∃ (p : Addr) (bs : List Bool), xs = [.ref p] ∧ SqL K H p (bs.map V.bl) ∧ Q (.bl (bs.any id)) H
/-- any(e), e a list of truth values -/
theorem we_anyB (hg : GlC c.sc "any") (hm : c.mg "any" = none) (h : WE c e Γ M fun d M1 => ∃ bs : List Bool, d = .lst (bs.map D.bl) ∧ Q (.bl (bs.any id)) M1)
    (he : ∀ env, starEach [e] env = (false, eval e env) :: starEach [] env := by intro _; rfl) (hcm : c.calm = true := by first | rfl | assumption) : WE c (.Call (.Name "any" p) [e] [] pos) Γ M Q :=
  we_callB1 (r := rAnyB c.K) (fun X i => by rw [← i.K]; exact cr_anyB (i.calm hcm)) hg hm (by decide +kernel) (h.imp fun d M1 ⟨bs, e1, q⟩ S H v c1 r1 Q' hq => by
    subst e1
    cases r1 with
    | lst h1 h2 =>
      obtain rfl := reps_bools h2
      exact ⟨_, bs, rfl, h1.sq, hq _ _ _ _ c1 .refl .bl q⟩) (he := he)
theorem lcc_K {β : Type} {xs : List α} (kept : Cells) (h : β → D) (Inv : List α → List β → Cells → Prop) {vs0 : List Nat} (hz : xs.length ≤ sizeLine) (h0 : Inv [] [] M)
    (hs : ∀ pre y post bs Mq, xs = pre ++ y :: post → bs.length ≤ pre.length → Inv pre bs Mq → Turn1 c scope vs0 tg elt ifs (f y) Γ (kept ++ Mq) (fun d M4 => ∃ b M', d = h b ∧ M4 = kept ++ M' ∧ Inv (pre ++ [y]) (bs ++ [b]) M') (fun M4 => ∃ M', M4 = kept ++ M' ∧ Inv (pre ++ [y]) bs M'))
    (hd : ∀ bs Mq p, bs.length ≤ xs.length → Inv xs bs Mq → Q (.ptr p) ((p, .lst (bs.map h)) :: (kept ++ Mq))) : LcC c scope vs0 tg elt ifs Γ xs f (fun pre acc M2 => ∃ bs, acc = bs.map h ∧ ∃ Mq, M2 = kept ++ Mq ∧ Inv pre bs Mq) (kept ++ M) Q := by
  obtain ⟨h1, h2, h3, _⟩ := lcq_K (Q := fun _ _ => True) kept h Inv hz h0 hs fun _ _ _ _ => trivial
  refine ⟨h1, h2, h3, ?_⟩
  rintro acc M2 p hl ⟨bs, rfl, Mq, rfl, hi⟩
  rw [List.length_map] at hl
  exact hd bs Mq p hl hi
/-- x = [.. for tg in xs ..], xs a cell that nobody touches meanwhile, x's list a cell -/
theorem ws_lcCC {i : Nat} {y : Str} {py spos : Pos} (own : List (Str × Nat)) (hb : blkC c.N c.sc scope own = true) (hy : c.N[i]? = some y) (hyl : c.sc.names.lookup y = some .local) (f : α → D)
    (h : WE c iter Γ M fun d M1 => ∃ (p : Addr) (xs : List α) (M2 : Cells), d = .ptr p ∧ M1 = (p, .lst (xs.map f)) :: M2 ∧ ∃ Inv : List α → List D → Cells → Prop, LcC c scope (own.map (·.2)) tg elt ifs Γ xs f Inv M2 fun d M3 => E.nx (Γ.set i (some d)) ((p, .lst (xs.map f)) :: M3))
    (hsw : ∀ env, env.scope = c.sc → swapsWith (.ListComp elt [⟨tg, iter, ifs, 0⟩] scope pos) (some (.Name y py)) spos.line env = pure true := by (rintro ⟨_, _, _, _, _, _, _, _, _⟩ rfl; rfl))
    (hs : ∀ env x, foldedSetIterable iter env x = pure x := by intro _ _; rfl) (hcm : c.calm = true := by first | rfl | assumption) : WS c (.Assign [.Name y py] (.ListComp elt [⟨tg, iter, ifs, 0⟩] scope pos) spos) E Γ M := .mk fun X S σ H at_ Ds l =>
  PS.to (ps_setLc (at_.is.calm hcm) at_.is.nd (at_.is.nm hy) (by rw [at_.is.sc]; exact hyl) (hsw _ at_.is.sc) (pi_list wE.pe) (at_.blkOk hb) (fun s H C cl fp => gB.pg s H C cl fp) (fun s H C cl fp => ttB.pts s H C cl fp) (fun s H C cl fp => tB.pe s H C cl fp) (hs _)) (h.run X S σ H at_ _ fun v1 H1 d1 M1 c1 s1 r1 ⟨p, xs, M2, e1, e2, Iv, q⟩ => by
    subst e1 e2
    cases r1
    obtain ⟨o, ho, us, eo, rs⟩ := c1.at_ (i := 0) rfl
    subst eo
    refine ⟨p, rfl, ⟨us, .inl (.inl ho)⟩, ?_⟩
    intro D0 hn
    obtain ⟨hz, h0, hst, hd⟩ := q
    have cl : Core c.K (av S [(p, .lst (xs.map f))]) M2 H1 := Core.lend (kept := [(p, MO.lst (xs.map f))]) c1
    have hp : p ∉ dom M2 := fun z => (List.nodup_cons.mp c1.nod).1 z
    have toL : To (av S ((p, .lst (xs.map f)) :: M2)) (av (av S [(p, .lst (xs.map f))]) M2) H1 H1 := To.of_iff fun b z => av_app.mp z
    have sl := (at_.slots.to s1.to).to toL
    have rs2 := rs.to toL
    have hl : us.length = xs.length := by rw [rs2.length, List.length_map]
    refine lc_list (xs := us) (Qd := Ds.nx (σ.set i (some (.ref D0)))) (fun i H2 => ∃ acc M3, Core c.K (av S [(p, .lst (xs.map f))]) ((D0, .lst acc) :: M3) H2 ∧ Step M2 ((D0, .lst acc) :: M3) H1 H2 ∧ acc.length ≤ i ∧ Iv (xs.take i) acc M3) ?_ (fun i H _ pv => ?_) (fun i v H hv pv => ?_) (fun H pv => ?_)
    · have k := cl.cell (o := .lst []) (m := .lst []) hn ⟨[], rfl, .nil⟩
      exact ⟨[], M2, k.1, k.2, Nat.le_refl _, h0⟩
    · obtain ⟨acc, M3, c3, s3, _, _⟩ := pv
      exact .inl (.inl (s3.keep p _ hp ho))
    · obtain ⟨acc, M3, c3, s3, hla, inv⟩ := pv
      obtain ⟨z, ex, rd⟩ := getV_map rs2 hv
      obtain ⟨hi, _⟩ := List.getElem?_eq_some_iff.mp ex
      obtain ⟨sp, tk⟩ := split_at ex
      refine lc_turn at_.is hcm sl c3 s3 (rd.to s3.to) (by omega) (hst _ z _ acc M3 sp (by rw [List.length_take]; omega) inv) ?_ ?_
      · intro d M4 H' c4 s4 q
        exact ⟨_, M4, c4, s4, by simp; omega, by rw [tk]; exact q⟩
      · intro M4 H' c4 s4 q
        exact ⟨_, M4, c4, s4, by omega, by rw [tk]; exact q⟩
    · obtain ⟨acc, M3, c3, s3, hla, inv⟩ := pv
      rw [hl, List.take_length] at inv
      obtain ⟨b3, bs3⟩ := Core.back (kept := [(p, MO.lst (xs.map f))]) c1 c3 s3
      exact l.nx _ _ _ _ b3 ((at_.slots.to (s1.trans bs3).to).set .ptr) (s1.trans bs3) (hd acc M3 D0 (by omega) inv))
/-- [..] * k, the list a cell that nobody else has, so is what comes of it -/
theorem we_repC (h : WE c a Γ M fun x M1 => ∃ p, x = .ptr p ∧ WE c b Γ M1 fun y M2 => ∃ (k : Int) (i : Nat) (ds : List D), y = .int k ∧ M2[i]? = some (p, .lst ds) ∧ (-(2 ^ 63) ≤ k ∧ k < 2 ^ 63) ∧ ds.length * k.toNat ≤ sizeLine ∧ ∀ q, Q (.ptr q) ((q, .lst (List.replicate k.toNat ds).flatten) :: M2.eraseIdx i)) : WE c (.BinOp a .Mult b pos) Γ M Q := .mk fun X S σ H at_ Q' hq =>
  PE.to (pe_op op_rep wE.pe wE.pe) (h.run X S σ H at_ _ fun v1 H1 d1 M1 c1 s1 r1 ⟨p, e1, q1⟩ => by
    subst e1; cases r1
    refine q1.run X S σ H1 (at_.step c1 s1) _ fun v2 H2 d2 M2 c2 s2 r2 ⟨k, i, ds, e2, hi, hk, hz, q⟩ => ?_
    subst e2; cases r2
    obtain ⟨o, ho, vs, eo, rs⟩ := c2.at_ hi
    subst eo
    refine ⟨p, k, vs, rfl, rfl, ho, hk.1, hk.2, by rw [rs.length]; exact hz, fun q' np => ?_⟩
    obtain ⟨c3, r3, s3⟩ := c2.freeze hi
    have rf : Reps c.K (av S (M2.eraseIdx i)) H2 vs ds := rs.to s3.to
    obtain ⟨k1, k2⟩ := c3.cell (o := .lst (List.replicate k.toNat vs).flatten) (m := .lst (List.replicate k.toNat ds).flatten) np ⟨_, rfl, rf.flat k.toNat⟩
    exact hq _ _ _ _ k1 (((s1.trans s2).trans s3).trans k2) .ptr (q q'))
/-- for u, v in enumerate(a) -/
theorem ws_forE {tpos ep : Pos} {elts : List Expr} {kk : Nat} {body : List Stmt} (hg : GlC c.sc "enumerate") (hm : c.mg "enumerate" = none) (f : α → D)
    (h : WE c a Γ M fun d1 M1 => ∃ (xs : List α), d1 = .lst (xs.map f) ∧ ∃ Inv : List α → Gam → Cells → Prop, Inv [] Γ M1 ∧
      (∀ pre y post Γ2 M2, xs = pre ++ y :: post → Inv pre Γ2 M2 → WG c (.Tuple elts kk tpos) (.tup [.int (pre.length : Int), f y]) Γ2 M2 fun Γ3 M3 => WSs c body { nx := Inv (pre ++ [y]), ct := Inv (pre ++ [y]), bk := E.nx, rt := E.rt } Γ3 M3) ∧ ∀ Γ2 M2, Inv xs Γ2 M2 → E.nx Γ2 M2)
    (hst : ∀ env, starEach [a] env = (false, eval a env) :: starEach [] env := by intro _; rfl)
    (hs : ∀ env x, foldedSetIterable (.Call (.Name "enumerate" p) [a] [] ep) env x = pure x := by intro _ _; rfl) (hcm : c.calm = true := by first | rfl | assumption) : WS c (.For (.Tuple elts kk tpos) (.Call (.Name "enumerate" p) [a] [] ep) body [] pos) E Γ M := .mk fun X S σ H at_ Ds l => by
  refine PS.to (ps_for at_.is.po (at_.is.calm hcm) (pi_enum (at_.is.gl hg) (at_.is.mgN hm) (pa_cons wE.pe pa_nil (hst _)) (hst _)) wG.pg wSs.pss (hs _)) (h.run X S σ H at_ _ fun v1 H1 d1 M1 c1 s1 r1 ⟨xs, e1, Iv, inv0, step, fin⟩ => ?_)
  subst e1
  cases r1 with
  | lst h1 h2 =>
    rename_i u1 vs
    have hl1 : vs.length = xs.length := by rw [h2.length, List.length_map]
    refine ⟨_, _, rfl, by rw [at_.is.K]; exact h1.sq, for_it (walk_enum (K := X.K) (xs := vs)) (fun i σ2 H2 => ∃ Γ2 M2, Core c.K S M2 H2 ∧ Slots c.K (av S M2) H2 Γ2 σ2 ∧ Step M1 M2 H1 H2 ∧ Iv (xs.take i) Γ2 M2)
      ⟨Γ, M1, c1, at_.slots.to s1.to, .refl, inv0⟩ (fun i σ2 H2 _ ⟨Γ2, M2, c2, sl2, st2, _⟩ => by rw [at_.is.K]; exact (st2.to.rdl h1).sq) ?_ ?_⟩
    · rintro i v σ2 H2 H3 hlt ⟨Γ2, M2, c2, sl2, st2, inv⟩ ⟨T, x', y', rfl, hT, rfl, hx, hy⟩
      cases hx
      obtain ⟨q, eq, rq⟩ := getV_map h2 hy
      obtain ⟨hi, _⟩ := List.getElem?_eq_some_iff.mp eq
      obtain ⟨sp, tk⟩ := split_at eq
      have stT : Step M2 M2 H2 (upd H2 T (.tup [.int (i : Nat), y'])) := Step.same (same_new hT)
      have s3 := st2.trans stT
      have hin : (xs.take i).length = i := by rw [List.length_take]; omega
      have rw1 := step _ q _ Γ2 M2 sp inv
      rw [hin] at rw1
      refine rw1.run X S σ2 _ (at_.slot (c2.new hT) (sl2.to stT.to) (s1.trans s3)) _ (.tup (.inl ⟨c2.free hT, .inl upd_same⟩) (.cons .int (.cons (rq.to s3.to) .nil))) _ fun σ3 H3 Γ3 M3 c3 sl3 st3 q => q.run X S σ3 H3 (at_.slot c3 sl3 ((s1.trans s3).trans st3)) _ ⟨?_, ?_, ?_, ?_⟩
      · intro σ4 H4 Γ4 M4 c4 sl4 st4 q4
        exact ⟨Γ4, M4, c4, sl4, (s3.trans st3).trans st4, by rw [tk]; exact q4⟩
      · intro v4 H4 d4 M4 c4 st4 r4 q4
        exact l.rt v4 H4 d4 M4 c4 (((s1.trans s3).trans st3).trans st4) r4 q4
      · intro σ4 H4 Γ4 M4 c4 sl4 st4 q4
        exact l.nx σ4 H4 Γ4 M4 c4 sl4 (((s1.trans s3).trans st3).trans st4) q4
      · intro σ4 H4 Γ4 M4 c4 sl4 st4 q4
        exact ⟨Γ4, M4, c4, sl4, (s3.trans st3).trans st4, by rw [tk]; exact q4⟩
    · rintro σ2 H2 ⟨Γ2, M2, c2, sl2, st2, inv⟩
      rw [hl1, List.take_length] at inv
      exact l.nx σ2 H2 Γ2 M2 c2 sl2 (s1.trans st2) (fin Γ2 M2 inv)
end
section
variable {c : Ctx} {Γ : Gam} {M : Cells} {e : Expr} {pos : Pos} {E : PEnds}
/-- x, y = e, e a list of two ints -/
theorem ws_unp2 {i j : Nat} {x y : Str} {px py pt : Pos} {kt : Nat} (hi : c.N[i]? = some x) (lx : LocC c x) (hj : c.N[j]? = some y) (ly : LocC c y)
    (h : WE c e Γ M fun d M1 => ∃ acc : List Int, d = .lst (acc.map D.int) ∧ acc.length = 2 ∧ ∀ s m, acc = [s, m] → E.nx ((Γ.set i (some (.int s))).set j (some (.int m))) M1)
    (hs : ∀ env, swapsWithSole [.Tuple [.Name x px, .Name y py] kt pt] e pos.line env = pure false := by intro _; rfl) (hw : ∀ env, env.scope = c.sc → swappedStores [.Tuple [.Name x px, .Name y py] kt pt] e env = pure none := by first | (intro _ _; rfl) | (rintro ⟨_, _, _, _, _, _, _, _, _⟩ rfl; rfl)) (hcm : c.calm = true := by first | rfl | assumption) :
    WS c (.Assign [.Tuple [.Name x px, .Name y py] kt pt] e pos) E Γ M :=
  ws_asgG (.mk fun X S σ H at_ Q' hq => h.run X S σ H at_ Q' fun v H' d M' c1 s1 r1 ⟨acc, e1, hl, k⟩ => hq v H' d M' c1 s1 r1 (by
    match acc, hl, e1, k with
    | [s, m], _, e1, k =>
      subst e1
      exact wg_lst rfl (wgs_cons (wg_name hi lx (wgs_cons (wg_name hj ly (wgs_nil (k s m rfl)))))) (hcm := hcm))) hs hw
end
end PL
/-! lists told backwards -/
namespace L2
open PySem PySem.Spec PyProof.Rows
section
variable {X : Cx} {e k : Expr} {te tk : TE} {pos p2 : Pos}
/-- xs[::-1] -/
theorem pe_rev (he : PE X e te) (hk : PE X k tk) : PE X (.Subscript e (.Slice none none (some k) p2) pos) (fun σ H Q => te σ H fun x H1 => tk σ H1 fun y H2 => y = .int (-1) ∧ ∃ a xs, x = .ref a ∧ SqL X.K H2 a xs ∧ ∀ p, H2 p = none → Q (.ref p) (upd H2 p (.lst xs.reverse))) := by
  refine ⟨fun pins s σ H Q I h => ?_⟩
  refine Subscript_ (thn (he.run pins s σ H _ I h) fun v s1 ⟨x, H1, I1, r1, q1⟩ => ?_)
  refine wpAny_Slice (thn (po_none.run pins s1 σ H1 (fun o H' => o = none ∧ H' = H1) I1 ⟨rfl, rfl⟩) fun vl s2 ⟨l, H2, I2, pl, e1, e2⟩ => ?_)
  subst e1 e2
  refine thn (po_none.run pins s2 σ H2 (fun o H' => o = none ∧ H' = H2) I2 ⟨rfl, rfl⟩) fun vu s3 ⟨u, H3, I3, pu, e3, e4⟩ => ?_
  subst e3 e4
  rw [evalPart_some]
  refine thn (hk.run pins s3 σ H3 _ I3 q1) fun vs s4 ⟨y, H4, I4, r4, ey, a, xs, ex, hx, q⟩ => ?_
  subst ey ex
  obtain ⟨t, rfl⟩ := r4
  cases r1
  have I5 : Inv X pins σ H4 { s4 with heap := s4.heap.push { cls := .type "slice", data := .fields #[vl, vu, .int (-1) t] } } := I4.kept (t' := s4.toks) fun b ob q => Heap.get?_push_of_some _ q
  obtain ⟨its, r, ht, hz⟩ := I5.list hx
  have hlen := r.length
  have hg : wpAny (model X.prog X.w) X.A (getItem (.ref a) (.ref s4.heap.objs.size)) (EP X pins σ Q) X.xe { s4 with heap := s4.heap.push { cls := .type "slice", data := .fields #[vl, vu, .int (-1) t] } } := by
    refine wpAny_getItem_list_slice ht.isList (Heap.IsSliceOf.new ..) pl pu (.int _ _) (by decide) ?_ (by rw [List.size_toArray]; omega)
    rw [PySem.W.krv_pick]
    refine ⟨.ref (s4.heap.push ({ cls := .type "slice", data := .fields #[vl, vu, .int (-1) t] } : Obj)).objs.size, _, I5.laid (t' := s4.toks) (o := .lst xs.reverse) (fun b ob q => Heap.get?_push_of_some _ q) (Nat.le_refl _) ?_, rfl, q _ (I5.hok.fresh (Nat.le_refl _))⟩
    exact ⟨by rw [List.length_reverse]; exact hz, _, 0, r.reverse, Heap.get?_push_size _ rfl⟩
  show wpAny (model X.prog X.w) X.A (subscriptTail e (.Slice none none (some k) p2) (.ref a) (.ref s4.heap.objs.size)) (EP X pins σ Q) X.xe { s4 with heap := s4.heap.push { cls := .type "slice", data := .fields #[vl, vu, .int (-1) t] } }
  exact tail_any (ops := [.ref a, .ref s4.heap.objs.size]) ht.isList.typeIs slot_list_getitem.lookup hg (by with_unfolding_all rfl)
end
end L2
namespace PL
open PySem PySem.Spec PyProof.Rows L2
section
variable {c : Ctx} {X : Cx} {S : AS} {Γ : Gam} {M : Cells} {σ : L2.St} {a b e elt tg iter : Expr} {pos p2 : Pos} {Q : D → Cells → Prop}
/-- xs[::-1] -/
theorem we_revL (h : WE c a Γ M fun x M1 => WE c e Γ M1 fun y M2 => ∃ ds, x = .lst ds ∧ y = .int (-1) ∧ Q (.lst ds.reverse) M2) : WE c (.Subscript a (.Slice none none (some e) p2) pos) Γ M Q := .mk fun X S σ H at_ Q' hq =>
  PE.to (pe_rev wE.pe wE.pe) (two h at_ fun v1 v2 H2 d1 d2 M2 c2 s2 r1 r2 ⟨ds, e1, e2, q⟩ => by
    subst e1 e2
    cases r2
    cases r1 with
    | lst h1 h2 =>
      rw [at_.is.K]
      refine ⟨rfl, _, _, rfl, h1.sq, fun p np => ?_⟩
      obtain ⟨k1, k2, k3⟩ := fresh_lst (K := c.K) c2 np h2.reverse
      exact hq _ _ _ _ k1 (s2.trans k2) k3 q)
end
end PL
/-! powers of greater ints -/
namespace L2
open PySem PySem.Spec PyProof.Rows
/-- i has up to a thousand bits, j is small -/
def CPowW (i j : Int) : Prop := 0 ≤ j ∧ j ≤ 1000 ∧ i.natAbs < 2 ^ 1000
section
variable {X : Cx}
theorem op_powW : OpR X (binaryOp .Pow) (rI CPowW fun i j => .int (i ^ j.toNat)) := opI fun i j _ _ _ _ _ hc q => by
  refine pow_int hc.1 ?_ q
  have h1 : Builtin.Int.intBits i ≤ 1000 := PySem.intBits_le_iff.mpr hc.2.2
  have h2 : (Builtin.Int.intBits i : Int) * j ≤ 1000 * 1000 := by
    have a := Int.mul_le_mul_of_nonneg_right (show (Builtin.Int.intBits i : Int) ≤ 1000 by omega) hc.1
    have b := Int.mul_le_mul_of_nonneg_left hc.2.1 (show (0 : Int) ≤ 1000 by decide)
    omega
  omega
end
end L2
namespace PL
open PySem PySem.Spec PyProof.Rows L2
section
variable {c : Ctx} {X : Cx} {S : AS} {Γ : Gam} {M : Cells} {σ : L2.St} {a b e elt tg iter : Expr} {pos p2 : Pos} {Q : D → Cells → Prop}
theorem we_powW (h : WE c a Γ M fun x M1 => WE c b Γ M1 fun y M2 => ∃ i j, x = .int i ∧ y = .int j ∧ CPowW i j ∧ Q (.int (i ^ j.toNat)) M2) : WE c (.BinOp a .Pow b pos) Γ M Q := we_opI (fun X => op_powW) h
end
end PL
/-! plain functions as values -/
namespace PL
open PySem PySem.Spec PyProof.Rows L2
/-- a function that stands, whatever holds it -/
structure FVal (P : Program) (w : World) (K : PySem.W.Frag) (mg : Str → Option Value) (base : Heap) (f : Addr) (fd : FuncData) (ps : List Str) (k : Nat) (pf : PF) : Prop where
  kp : PySem.W.keepIn K (.ref f) = true
  binds : Binds K fd ps []
  ok : FnOk P w K mg base (L2.CX P w) k f fd ps (liftF K pf)
theorem Def.fval {P : Program} {w : World} {K : PySem.W.Frag} {mg : Str → Option Value} {base : Heap} {x : Str} {f : Addr} {fd : FuncData} {ps : List Str} {k : Nat} {pf : PF} (F : Def P w K mg base x f fd ps k pf) : FVal P w K mg base f fd ps k pf := ⟨F.kp, F.binds, F.ok⟩
theorem Def.glob {P : Program} {w : World} {K : PySem.W.Frag} {mg : Str → Option Value} {base : Heap} {x : Str} {f : Addr} {fd : FuncData} {ps : List Str} {k : Nat} {pf : PF} (F : Def P w K mg base x f fd ps k pf) : PGlob K mg x (.ptr f) := ⟨_, .ref f, F.mgx, rfl, fun _ _ => .ptr⟩
section
variable {c : PL.Ctx} {X : Cx} {S : AS} {Γ Γ' : Gam} {M M' : Cells} {σ σ' : L2.St} {H H' : Hp} {e : Expr} {es : List Expr} {pos p : Pos} {Q : D → Cells → Prop} {x : Str}
/-- x(..), x a variable that holds a function -/
theorem we_callV {i k : Nat} {f : Addr} {fd : FuncData} {ps : List Str} {pf : PF} (F : FVal c.P c.w c.K c.mg c.base f fd ps k pf) (hk : k ≤ c.k) (hN : c.N[i]? = some x) (hv : VisC c.sc x) (gΓ : Γ[i]? = some (some (.ptr f)))
    (h : WA c (e :: es) Γ M fun ds M1 => Callee c pf Γ ds M1 Q)
    (hdb : (x == ("__debug__" : Str)) = false := by decide) (hcd : (x == ("__classdict__" : Str)) = false := by decide)
    (he : ∀ env, starEach (e :: es) env = (false, eval e env) :: starEach es env := by intro _; rfl) (hpl : ∀ env, (backTo pos (starEach es env)).any (·.1) = false := by intro _; rfl) (hcm : c.calm = true := by first | rfl | assumption) :
    WE c (.Call (.Name x p) (e :: es) [] pos) Γ M Q := .mk fun X S σ H at_ Q' hq => by
  obtain ⟨W, tk, hW⟩ := at_.land
  have eP := at_.is.prog; have ew := at_.is.w; have eK := at_.is.K; have emg := at_.is.mg; have eb := at_.is.base
  have F' : FnOk X.prog X.w X.K X.mg X.base (L2.CX X.prog X.w) k f fd ps (liftF c.K pf) := by rw [eP, ew, eK, emg, eb]; exact F.ok
  intro pins s I
  obtain ⟨v0, hv0, r0⟩ := at_.slots.at_ i _ gΓ
  cases r0
  refine wpAny_Call_Name_kw (thn ((pe_var (pos := p) (at_.is.nm hN) (at_.is.vis hv) hdb hcd).run pins s σ H (fun v H1 => v = .ref f ∧ H1 = H) I ⟨.ref f, hv0, rfl, rfl⟩) fun u s1 ⟨v, H1, I1, r1, q1⟩ => ?_)
  obtain ⟨ev, eH⟩ := q1
  subst ev
  rw [eH] at I1
  obtain rfl : u = Value.ref f := r1
  refine PySem.W.callWith_K (h₀ := X.base) I1.ok.mod.kin (by rw [eK]; exact F.kp) (thn (wA.pa.run pos pins s1 σ H (fun vs H2 => liftF c.K pf vs H2 Q' (fun cls d H' => W cls d σ H')) I1 ?_) fun us s2 ⟨vs, H2, I2, rv, q⟩ => ⟨I2.kIn, ?_⟩) (he _) (hpl _)
  · refine h.run X S σ H at_ _ fun vs H2 ds M1 c1 s1' r1' q => ?_
    exact q.lift (at_.step c1 s1') r1' (fun C dd v d σ' H' Γ' M' c2 sl2 st2 => hW C dd v d σ' H' Γ' M' c2 sl2 (s1'.trans st2)) fun v H' d M' c2 st2 => hq v H' d M' c2 (s1'.trans st2)
  · exact L2.run_fnS (E := L2.WE W) F' ((at_.is.room hcm).mono hk) (by rw [eK]; exact F.binds) (passAt tk σ) I2 rv q
end
end PL
/-! a dict of the module, its keys texts -/
namespace PL
open PySem PySem.Spec PyProof.Rows L2
structure KDt (K : PySem.W.Frag) (w : World) (d : Addr) (kvs : List (Str × D)) : Prop where
  raw : ∃ (es : Array DictEntry) (n : Nat), K.lookup d = some ⟨.type "dict", none, .dict es n, #[]⟩ ∧ PySem.W.KeysLit w.params es.toList ∧ es.size = kvs.length ∧ ∀ (i : Nat) (k : Str), (kvs.map (·.1))[i]? = some k → ∃ (e : DictEntry) (t : Tok), es[i]? = some e ∧ e.key = .str k t
  low : (d == sysModules) = false
  hit : ∀ x dd, kvs.lookup x = some dd → ∃ u v, PySem.W.nsIn K d x = some (some u) ∧ RelV v u ∧ ∀ A H, Rep K A H v dd
  miss : ∀ x, kvs.lookup x = none → PySem.W.nsIn K d x = some none
/-- a tuple of texts that stands -/
def KStrs (K : PySem.W.Frag) (u : Value) (xs : List Str) : Prop := ∃ a o its n, u = .ref a ∧ K.lookup a = some o ∧ o.cls = .type "tuple" ∧ o.data = .seq its n ∧ its.size ≤ sizeLine ∧ Vals (xs.map V.str) its.toList
/-- a dict of two entries -/
theorem kdt2 {K : PySem.W.Frag} {w : World} {d : Addr} {h1 h2 : Int} {k1 k2 : Str} {t1 t2 : Tok} {u1 u2 : Value} {n : Nat} {xs ys : List Str} (l : K.lookup d = some ⟨.type "dict", none, .dict #[⟨h1, .str k1 t1, u1⟩, ⟨h2, .str k2 t2, u2⟩] n, #[]⟩)
    (lit : PySem.W.KeysLit w.params [⟨h1, .str k1 t1, u1⟩, ⟨h2, .str k2 t2, u2⟩]) (low : (d == sysModules) = false) (hx : KStrs K u1 xs) (hy : KStrs K u2 ys) : KDt K w d [(k1, .tup (xs.map D.str)), (k2, .tup (ys.map D.str))] := by
  have rep : ∀ {u : Value} {xs : List Str}, KStrs K u xs → ∃ v, RelV v u ∧ ∀ A H, Rep K A H v (.tup (xs.map D.str)) := fun {u xs} ⟨a, o, its, m, e, l, hc, hd, hz, hv⟩ => ⟨.ref a, by rw [e]; rfl, fun A H => .tup (.inr ⟨o, its, m, l, hc, hd, hz, hv⟩) (reps_strs xs)⟩
  have ns : ∀ x, PySem.W.nsIn K d x = some (if (Value.str k1 t1).isStr x = true then some u1 else if (Value.str k2 t2).isStr x = true then some u2 else none) := fun x => by
    unfold PySem.W.nsIn
    rw [l]
    dsimp only
    by_cases e1 : (Value.str k1 t1).isStr x = true
    · rw [List.find?_cons_of_pos (by exact e1), if_pos e1]
    · rw [List.find?_cons_of_neg (by exact e1), if_neg e1]
      by_cases e2 : (Value.str k2 t2).isStr x = true
      · rw [List.find?_cons_of_pos (by exact e2), if_pos e2]
      · rw [List.find?_cons_of_neg (by exact e2), if_neg e2]
        rfl
  have is : ∀ (k x : Str) (t : Tok), (Value.str k t).isStr x = (x == k) := fun k x t => by
    show (k == x) = (x == k)
    exact Bool.eq_iff_iff.mpr ⟨fun h => by rw [beq_iff_eq] at h ⊢; exact h.symm, fun h => by rw [beq_iff_eq] at h ⊢; exact h.symm⟩
  refine ⟨⟨_, n, l, lit, rfl, fun i k e => ?_⟩, low, fun x dd e => ?_, fun x e => ?_⟩
  · match i, e with
    | 0, e => cases e; exact ⟨_, t1, rfl, rfl⟩
    | 1, e => cases e; exact ⟨_, t2, rfl, rfl⟩
  · rw [ns, is, is]
    cases c1 : x == k1 with
    | true =>
      rw [List.lookup_cons, c1] at e
      cases e
      obtain ⟨v, r, p⟩ := rep hx
      exact ⟨u1, v, by simp, r, p⟩
    | false =>
      rw [List.lookup_cons, c1] at e
      cases c2 : x == k2 with
      | true =>
        rw [List.lookup_cons, c2] at e
        cases e
        obtain ⟨v, r, p⟩ := rep hy
        exact ⟨u2, v, by simp, r, p⟩
      | false =>
        rw [List.lookup_cons, c2] at e
        cases e
  · rw [ns, is, is]
    cases c1 : x == k1 with
    | true => rw [List.lookup_cons, c1] at e; cases e
    | false =>
      rw [List.lookup_cons, c1] at e
      cases c2 : x == k2 with
      | true => rw [List.lookup_cons, c2] at e; cases e
      | false => simp
theorem KDt.dict {K : PySem.W.Frag} {w : World} {d : Addr} {kvs : List (Str × D)} (h : KDt K w d kvs) : ∃ es n, KDict K w d es n := by
  obtain ⟨es, n, h1, h2, _⟩ := h.raw
  exact ⟨es, n, h1, h2, h.low⟩
/-- its keys, one by one -/
def ItKd (kvs : List (Str × D)) : It := ⟨fun i _ => i < kvs.length, fun i H x H' => H' = H ∧ ∃ k, (kvs.map (·.1))[i]? = some k ∧ x = .str k, fun i _ => kvs.length ≤ i⟩
theorem turn_kd {P : Program} {w : World} {K : PySem.W.Frag} {tg : Expr} {d : Addr} {kvs : List (Str × D)} (D : KDt K w d kvs) (it : Addr) : ∃ n, Turn P w K tg (ItKd kvs) [it] it (fun i h => h.IsKeyIter it d i kvs.length n) ∧ ∃ es, K.lookup d = some ⟨.type "dict", none, .dict es n, #[]⟩ ∧ es.size = kvs.length := by
  obtain ⟨es, n, hl, lit, hsz, keys⟩ := D.raw
  refine ⟨n, ⟨by simp, fun i h st b hb => ?_, fun i h h' st k => st.at fun oi e => k it (by simp) oi e, ?_, ?_, fun A i s Q E st h => wpAny_pyIter_keyiter st h⟩, es, hl, hsz⟩
  · have e : b = it := by simpa using hb
    subst e
    obtain ⟨oi, e, c, dd⟩ := st
    exact ⟨oi, e, fun v z => by rw [dd] at z; cases z⟩
  · intro X hP hw hK hc i pins s σ H E I hf st hg
    subst hP hw hK
    have hi : i < kvs.length := hg
    obtain ⟨f0, f1, f2, f3, f4, f5⟩ := hf it (by simp)
    obtain ⟨k, hk⟩ : ∃ k, (kvs.map (·.1))[i]? = some k := ⟨_, List.getElem?_eq_getElem (by rw [List.length_map]; exact hi)⟩
    obtain ⟨en, t, hen, hkey⟩ := keys i k hk
    refine next_key_item st (I.kIn _ _ hl) rfl hsz hen fun h' st' sb => ?_
    have I1 : Inv X pins σ H { s with heap := h' } := I.turned (t' := s.toks) (fun b ob hb e => (sb.2 b hb).trans e) f0 f1 f3 f4 f5
    obtain ⟨oi, e, c, dd⟩ := id st'
    exact ⟨en.key, rfl, go_of (s := { s with heap := h' }) e c dd (by decide) ⟨.str k, H, I1, by rw [hkey]; exact ⟨t, rfl⟩, ⟨rfl, k, hk, rfl⟩, st', fun b hb => (hf b hb).1⟩⟩
  · intro X hP hw hK hc i pins s σ H E I hf st hg
    subst hP hw hK
    obtain ⟨f0, f1, f2, f3, f4, f5⟩ := hf it (by simp)
    exact next_key_end (I.ok.hd hc) st (I.kIn _ _ hl) rfl hsz hg fun h' eb => ⟨rfl, I.turned (t' := s.toks) (fun b ob hb e => eb b ob hb e) f0 f1 f3 f4 f5⟩
def iKd (K : PySem.W.Frag) (w : World) (td : TE) : TI := fun σ H R => td σ H fun x H1 => ∃ d kvs, x = .ref d ∧ KDt K w d kvs ∧ R (ItKd kvs) H1
theorem pi_kd {X : Cx} {tg e : Expr} {td : TE} (he : PE X e td) : PI X tg e (iKd X.K X.w td) := by
  refine ⟨fun pins s σ H R I h => ?_⟩
  refine thn (he.run pins s σ H _ I h) fun u s1 ⟨x, H1, I1, rx, d, kvs, ex, D, q⟩ => ?_
  subst ex
  obtain rfl : u = Value.ref d := rx
  obtain ⟨n, T, es, hl, hsz⟩ := turn_kd (P := X.prog) (w := X.w) (tg := tg) D s1.heap.objs.size
  refine iter_keys D.low (I1.kIn _ _ hl) ⟨rfl, rfl, rfl⟩ rfl (pi_one (tk := s1.toks) I1 _ T ⟨_, Heap.get?_push_size _ rfl, rfl, ?_⟩ q)
  rw [hsz] <;> rfl
section
variable {c : PL.Ctx} {X : Cx} {S : AS} {Γ Γ' : Gam} {M M' : Cells} {σ σ' : L2.St} {H H' : Hp} {a b e iter tg elt : Expr} {ifs : List Expr} {es : List Expr} {pos p pos' : Pos} {Q : D → Cells → Prop} {R : Bool → Cells → Prop} {x : Str} {scope : Scope} {d : Addr} {kvs : List (Str × D)}
/-- WORDS[k] -/
theorem we_kdix (D : KDt c.K c.w d kvs) (h : WE c a Γ M fun x M1 => WE c b Γ M1 fun y M2 => ∃ k dd, x = .ptr d ∧ y = .str k ∧ kvs.lookup k = some dd ∧ Q dd M2) (hs : PlainIx b := by exact fun _ _ => rfl) : WE c (.Subscript a b pos) Γ M Q := .mk fun X S σ H at_ Q' hq =>
  PE.to (pe_ix ix_kdict wE.pe wE.pe hs) (two h at_ fun v1 v2 H2 d1 d2 M2 c2 s2 r1 r2 ⟨k, dd, e1, e2, hd, q⟩ => by
    subst e1 e2
    cases r1; cases r2
    obtain ⟨u, v, hn, ru, rp⟩ := D.hit k dd hd
    obtain ⟨es, n, hl, lit, _⟩ := D.raw
    rw [at_.is.K, at_.is.w]
    exact ⟨d, k, v, rfl, rfl, ⟨es, n, u, hl, lit, hn, ru⟩, hq _ _ _ _ c2 s2 (rp _ _) q⟩)
theorem KDt.ns (D : KDt c.K c.w d kvs) (k : Str) : ∃ r, PySem.W.nsIn c.K d k = some r ∧ r.isSome = (kvs.lookup k).isSome := by
  cases e : kvs.lookup k with
  | none => exact ⟨none, D.miss k e, rfl⟩
  | some dd =>
    obtain ⟨u, v, hn, _⟩ := D.hit k dd e
    exact ⟨some u, hn, rfl⟩
theorem we_kdin (D : KDt c.K c.w d kvs) (h : WE c a Γ M fun x M1 => WE c b Γ M1 fun y M2 => ∃ k, x = .str k ∧ y = .ptr d ∧ Q (.bl (kvs.lookup k).isSome) M2) (hm : behindInMarks .In b = false := by rfl) : WE c (.Compare a [.In] [b] pos) Γ M Q := .mk fun X S σ H at_ Q' hq => by
  obtain ⟨es, n, DD⟩ := D.dict
  have DD' : KDict X.K X.w d es n := by rw [at_.is.K, at_.is.w]; exact DD
  exact PE.to (pe_cmpR (op_in_kd DD') wE.pe wE.pe hm) (two h at_ fun v1 v2 H2 d1 d2 M2 c2 s2 r1 r2 ⟨k, e1, e2, q⟩ => by
    subst e1 e2
    cases r1; cases r2
    obtain ⟨r, hr, e⟩ := D.ns k
    exact ⟨k, r, rfl, rfl, by rw [at_.is.K]; exact hr, by rw [e]; exact hq _ _ _ _ c2 s2 .bl q⟩)
theorem wt_kdin (D : KDt c.K c.w d kvs) (h : WE c a Γ M fun x M1 => WE c b Γ M1 fun y M2 => ∃ k, x = .str k ∧ y = .ptr d ∧ R (kvs.lookup k).isSome M2) (hm : behindInMarks .In b = false := by rfl) : WT c (.Compare a [.In] [b] pos) Γ M R := .mk fun X S σ H at_ Q' hq => by
  obtain ⟨es, n, DD⟩ := D.dict
  have DD' : KDict X.K X.w d es n := by rw [at_.is.K, at_.is.w]; exact DD
  exact PT.to (pt_cmpR (op_in_kd DD') wE.pe wE.pe hm) (two h at_ fun v1 v2 H2 d1 d2 M2 c2 s2 r1 r2 ⟨k, e1, e2, q⟩ => by
    subst e1 e2
    cases r1; cases r2
    obtain ⟨r, hr, e⟩ := D.ns k
    exact ⟨k, r, rfl, rfl, by rw [at_.is.K]; exact hr, r.isSome, rfl, by rw [e]; exact hq _ _ _ c2 s2 q⟩)
theorem wt_kdnin (D : KDt c.K c.w d kvs) (h : WE c a Γ M fun x M1 => WE c b Γ M1 fun y M2 => ∃ k, x = .str k ∧ y = .ptr d ∧ R (!(kvs.lookup k).isSome) M2) (hm : behindInMarks .NotIn b = false := by rfl) : WT c (.Compare a [.NotIn] [b] pos) Γ M R := .mk fun X S σ H at_ Q' hq => by
  obtain ⟨es, n, DD⟩ := D.dict
  have DD' : KDict X.K X.w d es n := by rw [at_.is.K, at_.is.w]; exact DD
  exact PT.to (pt_cmpR (op_notIn_kd DD') wE.pe wE.pe hm) (two h at_ fun v1 v2 H2 d1 d2 M2 c2 s2 r1 r2 ⟨k, e1, e2, q⟩ => by
    subst e1 e2
    cases r1; cases r2
    obtain ⟨r, hr, e⟩ := D.ns k
    exact ⟨k, r, rfl, rfl, by rw [at_.is.K]; exact hr, !r.isSome, rfl, by rw [e]; exact hq _ _ _ c2 s2 q⟩)
theorem lcKD_core {Qd : V → Hp → Prop} {M1 : Cells} {H1 : Hp} {own : List (Str × Nat)} {Inv : List (Str × PL.D) → List PL.D → Cells → Prop} {Q : PL.D → Cells → Prop} (is_ : c.Is X) (hcm : c.calm = true) (c1 : Core c.K S M1 H1) (sl : Slots c.K (av S M1) H1 Γ σ) (q : LcQ c scope (own.map (·.2)) tg elt ifs Γ kvs (fun p => .str p.1) Inv M1 Q)
    (hq : ∀ v H' d M', Core c.K S M' H' → Step M1 M' H1 H' → Rep c.K (av S M') H' v d → Q d M' → Qd v H') : ∀ D, H1 D = none → ∃ W : Nat → Nat → Hp → Prop, (∃ m, W 0 m (upd H1 D (.lst []))) ∧ ∀ i m H, W i m H →
      ((ItKd kvs).stop i H ∧ Qd (.ref D) H) ∨ ((ItKd kvs).go i H ∧ ∃ Nx : Hp → Prop, (∀ H', Nx H' → ∃ m', m' < m ∧ W (i + 1) m' H') ∧ ∀ x H', (ItKd kvs).yld i H x H' → gB X scope tg x (wipe σ (own.map (·.2))) H' fun σ2 H2 => wipe σ2 (own.map (·.2)) = wipe σ (own.map (·.2)) ∧ ttB X scope ifs σ2 H2 fun b H3 =>
        if b = true then tB X scope elt σ2 H3 fun y H4 => ∃ acc, H4 D = some (.lst acc) ∧ acc.length < sizeLine ∧ Nx (upd H4 D (.lst (acc ++ [y]))) else Nx H3) := by
  intro D0 hn
  obtain ⟨hz, h0, hs', hd⟩ := q
  obtain ⟨Pv, p0, pst, pt, pd⟩ := lc_whole (Qd := Qd) (D0 := D0) hn is_ hcm sl c1 hz h0 hs' fun acc M2 H2 l i c2 s2 r2 => hq _ _ _ _ c2 s2 r2 (hd acc M2 l i)
  refine ⟨fun i m H => m = kvs.length - i ∧ i ≤ kvs.length ∧ Pv i H, ⟨kvs.length, by simp, Nat.zero_le _, p0⟩, ?_⟩
  rintro i m H ⟨rfl, hi, pv⟩
  by_cases hlt : i < kvs.length
  · refine .inr ⟨hlt, Pv (i + 1), fun H' p' => ⟨kvs.length - (i + 1), by omega, rfl, hlt, p'⟩, fun x H' y => ?_⟩
    obtain ⟨e, k, hk, ex⟩ := y
    subst e ex
    obtain ⟨z, hz'⟩ : ∃ z, kvs[i]? = some z := ⟨_, List.getElem?_eq_getElem hlt⟩
    rw [List.getElem?_map, hz'] at hk
    have hk := Option.some.inj hk
    subst hk
    exact pt i z _ _ hz' pv fun M2 _ _ => .str
  · have : i = kvs.length := by omega
    subst this
    exact .inl ⟨Nat.le_refl _, pd _ pv⟩
/-- [elt for k in WORDS] -/
theorem we_lcKD (own : List (Str × Nat)) (hb : blkC c.N c.sc scope own = true) (D : KDt c.K c.w d kvs) (Inv : List (Str × PL.D) → List PL.D → Cells → Prop) (h : WE c iter Γ M fun x M1 => x = .ptr d ∧ LcQ c scope (own.map (·.2)) tg elt ifs Γ kvs (fun p => .str p.1) Inv M1 Q)
    (hs : ∀ env x, foldedSetIterable iter env x = pure x := by intro _ _; rfl) (hcm : c.calm = true := by first | rfl | assumption) : WE c (.ListComp elt [⟨tg, iter, ifs, 0⟩] scope pos) Γ M Q := .mk fun X S σ H at_ Q' hq =>
  PE.to (pe_lc (at_.is.calm hcm) at_.is.nd (pi_kd wE.pe) (at_.blkOk hb) (fun s H C cl fp => gB.pg s H C cl fp) (fun s H C cl fp => ttB.pts s H C cl fp) (fun s H C cl fp => tB.pe s H C cl fp) (hs _)) (h.run X S σ H at_ _ fun v1 H1 d1 M1 c1 s1 r1 ⟨e1, q⟩ => by
    subst e1
    cases r1
    exact ⟨d, kvs, rfl, by rw [at_.is.K, at_.is.w]; exact D, lcKD_core at_.is hcm c1 (at_.slots.to s1.to) q fun v H' d M' c2 s2 r2 q2 => hq v H' d M' c2 (s1.trans s2) r2 q2⟩)
theorem ws_lcKD {E : PEnds} {i : Nat} {y : Str} {py spos : Pos} (own : List (Str × Nat)) (hb : blkC c.N c.sc scope own = true) (hy : c.N[i]? = some y) (hyl : c.sc.names.lookup y = some .local) (D : KDt c.K c.w d kvs) (Inv : List (Str × PL.D) → List PL.D → Cells → Prop) (h : WE c iter Γ M fun x M1 => x = .ptr d ∧ LcQ c scope (own.map (·.2)) tg elt ifs Γ kvs (fun p => .str p.1) Inv M1 fun z M2 => E.nx (Γ.set i (some z)) M2)
    (hsw : ∀ env, env.scope = c.sc → swapsWith (.ListComp elt [⟨tg, iter, ifs, 0⟩] scope pos) (some (.Name y py)) spos.line env = pure true := by (rintro ⟨_, _, _, _, _, _, _, _, _⟩ rfl; rfl)) (hs : ∀ env x, foldedSetIterable iter env x = pure x := by intro _ _; rfl) (hcm : c.calm = true := by first | rfl | assumption) : WS c (.Assign [.Name y py] (.ListComp elt [⟨tg, iter, ifs, 0⟩] scope pos) spos) E Γ M := .mk fun X S σ H at_ Ds l =>
  PS.to (ps_setLc (at_.is.calm hcm) at_.is.nd (at_.is.nm hy) (by rw [at_.is.sc]; exact hyl) (hsw _ at_.is.sc) (pi_kd wE.pe) (at_.blkOk hb) (fun s H C cl fp => gB.pg s H C cl fp) (fun s H C cl fp => ttB.pts s H C cl fp) (fun s H C cl fp => tB.pe s H C cl fp) (hs _)) (h.run X S σ H at_ _ fun v1 H1 d1 M1 c1 s1 r1 ⟨e1, q⟩ => by
    subst e1
    cases r1
    exact ⟨d, kvs, rfl, by rw [at_.is.K, at_.is.w]; exact D, lcKD_core at_.is hcm c1 (at_.slots.to s1.to) q fun v H' d M' c2 s2 r2 q2 => l.nx _ _ _ _ c2 ((at_.slots.to (s1.trans s2).to).set r2) (s1.trans s2) q2⟩)
end
end PL
/-! max and min of data, by a number that orders them first -/
namespace PL
open PySem PySem.Spec PyProof.Rows L2
/-- kp is what is looked at first -/
structure ByNum (kp : PyData → Int) (xs : List PyData) : Prop where
  lt : ∀ a ∈ xs, ∀ b ∈ xs, kp a < kp b → PySem.W.dataLt a b = true
  le : ∀ a ∈ xs, ∀ b ∈ xs, PySem.W.dataLt a b = true → kp a ≤ kp b
theorem fold_great {kp : PyData → Int} : ∀ (xs : List PyData) (x : PyData), ByNum kp (x :: xs) → (∀ y ∈ x :: xs, kp y ≤ kp (xs.foldl (fun a y => if PySem.W.dataLt a y then y else a) x))
  | [], x, h, y, hy => by rw [List.mem_singleton.mp hy]; exact Int.le_refl _
  | z :: zs, x, h, y, hy => by
    have sub : ∀ w, w ∈ (if PySem.W.dataLt x z then z else x) :: zs → w ∈ x :: z :: zs := fun w hw => by
      rcases List.mem_cons.mp hw with rfl | hw
      · split <;> simp
      · simp [hw]
    have ih := fold_great zs (if PySem.W.dataLt x z then z else x) ⟨fun a ha b hb => h.lt a (sub a ha) b (sub b hb), fun a ha b hb => h.le a (sub a ha) b (sub b hb)⟩
    rw [List.foldl_cons]
    have top := ih _ List.mem_cons_self
    have hx : kp x ≤ kp (if PySem.W.dataLt x z then z else x) ∧ kp z ≤ kp (if PySem.W.dataLt x z then z else x) := by
      split
      · rename_i c; exact ⟨h.le x (by simp) z (by simp) c, Int.le_refl _⟩
      · rename_i c
        refine ⟨Int.le_refl _, ?_⟩
        rcases Int.lt_or_le (kp x) (kp z) with q | q
        · exact absurd (h.lt x (by simp) z (by simp) q) c
        · exact q
    rcases List.mem_cons.mp hy with rfl | hy
    · exact Int.le_trans hx.1 top
    · rcases List.mem_cons.mp hy with rfl | hy
      · exact Int.le_trans hx.2 top
      · exact ih y (by simp [hy])
theorem fold_least {kp : PyData → Int} : ∀ (xs : List PyData) (x : PyData), ByNum kp (x :: xs) → (∀ y ∈ x :: xs, kp (xs.foldl (fun a y => if PySem.W.dataLt y a then y else a) x) ≤ kp y)
  | [], x, h, y, hy => by rw [List.mem_singleton.mp hy]; exact Int.le_refl _
  | z :: zs, x, h, y, hy => by
    have sub : ∀ w, w ∈ (if PySem.W.dataLt z x then z else x) :: zs → w ∈ x :: z :: zs := fun w hw => by
      rcases List.mem_cons.mp hw with rfl | hw
      · split <;> simp
      · simp [hw]
    have ih := fold_least zs (if PySem.W.dataLt z x then z else x) ⟨fun a ha b hb => h.lt a (sub a ha) b (sub b hb), fun a ha b hb => h.le a (sub a ha) b (sub b hb)⟩
    rw [List.foldl_cons]
    have top := ih _ List.mem_cons_self
    have hx : kp (if PySem.W.dataLt z x then z else x) ≤ kp x ∧ kp (if PySem.W.dataLt z x then z else x) ≤ kp z := by
      split
      · rename_i c; exact ⟨h.le z (by simp) x (by simp) c, Int.le_refl _⟩
      · rename_i c
        refine ⟨Int.le_refl _, ?_⟩
        rcases Int.lt_or_le (kp z) (kp x) with q | q
        · exact absurd (h.lt z (by simp) x (by simp) q) c
        · exact q
    rcases List.mem_cons.mp hy with rfl | hy
    · exact Int.le_trans top hx.1
    · rcases List.mem_cons.mp hy with rfl | hy
      · exact Int.le_trans top hx.2
      · exact ih y (by simp [hy])
section
variable {prog : Program} {w : World} {A : Around} {E : Value → Shared → Prop} {s : Shared}
theorem great_at {l : Addr} {us : Array Value} {x : PyData} {xs : List PyData} {as : List Addr} {Q : Value → Shared → Prop} (calm : A.handled = none) (isl : s.heap.IsList l us) (rd : ReadsAll s.heap us.toList (x :: xs) as) (al : PySem.W.AlikeAll (x :: xs)) (room : A.units + 1 + PyData.depthAll (x :: xs) < cLine)
    (h : ∀ (i : Nat) u h' tk, us[i]? = some u → i < xs.length + 1 → (x :: xs).getD i .none = xs.foldl (fun a y => if PySem.W.dataLt a y then y else a) x → (∀ b o, s.heap.get? b = some o → h'.get? b = some o) → Q u { s with heap := h', toks := tk }) :
    wpAny (model prog w) A (call (.builtin "max") [.ref l]) Q E s := by
  have sz := PySem.W.readsAll_len rd
  rw [List.length_cons] at sz
  refine PySem.call_max_walkH (PySem.W.iter_listW (A := A.in1) calm isl fun s2 e W st fresh kept old => ⟨_, _, _, _, _, _, _, s.heap, _, rfl, W, st, fresh, by omega, kept, old, PySem.W.cmpIn_gt (A := A.in1) rd al (by show A.units + 1 + _ < _; exact room), fun u s3 hu mv => ?_⟩)
  obtain ⟨h3, tk, rfl, keep⟩ := PySem.W.moved_old e rfl mv
  obtain ⟨_, _, hi, _, _⟩ := PySem.W.readsAll_atA rd _ u hu
  obtain ⟨le, fd⟩ := PySem.W.argBest_fold (fun a b => PySem.W.dataLt b a) PyData.none x xs xs.length (Nat.le_refl _)
  rw [List.take_length] at fd
  have e1 : us.size - 1 = xs.length := by omega
  rw [e1] at hu hi
  exact h _ u h3 tk hu hi fd keep
theorem least_at {l : Addr} {us : Array Value} {x : PyData} {xs : List PyData} {as : List Addr} {Q : Value → Shared → Prop} (calm : A.handled = none) (isl : s.heap.IsList l us) (rd : ReadsAll s.heap us.toList (x :: xs) as) (al : PySem.W.AlikeAll (x :: xs)) (room : A.units + 1 + PyData.depthAll (x :: xs) < cLine)
    (h : ∀ (i : Nat) u h' tk, us[i]? = some u → i < xs.length + 1 → (x :: xs).getD i .none = xs.foldl (fun a y => if PySem.W.dataLt y a then y else a) x → (∀ b o, s.heap.get? b = some o → h'.get? b = some o) → Q u { s with heap := h', toks := tk }) :
    wpAny (model prog w) A (call (.builtin "min") [.ref l]) Q E s := by
  have sz := PySem.W.readsAll_len rd
  rw [List.length_cons] at sz
  refine PySem.call_min_walkH (PySem.W.iter_listW (A := A.in1) calm isl fun s2 e W st fresh kept old => ⟨_, _, _, _, _, _, _, s.heap, _, rfl, W, st, fresh, by omega, kept, old, PySem.W.cmpIn_lt (A := A.in1) rd al (by show A.units + 1 + _ < _; exact room), fun u s3 hu mv => ?_⟩)
  obtain ⟨h3, tk, rfl, keep⟩ := PySem.W.moved_old e rfl mv
  obtain ⟨_, _, hi, _, _⟩ := PySem.W.readsAll_atA rd _ u hu
  obtain ⟨le, fd⟩ := PySem.W.argBest_fold PySem.W.dataLt PyData.none x xs xs.length (Nat.le_refl _)
  rw [List.take_length] at fd
  have e1 : us.size - 1 = xs.length := by omega
  rw [e1] at hu hi
  exact h _ u h3 tk hu hi fd keep
end
/-- one of them, the first by kp (g: the greatest, else the least) -/
def rBest (K : PySem.W.Frag) (g : Bool) : List V → Hp → VK → Prop := fun vs H Q => ∃ (a : Addr) (us : List V) (ps : List PyData) (kp : PyData → Int), vs = [V.ref a] ∧ SqL K H a us ∧ DpAll K H us ps ∧ us ≠ [] ∧ PySem.W.AlikeAll ps ∧ PyData.depthAll ps ≤ 60 ∧ ByNum kp ps ∧
  ∀ (i : Nat) (v : V) (p : PyData), us[i]? = some v → ps[i]? = some p → (∀ y ∈ ps, if g then kp y ≤ kp p else kp p ≤ kp y) → Q v H
theorem dpAll_len {K : PySem.W.Frag} {H : Hp} : ∀ {us : List V} {ps : List PyData}, DpAll K H us ps → us.length = ps.length
  | _, _, .nil => rfl
  | _, _, .cons _ rs => by rw [List.length_cons, List.length_cons, dpAll_len rs]
theorem cr_best {X : Cx} {g : Bool} (hc : X.calm = true) (hu : X.A.units + 64 < cLine) : CallR X (.builtin (if g then "max" else "min")) (rBest X.K g) := by
  intro pins s σ H vs us Q I r h
  obtain ⟨a, ws, ps, kp, rfl, hs, dp, hne, al, dep, bn, q⟩ := h
  obtain ⟨its, rv, hl, _⟩ := I.list hs
  rw [Vals.ref1 r]
  have hlen := dpAll_len dp
  obtain ⟨as, rd⟩ := Dp.readsAll I ps ws its dp rv
  cases ps with
  | nil => exact absurd (List.length_eq_zero_iff.mp hlen) hne
  | cons p0 ps =>
    have fin : ∀ (i : Nat) (u : Value) (h' : Heap) (tk : Nat), its[i]? = some u → i < ps.length + 1 → (∀ y ∈ p0 :: ps, if g then kp y ≤ kp ((p0 :: ps).getD i .none) else kp ((p0 :: ps).getD i .none) ≤ kp y) → (∀ b o, s.heap.get? b = some o → h'.get? b = some o) → EP X pins σ Q u { s with heap := h', toks := tk } := by
      intro i u h' tk hi lt best keep
      have hw : i < ws.length := by rw [hlen, List.length_cons]; exact lt
      obtain ⟨u', hu', ru⟩ := rv.get (List.getElem?_eq_getElem hw)
      rw [hi] at hu'
      have eu := Option.some.inj hu'
      subst eu
      refine ⟨_, H, I.kept keep, ru, q i _ ((p0 :: ps).getD i .none) (List.getElem?_eq_getElem hw) ?_ best⟩
      rw [List.getD_eq_getElem?_getD, List.getElem?_eq_getElem (by rw [List.length_cons]; exact lt)]
      rfl
    cases g with
    | true => exact great_at (us := its.toArray) (I.ok.hd hc) hl.isList rd al (by omega) fun i u h' tk hi lt e keep => fin i u h' tk (by simpa using hi) lt (fun y hy => by rw [e]; exact fold_great ps p0 bn y hy) keep
    | false => exact least_at (us := its.toArray) (I.ok.hd hc) hl.isList rd al (by omega) fun i u h' tk hi lt e keep => fin i u h' tk (by simpa using hi) lt (fun y hy => by rw [e]; exact fold_least ps p0 bn y hy) keep
section
variable {c : PL.Ctx} {X : Cx} {S : AS} {Γ Γ' : Gam} {M M' : Cells} {σ σ' : L2.St} {H H' : Hp} {a b e : Expr} {es : List Expr} {pos p : Pos} {Q : D → Cells → Prop} {x : Str}
theorem Reps.dpAll {K : PySem.W.Frag} {A : AS} : ∀ {vs : List V} {ds : List D}, Reps K A H vs ds → D.okds 60 ds = true → DpAll K H vs (ds.map D.py)
  | _, _, .nil, _ => .nil
  | _, _, .cons (d := d) (ds := ds) r rs, o => by
    have o' : d.okd 60 = true ∧ D.okds 60 ds = true := by simpa [D.okds] using o
    exact .cons (r.dp 60 _ o'.1) (rs.dpAll o'.2)
theorem pys_map : ∀ ds : List D, D.pys ds = ds.map D.py
  | [] => rfl
  | d :: ds => by show d.py :: D.pys ds = _; rw [pys_map ds]; rfl
/-- max(e), min(e) of data -/
theorem best_fin {g : Bool} {M1 : Cells} {a : Addr} {vs : List V} {ds : List D} {kp : PyData → Int} (c1 : Core c.K S M1 H) (h1 : SqL c.K H a vs) (h2 : Reps c.K (av S M1) H vs ds) (o : D.okds 60 ds = true) (hne : ds ≠ []) (al : PySem.W.AlikeAll (ds.map D.py)) (bn : ByNum kp (ds.map D.py))
    (q : ∀ d ∈ ds, (∀ y ∈ ds, if g then kp y.py ≤ kp d.py else kp d.py ≤ kp y.py) → Q d M1) {Q' : VK} (hq : ∀ v H' d M', Core c.K S M' H' → Step M1 M' H H' → Rep c.K (av S M') H' v d → Q d M' → Q' v H') : rBest c.K g [.ref a] H Q' := by
  refine ⟨a, vs, ds.map D.py, kp, rfl, h1, h2.dpAll o, fun e => hne ?_, al, by have := (D.plain_oks 60 ds o).2; rw [pys_map] at this; exact this, bn, fun i v p hv hp best => ?_⟩
  · have := h2.length
    rw [e] at this
    exact List.length_eq_zero_iff.mp this.symm
  · obtain ⟨d, hd, r⟩ := h2.getV hv
    rw [List.getElem?_map, hd] at hp
    have ep := Option.some.inj hp
    subst ep
    exact hq v H d M1 c1 .refl r (q d (List.mem_of_getElem? hd) fun y hy => best _ (List.mem_map_of_mem hy))
theorem we_best {g : Bool} (kp : PyData → Int) (hg : GlC c.sc (if g then "max" else "min")) (hm : c.mg (if g then "max" else "min") = none) (h : WE c e Γ M fun d M1 => ∃ ds, View M1 d (.lst ds) ∧ D.okds 60 ds = true ∧ ds ≠ [] ∧ PySem.W.AlikeAll (ds.map D.py) ∧ ByNum kp (ds.map D.py) ∧
      ∀ d ∈ ds, (∀ y ∈ ds, if g then kp y.py ≤ kp d.py else kp d.py ≤ kp y.py) → Q d M1)
    (he : ∀ env, starEach [e] env = (false, eval e env) :: starEach [] env := by intro _; rfl) (hcm : c.calm = true := by first | rfl | assumption) : WE c (.Call (.Name (if g then "max" else "min") p) [e] [] pos) Γ M Q :=
  .mk fun X S σ H at_ Q' hq => (we_callB1 (c := c) (x := if g then "max" else "min") (r := fun xs H Q => X.A.units + 64 < cLine → rBest c.K g xs H Q) (fun X2 i => by
      intro pins s σ H xs us Q I r h
      have hu := i.hu
      exact (by rw [← i.K] at h; exact cr_best (X := X2) (i.calm hcm) hu pins s σ H xs us Q I r (h at_.is.hu))) hg hm (by cases g <;> decide +kernel) (h.imp fun d M1 ⟨ds, w, o, hne, al, bn, q⟩ S H v c1 r1 Q' hq _ => by
    cases w with
    | self =>
      cases r1 with
      | @lst a vs ds h1 h2 => exact best_fin c1 h1.sq h2 o hne al bn q hq
    | cell hc =>
      cases r1
      obtain ⟨oo, ho, vs, eo, rs⟩ := c1.at_ hc
      subst eo
      exact best_fin c1 (.of ho) rs o hne al bn q hq) (he := he) (hn := by cases g <;> decide) (hdb := by cases g <;> decide)).run X S σ H at_ Q' hq
end
end PL
/-! tuple(list) -/
namespace PL
open PySem PySem.Spec PyProof.Rows L2
section
variable {c : PL.Ctx} {X : Cx} {S : AS} {Γ Γ' : Gam} {M M' : Cells} {σ σ' : L2.St} {H H' : Hp} {a b e : Expr} {es : List Expr} {pos p : Pos} {Q : D → Cells → Prop} {x : Str}
theorem fresh_tup {K : PySem.W.Frag} {q : Addr} {vs : List V} {ds : List D} (cr : Core c.K S M H) (np : H q = none) (r : Reps c.K (av S M) H vs ds) :
    Core c.K S M (upd H q (.tup vs)) ∧ Step M M H (upd H q (.tup vs)) ∧ Rep c.K (av S M) (upd H q (.tup vs)) (.ref q) (.tup ds) :=
  ⟨cr.new np, Step.same (same_new np), .tup (.inl ⟨cr.free np, .inl upd_same⟩) (r.to (Step.same (same_new np)).to)⟩
theorem we_tupOf (hg : GlC c.sc "tuple") (hm : c.mg "tuple" = none) (h : WE c e Γ M fun d M1 => ∃ ds, View M1 d (.lst ds) ∧ Q (.tup ds) M1)
    (he : ∀ env, starEach [e] env = (false, eval e env) :: starEach [] env := by intro _; rfl) : WE c (.Call (.Name "tuple" p) [e] [] pos) Γ M Q :=
  we_callT1 (r := fun xs H Q => ∃ p ys, xs = [.ref p] ∧ ((SqL c.K H p ys ∧ ∀ l, H l = none → Q (.ref l) (upd H l (.tup ys))) ∨ (SqT c.K H p ys ∧ Q (.ref p) H))) (fun X i => by rw [← i.K]; exact call_tuple_of) hg hm (by decide +kernel) (h.imp fun d M1 ⟨ds, w, q⟩ S H v c1 r1 Q' hq => by
    cases w with
    | self =>
      cases r1 with
      | lst h1 h2 => exact ⟨_, _, rfl, .inl ⟨h1.sq, fun l np => by
          obtain ⟨k1, k2, k3⟩ := fresh_tup (K := c.K) c1 np h2
          exact hq _ _ _ _ k1 k2 k3 q⟩⟩
    | cell hc =>
      cases r1
      obtain ⟨o, ho, vs, eo, rs⟩ := c1.at_ hc
      subst eo
      exact ⟨_, _, rfl, .inl ⟨.of ho, fun l np => by
        obtain ⟨k1, k2, k3⟩ := fresh_tup (K := c.K) c1 np rs
        exact hq _ _ _ _ k1 k2 k3 q⟩⟩) (he := he)
end
end PL
/-! zip of two tuples in a comprehension -/
namespace PL
open PySem PySem.Spec PyProof.Rows L2
theorem walk_zipTup {K : PySem.W.Frag} {a b : Addr} {xs ys : List V} {n : Nat} (hn : n = min xs.length ys.length) : Walk (RZ.ItzT K a b) n (fun H => SqT K H a xs ∧ SqT K H b ys) (YPair (fun i => xs[i]?) (fun i => ys[i]?)) where
  goes := fun i _ hi q => ⟨xs, ys, xs[i]'(by omega), ys[i]'(by omega), q.1, q.2, List.getElem?_eq_getElem _, List.getElem?_eq_getElem _⟩
  stops := fun _ q => ⟨xs, ys, q.1, q.2, by omega⟩
  yields := fun i H v H' _ q ⟨T, x, z, e1, e2, e3, f1, f2⟩ => ⟨T, x, z, e1, e2, e3, f1 xs q.1, f2 ys q.2⟩
section
variable {c : Ctx} {X : Cx} {S : AS} {Γ Γ' : Gam} {M M' : Cells} {σ σ' : L2.St} {H H' : Hp} {a b e elt tg iter : Expr} {es ifs : List Expr} {pos pos' : Pos} {Q : D → Cells → Prop} {R : Bool → Cells → Prop} {x : Str} {E : PEnds} {scope : Scope} {own : List (Str × Nat)} {α β : Type} {xs : List α} {ys : List β} {f : α → D} {g : β → D}
theorem lcZT_core {Inv : List (α × β) → List D → Cells → Prop} (is_ : c.Is X) (hcm : c.calm = true) {M1 : Cells} {H1 : Hp} {a b : Addr} {us ws : List V} (cr : Core c.K S M1 H1) (sl : Slots c.K (av S M1) H1 Γ σ) (h1 : RdT c.K (av S M1) H1 a us) (h2 : Reps c.K (av S M1) H1 us (xs.map f))
    (h3 : RdT c.K (av S M1) H1 b ws) (h4 : Reps c.K (av S M1) H1 ws (ys.map g))
    (h : LcQ c scope (own.map (·.2)) tg elt ifs Γ (xs.zip ys) (fun z => .tup [f z.1, g z.2]) Inv M1 Q) {Q' : VK} (hq : ∀ v H' d M', Core c.K S M' H' → Step M1 M' H1 H' → Rep c.K (av S M') H' v d → Q d M' → Q' v H') :
    ∀ D, H1 D = none → ∃ W : Nat → Nat → Hp → Prop, (∃ m, W 0 m (upd H1 D (.lst []))) ∧ ∀ i m H, W i m H →
      ((RZ.ItzT X.K a b).stop i H ∧ Q' (.ref D) H) ∨ ((RZ.ItzT X.K a b).go i H ∧ ∃ Nx : Hp → Prop, (∀ H', Nx H' → ∃ m', m' < m ∧ W (i + 1) m' H') ∧ ∀ x H', (RZ.ItzT X.K a b).yld i H x H' → gB X scope tg x (wipe σ (own.map (·.2))) H' fun σ2 H2 => wipe σ2 (own.map (·.2)) = wipe σ (own.map (·.2)) ∧ ttB X scope ifs σ2 H2 fun b H3 =>
        if b = true then tB X scope elt σ2 H3 fun y H4 => ∃ acc, H4 D = some (.lst acc) ∧ acc.length < sizeLine ∧ Nx (upd H4 D (.lst (acc ++ [y]))) else Nx H3) := by
  intro D0 hn
  obtain ⟨hz, h0, hs, hd⟩ := h
  have hl1 : us.length = xs.length := by rw [h2.length, List.length_map]
  have hl2 : ws.length = ys.length := by rw [h4.length, List.length_map]
  refine lc_it (walk_zipTup (K := X.K) (a := a) (b := b) (xs := us) (ys := ws) (n := (xs.zip ys).length) (by rw [List.length_zip, hl1, hl2]))
    (fun i H2 => ∃ acc M2, Core c.K S ((D0, .lst acc) :: M2) H2 ∧ Step M1 ((D0, .lst acc) :: M2) H1 H2 ∧ acc.length ≤ i ∧ Inv ((xs.zip ys).take i) acc M2) ?_ ?_ ?_ ?_
  · have k := cr.cell (o := .lst []) (m := .lst []) hn ⟨[], rfl, .nil⟩
    exact ⟨[], M1, k.1, k.2, Nat.le_refl _, h0⟩
  · rintro i H2 _ ⟨acc, M2, c2, s2, _, _⟩
    rw [is_.K]
    exact ⟨(s2.to.rdt h1).sq, (s2.to.rdt h3).sq⟩
  · rintro i v H2 H3 hlt ⟨acc, M2, c2, s2, hl, inv⟩ ⟨T, x', y', rfl, hT, rfl, hx, hy⟩
    obtain ⟨p, ep, rp⟩ := getV_map h2 hx
    obtain ⟨q, eq, rq⟩ := getV_map h4 hy
    have ez : (xs.zip ys)[i]? = some (p, q) := by rw [List.getElem?_zip_eq_some]; exact ⟨ep, eq⟩
    obtain ⟨sp, tk⟩ := split_at ez
    have st3 : Step ((D0, MO.lst acc) :: M2) ((D0, MO.lst acc) :: M2) H2 (upd H2 T (.tup [x', y'])) := Step.same (same_new hT)
    have s3 := s2.trans st3
    refine lc_turn is_ hcm sl (c2.new hT) s3 (.tup (.inl ⟨c2.free hT, .inl upd_same⟩) (.cons (rp.to s3.to) (.cons (rq.to s3.to) .nil))) (by omega) (hs _ (p, q) _ acc M2 sp (by rw [List.length_take]; omega) inv) ?_ ?_
    · intro d M4 H' c4 s4 q
      exact ⟨_, M4, c4, s4, by simp; omega, by rw [tk]; exact q⟩
    · intro M4 H' c4 s4 q
      exact ⟨_, M4, c4, s4, by omega, by rw [tk]; exact q⟩
  · rintro H2 ⟨acc, M2, c2, s2, hl, inv⟩
    rw [List.take_length] at inv
    obtain ⟨c3, r3, s3⟩ := c2.freeze (i := 0) (p := D0) (ds := acc) rfl
    exact hq _ _ _ _ c3 (s2.trans s3) r3 (hd acc M2 hl inv)
/-- [.. for u, v in zip(a, b) ..], tuples -/
theorem we_lcZT {p zpos tpos : Pos} {elts : List Expr} {kk : Nat} (own : List (Str × Nat)) (hb : blkC c.N c.sc scope own = true) (hg : GlC c.sc "zip") (hm : c.mg "zip" = none) (f : α → D) (g : β → D)
    (h : WE c a Γ M fun d1 M1 => WE c b Γ M1 fun d2 M2 => ∃ (xs : List α) (ys : List β), d1 = .tup (xs.map f) ∧ d2 = .tup (ys.map g) ∧ ∃ Inv, LcQ c scope (own.map (·.2)) (.Tuple elts kk tpos) elt ifs Γ (xs.zip ys) (fun z => .tup [f z.1, g z.2]) Inv M2 Q)
    (hst : ∀ env, starEach [a, b] env = (false, eval a env) :: starEach [b] env := by intro _; rfl) (hst2 : ∀ env, starEach [b] env = (false, eval b env) :: starEach [] env := by intro _; rfl)
    (hs : ∀ env x, foldedSetIterable (.Call (.Name "zip" p) [a, b] [] zpos) env x = pure x := by intro _ _; rfl) (hcm : c.calm = true := by first | rfl | assumption) : WE c (.ListComp elt [⟨.Tuple elts kk tpos, .Call (.Name "zip" p) [a, b] [] zpos, ifs, 0⟩] scope pos) Γ M Q := .mk fun X S σ H at_ Q' hq =>
  PE.to (pe_lc (at_.is.calm hcm) at_.is.nd (RZ.pi_zipA (at_.is.gl hg) (at_.is.mgN hm) (pa_cons wE.pe (pa_cons wE.pe pa_nil (hst2 _)) (hst _)) (hst _) (by rw [hst2]; rfl)) (at_.blkOk hb) (fun s H C cl fp => gB.pg s H C cl fp) (fun s H C cl fp => ttB.pts s H C cl fp) (fun s H C cl fp => tB.pe s H C cl fp) (hs _)) (two h at_ fun v1 v2 H2 d1 d2 M2 c2 s2 r1 r2 ⟨xs, ys, e1, e2, Iv, q⟩ => by
    subst e1 e2
    cases r1 with
    | tup h1 h2 =>
      cases r2 with
      | tup h3 h4 => exact ⟨_, _, _, _, rfl, .inr ⟨by rw [at_.is.K]; exact h1.sq, by rw [at_.is.K]; exact h3.sq, lcZT_core at_.is hcm c2 (at_.slots.to s2.to) h1 h2 h3 h4 q fun v H' d M' c3 s3 r3 q3 => hq v H' d M' c3 (s2.trans s3) r3 q3⟩⟩)
theorem wt_din {pos : Pos} {a b : Expr} (h : WE c a Γ M fun y M1 => WE c b Γ M1 fun x M2 => ∃ (p : Addr) (i : Nat) (kvs : List (Key × D)) (k : Key), x = .ptr p ∧ M2[i]? = some (p, .dK kvs) ∧ y = keyD k ∧ R (lookK kvs k).isSome M2) (hm : behindInMarks .In b = false := by rfl) :
    WT c (.Compare a [.In] [b] pos) Γ M R := .mk fun X S σ H at_ Q' hq =>
  PT.to (pt_cmp (pc_din at_.is.hu1 wE.pe wE.pe) hm) (two h at_ fun v1 v2 H2 d1 d2 M2 c2 s2 r1 r2 ⟨p, i, kvs, k, e1, hi, e2, q⟩ => by
    subst e1 e2; cases r2
    have ek := r1.key
    subst ek
    obtain ⟨o, ho, vs, e, rs⟩ := c2.at_ hi
    subst e
    have e3 : (valV vs k).isSome = (lookK kvs k).isSome := by
      rcases rs.look k with ⟨l, l'⟩ | ⟨d', v, l1, l2, r⟩
      · rw [l, l']; rfl
      · rw [l1, l2]; rfl
    refine ⟨p, valV vs k, rfl, DGet.k ho, ?_⟩
    rw [e3]
    exact ⟨_, rfl, hq _ _ _ c2 s2 q⟩)
end
end PL
/-! len(set(ints)) -/
namespace PL
open PySem PySem.Spec PyProof.Rows L2
theorem met_nodup (val : Nat → Int) : ∀ i, (firstMet val i).Nodup
  | 0 => by rw [firstMet_zero]; exact List.nodup_nil
  | i + 1 => by
    rw [firstMet_succ]
    have ih := met_nodup val i
    unfold step_dedup
    split
    · exact ih
    · rename_i h
      refine List.nodup_append.mpr ⟨ih, List.nodup_cons.mpr ⟨by simp, List.nodup_nil⟩, fun a ha b hb e => h ?_⟩
      rw [List.mem_singleton.mp hb] at e
      exact List.any_eq_true.mpr ⟨a, ha, by rw [e]; exact beq_self_eq_true _⟩
theorem met_mem {ns : List Int} {v : Int} : v ∈ firstMet (fun i => ns.getD i 0) ns.length ↔ v ∈ ns := by
  have h := firstMet_any (fun i => ns.getD i 0) ns.length v
  have e : (List.range ns.length).map (fun i => ns.getD i 0) = ns := by
    refine List.ext_getElem (by simp) fun i h1 h2 => ?_
    rw [List.getElem_map, List.getElem_range, List.getD_eq_getElem?_getD, List.getElem?_eq_getElem h2]
    rfl
  rw [e] at h
  have a : ∀ l : List Int, l.any (· == v) = true ↔ v ∈ l := fun l => by
    rw [List.any_eq_true]
    exact ⟨fun ⟨x, hx, e⟩ => by rw [← eq_of_beq e]; exact hx, fun hv => ⟨v, hv, beq_self_eq_true _⟩⟩
  rw [← a, h, a]
def tLenSet (K : PySem.W.Frag) (ta : TE) : TE := fun σ H Q => ta σ H fun x H1 => ∃ (l : Addr) (ns : List Int), x = .ref l ∧ SqL K H1 l (ns.map V.int) ∧ ns.length ≤ 4000 ∧ ∀ S : List Int, S.Nodup → (∀ v, v ∈ S ↔ v ∈ ns) → Q (.int (S.length : Nat)) H1
theorem pe_lenSet {X : Cx} {a : Expr} {ta : TE} {p p2 q pos : Pos} (hg : Gl X "len") (hm : X.mg "len" = none) (hg2 : Gl X "set") (hm2 : X.mg "set" = none) (ha : PE X a ta) (hc : X.calm = true)
    (na : starEach [a] X.env = (false, eval a X.env) :: starEach [] X.env) : PE X (.Call (.Name "len" p) [.Call (.Name "set" p2) [a] [] q] [] pos) (tLenSet X.K ta) := by
  refine ⟨fun pins s σ H Q I h => Call_ (ld_blt I hg hm boot_len (callWith_builtin1 (args_cons (Call_ (ld_blt I hg2 hm2 boot_set (callWith_type1 (args_cons (thn (ha.run pins s σ H _ I h) fun v s1 ⟨x, H1, I1, r1, q1⟩ => args_nil ?_) na) na rfl))) rfl) rfl rfl))⟩
  obtain ⟨l, ns, rfl, hq, hl, q1⟩ := q1
  cases r1
  obtain ⟨its, r, pl, hz⟩ := I1.list hq
  have sz : its.toArray.size = ns.length := by rw [List.size_toArray, ← r.length, List.length_map]
  refine call_set_list (I1.ok.hd hc) pl.isList (by simpa using RZ.intsAre_vals r) (by rw [sz]; unfold scanBound; omega) fun h' tk hS hk => args_nil ?_
  rw [sz] at hS
  obtain ⟨o, es, ep, t, ho, hex, hd, _, _, _, hf, hn⟩ := hS
  have ml := firstMet_length_le (fun i => ns.getD i 0) ns.length
  have I2 : Inv X pins σ H1 { s1 with heap := h', toks := tk } := I1.kept fun b o e => hk b o (Heap.lt_size e) e
  exact call_len_set ho hex hd hf (by rw [hn] <;> omega) ⟨.int _, H1, I2.tok _, ⟨_, by rw [hn]⟩, q1 _ (met_nodup _ _) fun v => met_mem⟩
section
variable {c : PL.Ctx} {X : Cx} {S : AS} {Γ Γ' : Gam} {M M' : Cells} {σ σ' : L2.St} {H H' : Hp} {a b e : Expr} {es : List Expr} {pos p : Pos} {Q : D → Cells → Prop} {x : Str}
theorem we_lenSet {p p2 q : Pos} (hg : GlC c.sc "len") (hm : c.mg "len" = none) (hg2 : GlC c.sc "set") (hm2 : c.mg "set" = none)
    (h : WE c a Γ M fun d M1 => ∃ ns : List Int, View M1 d (.lst (ns.map D.int)) ∧ ns.length ≤ 4000 ∧ ∀ S : List Int, S.Nodup → (∀ v, v ∈ S ↔ v ∈ ns) → Q (.int (S.length : Nat)) M1)
    (na : ∀ env, starEach [a] env = (false, eval a env) :: starEach [] env := by intro _; rfl) (hcm : c.calm = true := by first | rfl | assumption) : WE c (.Call (.Name "len" p) [.Call (.Name "set" p2) [a] [] q] [] pos) Γ M Q := .mk fun X S σ H at_ Q' hq =>
  PE.to (pe_lenSet (at_.is.gl hg) (at_.is.mgN hm) (at_.is.gl hg2) (at_.is.mgN hm2) wE.pe (at_.is.calm hcm) (na _)) (h.run X S σ H at_ _ fun v1 H1 d1 M1 c1 s1 r1 ⟨ns, w, hl, q⟩ => by
    have rr := w.rep c1 r1
    cases rr with
    | lst h1 h2 =>
      have e1 := h2.ints
      subst e1
      exact ⟨_, ns, rfl, by rw [at_.is.K]; exact h1.sq, hl, fun S' nd mem => hq _ _ _ _ c1 s1 .int (q S' nd mem)⟩)
end
end PL
/-! e[k:] as a list that may change -/
namespace PL
open PySem PySem.Spec PyProof.Rows L2
section
variable {c : PL.Ctx} {X : Cx} {S : AS} {Γ Γ' : Gam} {M M' : Cells} {σ σ' : L2.St} {H H' : Hp} {a b e : Expr} {es : List Expr} {pos p : Pos} {Q : D → Cells → Prop} {x : Str}
theorem we_fromVC {p2 : Pos} (h : WE c a Γ M fun x M1 => WE c e Γ M1 fun y M2 => ∃ ds k, x = .lst ds ∧ y = .int k ∧ 0 ≤ k ∧ ∀ q, Q (.ptr q) ((q, .lst (ds.drop k.toNat)) :: M2)) : WE c (.Subscript a (.Slice (some e) none none p2) pos) Γ M Q := .mk fun X S σ H at_ Q' hq =>
  PE.to (pe_slice sl_list wE.pe (po_some wE.pe) po_none) (two h at_ fun v1 v2 H2 d1 d2 M2 c2 s2 r1 r2 ⟨ds, k, e1, e2, hk, q⟩ => by
    subst e1 e2
    cases r2
    cases r1 with
    | lst h1 h2 =>
      rw [at_.is.K]
      obtain ⟨m, rfl⟩ : ∃ m : Nat, k = (m : Int) := ⟨k.toNat, by omega⟩
      have e2 : (ds.drop (HT.sIx ds.length 0 (some (m : Int)))).take (HT.sIx ds.length ds.length none - HT.sIx ds.length 0 (some (m : Int))) = ds.drop m := by
        rw [HT.sIx_nat]
        show (ds.drop (min m ds.length)).take (ds.length - min m ds.length) = ds.drop m
        rw [List.take_of_length_le (by simp)]
        by_cases hm : m ≤ ds.length
        · rw [Nat.min_eq_left hm]
        · rw [Nat.min_eq_right (by omega), List.drop_of_length_le (Nat.le_refl _), List.drop_of_length_le (by omega)]
      refine ⟨m, rfl, _, _, rfl, h1.sq, fun p np => ?_⟩
      have r2 := cutV_D (lo := some (m : Int)) (hi := none) h2
      rw [e2] at r2
      have k := c2.cell (o := .lst _) (m := .lst (ds.drop m)) np ⟨_, rfl, r2⟩
      exact hq _ _ _ _ k.1 (s2.trans k.2) .ptr (q p))
end
end PL
/-! a list that stays, times an int -/
namespace PL
open PySem PySem.Spec PyProof.Rows L2 PySem.AutoListH
theorem rmul_any (a : Int) (t : Tok) (l : Addr) (xs : Array Value) (m : Nat) (dd : Option Addr) (ss : Array (Option Value)) :
    Meets (Builtin.«int.__rmul__» ⟨[.int a t, .ref l], []⟩) (fun _ R s => s.heap.get? l = some { cls := .type "list", dict := dd, data := .seq xs m, slots := ss } ∧ R (.ok (.ret Value.notImplemented)) s) :=
  .of_wp fun P9 w9 A9 R9 st hyp => by obtain ⟨h1, h2, h3, h4, h5⟩ := st; obtain ⟨at9, fin9⟩ := hyp; wp_walk; exact ⟨_, rfl, fin9⟩
theorem mul_any (l : Addr) (xs : Array Value) (m : Nat) (dd : Option Addr) (ss : Array (Option Value)) (x : Int) (u : Tok) (c0 : ¬(!Builtin.List.listFitsIndex x) = true) (c1 : ¬xs.size * x.toNat > (2 ^ 63 - 1) / 8) (c2 : ¬Builtin.List.listTooLong (xs.size * x.toNat) = true) :
    Meets (Builtin.«list.__mul__» ⟨[.ref l, .int x u], []⟩) (fun _ R s => s.heap.get? l = some { cls := .type "list", dict := dd, data := .seq xs m, slots := ss } ∧ R (.ok (.ret (Value.ref s.heap.objs.size))) { s with heap := s.heap.push { cls := Value.type "list", data := Data.seq (List.foldl (fun x1 x2 => x1 ++ x2) #[] (List.replicate (if xs.isEmpty = true then 0 else x.toNat) xs)) 0 } }) :=
  .of_wp fun P9 w9 A9 R9 st hyp => by
    obtain ⟨h1, h2, h3, h4, h5⟩ := st; obtain ⟨at9, fin9⟩ := hyp
    have hsz := joined_fits c2
    wp_walk; refine wpAny_ite_false (decide_eq_false (Nat.not_lt.mpr hsz)) ?_; wp_walk; exact ⟨_, rfl, fin9⟩
def rRepS (K : PySem.W.Frag) : R2 := fun x y H Q => ∃ l k xs, x = .ref l ∧ y = .int k ∧ SqL K H l xs ∧ -(2 ^ 63) ≤ k ∧ k < 2 ^ 63 ∧ xs.length * k.toNat ≤ sizeLine ∧ ∀ p, H p = none → Q (.ref p) (upd H p (.lst (List.replicate k.toNat xs).flatten))
theorem op_repS {X : Cx} : OpR X (binaryOp .Mult) (rRepS X.K) := by
  intro pins s σ H x y v u Q I rx ry h
  obtain ⟨l, k, xs, rfl, rfl, hs, h1, h2, hz, q⟩ := h
  obtain rfl : v = Value.ref l := rx
  obtain ⟨t, rfl⟩ := ry
  obtain ⟨its, rv, ⟨⟨cls, dd, data, sl⟩, n, ho, hc, hdn, hd⟩, hlen⟩ := I.list hs
  have hc1 : cls = Value.type "list" := hc
  have hd1 : data = Data.seq its.toArray n := hd
  subst hc1 hd1
  have hle : its.length = xs.length := rv.length.symm
  have len : its.toArray.size * k.toNat ≤ sizeLine := by rw [List.size_toArray, hle]; exact hz
  have cap : ¬ its.toArray.size * k.toNat > (2 ^ 63 - 1) / 8 := by
    have : (sizeLine : Nat) ≤ (2 ^ 63 - 1) / 8 := by decide
    omega
  have fit : ¬ (!Builtin.List.listFitsIndex k) = true := by rw [fitsIndex_both h1 h2]; exact Bool.false_ne_true
  have long : ¬ Builtin.List.listTooLong (its.toArray.size * k.toNat) = true := by rw [notLongL len]; exact Bool.false_ne_true
  have new : List.foldl (fun x1 x2 => x1 ++ x2) #[] (List.replicate (if its.toArray.isEmpty = true then 0 else k.toNat) its.toArray) = (List.replicate k.toNat its).flatten.toArray := by
    have f0 : ∀ m : Nat, List.foldl (fun x1 x2 => x1 ++ x2) #[] (List.replicate m its.toArray) = (List.replicate m its).flatten.toArray := fun m => by
      have := foldl_rep its m []
      rw [List.nil_append] at this
      exact this
    rw [f0]
    cases its with
    | nil => simp
    | cons a r' => rw [if_neg (by simp)]
  refine wpAny_binaryOp_repeat_ref (T := "list") (U := "int") (by decide) ⟨_, ho, rfl⟩ (fun s' => typeIs_int s' k t) noFill_list_mul F.fills_int_mul F.slot_int_rmul repeat_list F.slot_int_index.lookup
    (call_meets F.slot_int_rmul (typeIs_int s k t) F.entry_int_rmul (F.args_int_rmul_2 _ _) (rmul_any k t l its.toArray n dd sl)
      ⟨ho, rfl, ⟨_, ho, rfl⟩, call_meets F.slot_list_mul ⟨_, ho, rfl⟩ F.entry_list_mul (F.args_list_mul_2 _ _) (mul_any l its.toArray n dd sl k t fit cap long) ⟨ho, ?_⟩⟩)
  rw [new]
  exact ⟨.ref _, _, I.lnew (t' := s.toks) (rv.rep k.toNat) (by rw [PyProof.Rows.lm_len_rep_flat, Nat.mul_comm]; exact hz), rfl, q _ I.fresh⟩
section
variable {c : PL.Ctx} {X : Cx} {S : AS} {Γ Γ' : Gam} {M M' : Cells} {σ σ' : L2.St} {H H' : Hp} {a b e : Expr} {es : List Expr} {pos p : Pos} {Q : D → Cells → Prop} {x : Str}
theorem we_repV (h : WE c a Γ M fun x M1 => WE c b Γ M1 fun y M2 => ∃ (k : Int) (ds : List D), x = .lst ds ∧ y = .int k ∧ (-(2 ^ 63) ≤ k ∧ k < 2 ^ 63) ∧ ds.length * k.toNat ≤ sizeLine ∧ Q (.lst (List.replicate k.toNat ds).flatten) M2) : WE c (.BinOp a .Mult b pos) Γ M Q := .mk fun X S σ H at_ Q' hq =>
  PE.to (pe_op op_repS wE.pe wE.pe) (two h at_ fun v1 v2 H2 d1 d2 M2 c2 s2 r1 r2 ⟨k, ds, e1, e2, hk, hz, q⟩ => by
    subst e1 e2
    cases r2
    cases r1 with
    | lst h1 h2 =>
      refine ⟨_, k, _, rfl, rfl, by rw [at_.is.K]; exact h1.sq, hk.1, hk.2, by rw [h2.length]; exact hz, fun q' np => ?_⟩
      obtain ⟨k1, k2, k3⟩ := fresh_lst (K := c.K) c2 np (h2.flat k.toNat)
      exact hq _ _ _ _ k1 (s2.trans k2) k3 q)
end
end PL
/-! x, y, z = a, b, e -/
namespace PL
open PySem PySem.Spec PyProof.Rows L2
section
variable {c : Ctx} {X : Cx} {S : AS} {Γ Γ' : Gam} {M M' : Cells} {σ σ' : L2.St} {H H' : Hp} {a b e tg : Expr} {pos pos' : Pos} {Q : D → Cells → Prop} {x : Str} {E : PEnds}
theorem three {T : V → V → V → Hp → Prop} {R : D → D → D → Cells → Prop} (h : WE c a Γ M fun x M1 => WE c b Γ M1 fun y M2 => WE c e Γ M2 fun z M3 => R x y z M3) (at_ : At c X S Γ M σ H)
    (hT : ∀ v1 v2 v3 H2 d1 d2 d3 M2, Core c.K S M2 H2 → Step M M2 H H2 → Rep c.K (av S M2) H2 v1 d1 → Rep c.K (av S M2) H2 v2 d2 → Rep c.K (av S M2) H2 v3 d3 → R d1 d2 d3 M2 → T v1 v2 v3 H2) :
    wE X a σ H fun x H1 => wE X b σ H1 fun y H2 => wE X e σ H2 fun z H3 => T x y z H3 :=
  h.run X S σ H at_ _ fun v1 H1 d1 M1 c1 s1 r1 q1 => q1.run X S σ H1 (at_.step c1 s1) _ fun v2 H2 d2 M2 c2 s2 r2 q2 => q2.run X S σ H2 ((at_.step c1 s1).step c2 s2) _ fun v3 H3 d3 M3 c3 s3 r3 q3 => hT v1 v2 v3 H3 d1 d2 d3 M3 c3 ((s1.trans s2).trans s3) ((r1.to s2.to).to s3.to) (r2.to s3.to) r3 q3
theorem ws_par3 {i j l : Nat} {y z : Str} {px py pz pt pt2 : Pos} {kt k2 : Nat} (hi : c.N[i]? = some x) (hj : c.N[j]? = some y) (hl : c.N[l]? = some z) (hij : i ≠ j ∧ i ≠ l ∧ j ≠ l) (hx : c.sc.names.lookup x = some .local) (hy : c.sc.names.lookup y = some .local) (hz : c.sc.names.lookup z = some .local)
    (h : WE c a Γ M fun d M1 => WE c b Γ M1 fun d2 M2 => WE c e Γ M2 fun d3 M3 => E.nx (((Γ.set i (some d)).set j (some d2)).set l (some d3)) M3)
    (hw : ∀ env, env.scope = c.sc → swappedStores [.Tuple [.Name x px, .Name y py, .Name z pz] kt pt] (.Tuple [a, b, e] k2 pt2) env = pure (some [x, y, z]) := by first | (rintro ⟨_, _, _, _, _, _, _, _, _⟩ rfl; rfl))
    (hs : ∀ env, swapsWithSole [.Tuple [.Name x px, .Name y py, .Name z pz] kt pt] (.Tuple [a, b, e] k2 pt2) pos.line env = pure false := by intro _; rfl)
    (hst : ∀ env, starEach [a, b, e] env = (false, eval a env) :: starEach [b, e] env := by intro _; rfl) (hst2 : ∀ env, starEach [b, e] env = (false, eval b env) :: starEach [e] env := by intro _; rfl) (hst3 : ∀ env, starEach [e] env = (false, eval e env) :: starEach [] env := by intro _; rfl) (hcm : c.calm = true := by first | rfl | assumption) :
    WS c (.Assign [.Tuple [.Name x px, .Name y py, .Name z pz] kt pt] (.Tuple [a, b, e] k2 pt2) pos) E Γ M := .mk fun X S σ H at_ Ds l9 =>
  PS.to (ps_par3 (at_.is.calm hcm) at_.is.nd (at_.is.nm hi) (at_.is.nm hj) (at_.is.nm hl) hij.1 hij.2.1 hij.2.2 (by rw [at_.is.sc]; exact hx) (by rw [at_.is.sc]; exact hy) (by rw [at_.is.sc]; exact hz) (pa_cons wE.pe (pa_cons wE.pe (pa_cons wE.pe pa_nil (hst3 _)) (hst2 _)) (hst _)) (hw _ at_.is.sc) (hs _))
    (three h at_ fun v1 v2 v3 H2 d1 d2 d3 M2 c2 s2 r1 r2 r3 q => ⟨v1, v2, v3, rfl, l9.nx _ _ _ _ c2 ((((at_.slots.to s2.to).set r1).set r2).set r3) s2 q⟩)
end
end PL
/-! try: .. except x as n: suite; the exception is kept as data -/
namespace PL
open PySem PySem.Spec PyProof.Rows L2
section
variable {X : Cx}
/-- a landed exception's object is a thing of ours -/
theorem Down.kept {pins : List (Addr × Obj)} {a : Addr} {cls : Value} {d : Option Addr} {σ : L2.St} {H : Hp} {s : Shared} (hf : X.env.frame = some X.env.locals) (hs : X.stack = X.env :: X.outer) (x : Down X pins a cls d σ H s) :
    ∃ (oe : Obj), s.heap.get? a = some oe ∧ Zc cls d oe ∧ (∃ vs, oe.data = .fields vs) ∧ H a = none ∧ Inv X pins σ (upd H a (atK a oe)) s := by
  obtain ⟨oe, e1, e2, e3, J3, _⟩ := x.inv hf
  obtain ⟨B, sI, J, nb, up, fl, na, os, ag⟩ := x
  obtain ⟨vs, e3'⟩ := e3
  have ff : s.heap.FunFrames B (X.env :: X.outer) := fl.2.2.1
  have nf : a ∉ frs X.stack := fun hm => by
    rw [hs] at hm
    obtain ⟨_, o2, z1, z2⟩ := ff.mem hm
    rw [e1] at z1; cases z1
    exact z2 _ e3'
  have nI : ∀ o, sI.heap.get? a ≠ some o := fun o z => by
    have := nb a o z nf
    rw [fl.2.1] at this
    cases this
  have nfr : ∀ b ∈ frs X.stack, ∀ o, sI.heap.get? b = some o → ∃ sl, s.heap.get? b = some { o with slots := sl } := fun b hb o e => by
    obtain ⟨_, o', e', hd⟩ := J.stack.mem hb
    rw [e] at e'; cases e'
    exact up b o e hd
  have st : B.StaysIn s.heap := fl.1
  have hk : HOk X.prog X.w (upd H a (atK a oe)) s.heap := fun b ob e => by
    by_cases hb : b = a
    · subst hb
      rw [upd_same] at e
      cases e
      exact atK_ok e1
    · rw [upd_ne hb] at e
      refine (J3.hok b ob e).stay (fun c u _ r => r) (fun c q => ?_) fun c xs q => ?_
      · by_cases hc : c = a
        · subst hc; rw [na] at q; cases q
        · rw [upd_ne hc]; exact q
      · by_cases hc : c = a
        · subst hc; rw [na] at q; cases q
        · rw [upd_ne hc]; exact q
  refine ⟨oe, e1, e2, ⟨vs, e3'⟩, na, ?_⟩
  refine J.call' os (ch := []) ⟨fun b o e _ hb _ => st b o (nb b o e hb), fun b o e _ hb _ => nfr b hb o e, fun b o e n _ => ?_, fun b o e _ => ?_, fun b xs e => ?_, fun b o u e => ?_, fun b ps e => ⟨#[], ?_⟩⟩ hk ag (fun _ z => nomatch z)
  · have hb : b ≠ a := fun z => nI o (z ▸ e)
    rw [upd_ne hb]; exact n
  · by_cases hb : b ∈ frs X.stack
    · obtain ⟨sl, q⟩ := nfr b hb o e
      exact ⟨_, q⟩
    · exact ⟨o, st b o (nb b o e hb)⟩
  · have hb : b ≠ a := fun z => by subst z; rw [na] at e; cases e
    rw [upd_ne hb]; exact e
  · have hb : b ≠ a := fun z => by subst z; rw [na] at e; cases e
    rw [upd_ne hb]; exact e
  · have hb : b ≠ a := fun z => by subst z; rw [na] at e; cases e
    rw [upd_ne hb, e]; simp
theorem inv_suite {pins : List (Addr × Obj)} {σ : L2.St} {H : Hp} {s : Shared} (I : Inv X pins σ H s) (a : Addr) : Inv (X.suite a (X.pn ++ pins)) [] σ H s :=
  ⟨I.ok.suite _ _, I.os, I.bare, I.base, I.loc, I.cell, I.free, I.freeC, fun p hp => by rw [List.append_nil] at hp; exact I.pin p hp, I.hok, I.len⟩
theorem inv_unsuite {pins pn' : List (Addr × Obj)} {a : Addr} {σ : L2.St} {H : Hp} {s : Shared} (I : Inv (X.suite a (X.pn ++ pins)) pn' σ H s) (ok : X.Ok) : Inv X pins σ H s :=
  ⟨ok, I.os, I.bare, I.base, I.loc, I.cell, I.free, I.freeC, fun p hp => I.pin p (List.mem_append_left _ hp), I.hok, I.len⟩
/-- what «except x as n» wishes: slot i is n's; the object is known -/
def wAsK (K : PySem.W.Frag) (c : Value) (i : Nat) (ts : Addr → TS) (Wout : WX) (D : Ends) : WX := fun cls d σ H =>
  ∃ b, PySem.W.exmOne K cls c = some b ∧ (b = true → ∀ a oe, H a = none → Zc cls d oe → (∃ vs, oe.data = .fields vs) → ts a { nx := fun σ' H' => D.nx (σ'.set i none) H', rt := D.rt, bk := fun σ' H' => D.bk (σ'.set i none) H', ct := fun σ' H' => D.ct (σ'.set i none) H' } (σ.set i (some (.ref a))) (upd H a (atK a oe))) ∧
    (b = false → Wout cls d σ H)
theorem ps_try_asK {x n : Str} {c : Value} {i : Nat} {body suite : List Stmt} {b0 : Stmt} {np pos pos' : Pos} {tb : WX → TS} {ts : Addr → TS} {Wout : WX} (hs : X.stack = X.env :: X.outer) (hf : X.env.frame = some X.env.locals) (hN : X.N.Nodup) (hi : X.N[i]? = some n) (hln : X.env.kindOf n = some .local) (hc : Names X x c) (tk : Takes X Wout)
    (hb : ∀ (W : WX) (pn : List (Addr × Obj)) (xe : Value → Shared → Prop), Takes (X.tr pn xe) W → PassesOwn (model X.prog X.w) X.A X.env xe → PSs (X.tr pn xe) body (tb W))
    (hsu : ∀ (a : Addr) (pn : List (Addr × Obj)), PSs (X.suite a pn) (b0 :: suite) (ts a)) :
    PS X (.Try body [.ExceptHandler (some (.Name x np)) (some n) (b0 :: suite) pos'] [] [] pos) (fun D σ H => tb (wAsK X.K c i ts Wout D) D σ H) := by
  refine ps_catch hs hf hb fun pins σ H s a cls d D dn ⟨b, hb1, hyes, hno⟩ => ?_
  obtain ⟨oe, e1, z1, e3, J, S⟩ := dn.inv hf
  have ok := J.ok
  have hloc : Loc X.env.scope n := .inl hln
  refine wpAny_handleBy_cons (codeAny_handlers_test ?_) (by intro q; cases q)
  have LT : PySem.W.Looks (model X.prog X.w) s.heap (typeOf (.ref a)) cls := fun A Q E s k q => wpAny_typeOf_ref (k _ _ e1) (by rw [z1.1]; exact q)
  have LM := PySem.W.exm_one (M := model X.prog X.w) (J.kIn) LT hb1
  have test : ∀ {Q : Value → Shared → Prop} {E : Value → Shared → Prop}, Q c s → wpAny (model X.prog X.w) (X.A.mark (some (.ref a))) (eval (.Name x np) X.env) Q E s := fun {Q E} q => by
    obtain ⟨hg, hdbg, hm | ⟨hm, hv, hnn⟩⟩ := hc
    · exact ld_glob (X := X.suite a ((a, oe) :: (X.pn ++ pins))) S hg hm q hdbg
    · exact ld_blt (X := X.suite a ((a, oe) :: (X.pn ++ pins))) S hg hm hv q hnn hdbg
  refine test (LM.here ?_)
  cases b with
  | true =>
    refine codeAny_handlers_suite_as ?_
    obtain ⟨B, sI, Ji, nb, up, fl, na, os, ag⟩ := dn
    refine HandSPX.lands_againZ fl fun h4 fl4 up4 => ?_
    have dn4 : Down X pins a cls d σ H { s with heap := h4 } := ⟨B, sI, Ji, nb, up.trans up4, fl4, na, os, ag⟩
    obtain ⟨oe4, _, g2, g3, _, J4⟩ := dn4.kept hf hs
    have S4 := inv_suite J4 a
    refine store_ok (X := X.suite a (X.pn ++ pins)) (v := .ref a) S4 hN hi hloc rfl (fun s5 S5 => ?_) (.inr hln)
    refine wpAny_mono ((hsu a (X.pn ++ pins)).run [] s5 _ _ _ S5 (hyes rfl a oe4 na g2 g3)) (fun f s6 hsp => ?_) (fun _ _ z => False.elim z)
    have end_ : ∀ {σ6 : L2.St} {H6 : Hp} {Q : Shared → Prop}, Inv (X.suite a (X.pn ++ pins)) [] σ6 H6 s6 → (∀ s7, Inv X pins (σ6.set i none) H6 s7 → Q s7) →
        wpAny (model X.prog X.w) X.A (do bindName X.env n .none; unbindBehindTheSuite X.env n pos') (fun _ s7 => Q s7) X.xe s6 := fun {σ6 H6 Q} S6 hq => gone_ok (inv_unsuite S6 ok) hN hi hln hq
    cases f with
    | next =>
      obtain ⟨σ6, H6, S6, q6⟩ := hsp
      exact end_ S6 fun s7 J7 => ⟨_, _, J7, q6⟩
    | brk =>
      obtain ⟨σ6, H6, S6, q6⟩ := hsp
      exact end_ S6 fun s7 J7 => ⟨_, _, J7, q6⟩
    | cont =>
      obtain ⟨σ6, H6, S6, q6⟩ := hsp
      exact end_ S6 fun s7 J7 => ⟨_, _, J7, q6⟩
    | ret u =>
      obtain ⟨v6, σ6, H6, S6, r6, q6⟩ := hsp
      exact end_ S6 fun s7 J7 => ⟨_, _, _, J7, r6, q6⟩
  | false => exact dn.on hs hf tk (hno rfl)
end
section
variable {c : Ctx} {X : Cx} {S : AS} {Γ Γ' : Gam} {M M' : Cells} {σ σ' : L2.St} {H H' : Hp} {a b e tg : Expr} {pos pos' : Pos} {Q : D → Cells → Prop} {x : Str} {E : PEnds} {C : Addr}
/-- the context of an except suite -/
def Ctx.hot (c : Ctx) : Ctx := ⟨c.P, c.w, c.K, c.mg, c.base, c.N, c.sc, c.k, fun _ _ _ _ => False, c.own, c.top, false, c.lam⟩
/-- what came is data: its class, what it keeps -/
theorem Slots.unset {K : PySem.W.Frag} {A : AS} {i : Nat} (h : Slots K A H Γ σ) : Slots K A H (Γ.set i none) (σ.set i none) := by
  refine ⟨by rw [List.length_set, List.length_set]; exact h.len, fun j d e => ?_⟩
  by_cases hj : j = i
  · subst hj
    by_cases hl : j < Γ.length
    · rw [List.getElem?_set_self hl] at e; cases e
    · rw [List.getElem?_eq_none (by simpa using hl)] at e; cases e
  · rw [List.getElem?_set_ne (Ne.symm hj)] at e ⊢
    exact h.at_ j d e
/-- try: body, except x as n: suite -/
theorem ws_tryE {CN : Addr} {i : Nat} {n : Str} {body suite : List Stmt} {b0 : Stmt} {np : Pos} (ht : c.top = true) (hgx : GlC c.sc x) (hm : c.mg x = some (.ref CN)) (hi : c.N[i]? = some n) (hl : c.sc.names.lookup n = some .local)
    (h : WSs (c.tr (fun C => PySem.W.exmOne c.K (.ref C) (.ref CN)) fun C d Γ1 M1 => WSs c.hot (b0 :: suite) { nx := fun Γ2 M2 => E.nx (Γ2.set i none) M2, rt := E.rt, bk := fun Γ2 M2 => E.bk (Γ2.set i none) M2, ct := fun Γ2 M2 => E.ct (Γ2.set i none) M2 } (Γ1.set i (some (.exc C d))) M1) body E Γ M)
    (hdb : (x == ("__debug__" : Str)) = false := by decide) :
    WS c (.Try body [.ExceptHandler (some (.Name x np)) (some n) (b0 :: suite) pos'] [] [] pos) E Γ M := .mk fun X S σ H at_ Ds l => by
  obtain ⟨W, tk, hW⟩ := at_.land
  obtain ⟨hst, hfr⟩ := at_.is.stk ht
  have hln : X.env.kindOf n = some .local := by show X.env.scope.names.lookup n = _; rw [at_.is.sc]; exact hl
  refine PS.to (ps_try_asK (c := .ref CN) (i := i) (tb := fun W D σ H => ∀ pn xe, Takes (X.tr pn xe) W → PassesOwn (model X.prog X.w) X.A X.env xe → wSs (X.tr pn xe) body D σ H) (ts := fun a D σ H => ∀ pn, wSs (X.suite a pn) (b0 :: suite) D σ H) (Wout := W) hst hfr at_.is.nd (at_.is.nm hi) hln ⟨at_.is.gl hgx, hdb, .inl (at_.is.mgN hm)⟩ tk (fun W pn xe t po => ⟨fun pins s σ H D I h => h pn xe t po pins s I⟩) (fun a pn => ⟨fun pins s σ H D I h => h pn pins s I⟩)) ?_
  intro pn xe t po
  refine h.run (X.tr pn xe) S σ H ⟨⟨at_.is.prog, at_.is.w, at_.is.K, at_.is.mg, at_.is.base, at_.is.N, at_.is.sc, at_.is.room, at_.is.calm, at_.is.nd, at_.is.fn, po, at_.is.stk, at_.is.roomH, at_.is.lam⟩, at_.core, at_.slots, ⟨_, t, fun C dd v0 d σ' H' Γ' M' c1 sl1 st1 hx r1 z => ?_⟩⟩ Ds ⟨l.nx, l.rt, l.bk, l.ct⟩
  rw [at_.is.K]
  rcases z with ⟨z1, z2⟩ | ⟨z1, z2⟩
  · refine ⟨true, z1, fun _ a oe na hz hd pn2 => ?_, fun z => (by cases z)⟩
    have eo : ExOb C dd oe := ⟨hz.1, hz.2, hd⟩
    have c2 : Core c.K S M' (upd H' a (atK a oe)) := c1.new na
    have st2 : Step M' M' H' (upd H' a (atK a oe)) := Step.same (same_new na)
    have hne : dd ≠ a := fun e => by subst e; rw [hx.2] at na; cases na
    have rx : Rep c.K (av S M') (upd H' a (atK a oe)) (.ref a) (.exc C d) := .exc (c1.free na) hx.1 upd_same eo (by rw [upd_ne hne]; exact hx.2) (r1.to st2.to)
    have sl2 : Slots c.K (av S M') (upd H' a (atK a oe)) (Γ'.set i (some (.exc C d))) (σ'.set i (some (.ref a))) := (sl1.to st2.to).set rx
    have s12 := st1.trans st2
    refine z2.run (X.suite a pn2) S _ _ ⟨⟨at_.is.prog, at_.is.w, at_.is.K, at_.is.mg, at_.is.base, at_.is.N, at_.is.sc, (fun z => by cases z), (fun z => by cases z), at_.is.nd, at_.is.fn, (fun _ _ z => z.elim), at_.is.stk, ⟨at_.is.roomH.dp, at_.is.roomH.un⟩, at_.is.lam⟩, c2, sl2, ⟨fun _ _ _ _ => False, (fun u s' ⟨_, _, _, _, _, _, _, _, _, _, _, _, _, _, _, _, z⟩ => z), fun _ _ _ _ _ _ _ _ _ _ _ _ _ z => z.elim⟩⟩ _ ⟨fun σ4 H4 Γ4 M4 c4 sl4 st4 q4 => l.nx _ _ _ _ c4 sl4.unset (s12.trans st4) q4, fun v4 H4 d4 M4 c4 st4 r4 q4 => l.rt _ _ _ _ c4 (s12.trans st4) r4 q4, fun σ4 H4 Γ4 M4 c4 sl4 st4 q4 => l.bk _ _ _ _ c4 sl4.unset (s12.trans st4) q4, fun σ4 H4 Γ4 M4 c4 sl4 st4 q4 => l.ct _ _ _ _ c4 sl4.unset (s12.trans st4) q4⟩
  · exact ⟨false, z1, fun z => (by cases z), fun _ => hW C dd v0 d σ' H' Γ' M' c1 sl1 st1 hx r1 z2⟩
end
end PL
/-! errors that were caught, as data: what they keep, isinstance -/
namespace PL
open PySem PySem.Spec PyProof.Rows L2
/-- what an own exception class must have for its errors to be asked -/
structure ExC (K : PySem.W.Frag) (C : Addr) : Prop where
  ga : PySem.W.findIn K (.ref C) "__getattribute__" = some (some (.builtin "BaseException.__getattribute__"))
  gg : PySem.W.findIn K (.ref C) "__getattr__" = some none
  exC : PySem.W.subIn K (.ref C) (.type "BaseException") = some true
  hdC : PySem.W.hasDictIn K C = true
  nw : PySem.W.findIn K (.ref C) "what" = some none
  cl : PySem.W.isClsIn K C = true
  ha : PySem.W.findIn K (.ref C) "__class__" = some (some (.builtin "object.__class__"))
  hn : PySem.W.specialIn K (.builtin "object.__class__") "__get__" = some (some (.builtin "getset_descriptor.__get__"))
  htk : PySem.W.takesIn K (.builtin "object.__class__") = some true
  hm : PySem.W.mroIn K C (.type "object") = some true
/-- an error at a -/
def ExAt (H : Hp) (a C dd : Addr) (fs : List (Str × V)) : Prop := ∃ oe, H a = some (atK a oe) ∧ ExOb C dd oe ∧ H dd = some (.xd fs)
section
variable {X : Cx} {pins : List (Addr × Obj)} {σ : L2.St} {H : Hp} {s : Shared}
theorem ExAt.inst {a C dd : Addr} {fs : List (Str × V)} (x : ExAt H a C dd fs) (I : Inv X pins σ H s) : ∃ (oe od : Obj) (mA : Str → Option Value), PySem.W.InstAt s.heap a oe C (some od) ∧ (∀ f, PySem.W.lookIn f od = some (mA f)) ∧ ∀ f, RelO (fs.lookup f) (mA f) := by
  obtain ⟨oe, h1, h2, h3⟩ := x
  have ha : s.heap.get? a = some oe := (I.hok a _ h1).1
  obtain ⟨vs, hd⟩ := h2.data
  have hx : ObjOk X.prog X.w H s.heap dd (.xd fs) := I.hok dd _ h3
  obtain ⟨mA, hns, hr⟩ := hx
  obtain ⟨od, ho, hl⟩ := lookIn_ns hns
  exact ⟨oe, od, mA, ⟨ha, h2.cls, by unfold PySem.W.notCls; rw [hd] <;> rfl, by rw [h2.dict]; exact ho⟩, hl, hr⟩
/-- e.n of an error -/
def tXk (C : Addr) (n : Str) (te : TE) : TE := fun σ H Q => te σ H fun x H1 => ∃ a dd fs v, x = .ref a ∧ ExAt H1 a C dd fs ∧ fs.lookup n = some v ∧ Q v H1
theorem pe_xk {C : Addr} {e : Expr} {te : TE} {pos : Pos} {n : Str} (T : ExC X.K C) (hno : PySem.W.findIn X.K (.ref C) n = some none) (he : PE X e te) (hb : attributeBase e n X.env (eval e X.env) = eval e X.env := by rfl) : PE X (.Attribute e n pos) (tXk C n te) := by
  refine ⟨fun pins s σ H Q I h => ?_⟩
  refine attr_of hb (thn (he.run pins s σ H _ I h) fun u s1 hh => ?_)
  obtain ⟨x, H1, I1, rx, a, dd, fs, v, ex, xa, l, q⟩ := hh
  subst ex
  obtain rfl : u = Value.ref a := rx
  obtain ⟨oe, od, mA, J, hl, hr⟩ := xa.inst I1
  obtain ⟨u, hu, ru⟩ := RelO.some_of (v := v) (o := mA n) (by rw [← l]; exact hr n)
  exact HandSPX.exc_get I1.kIn J T.ga T.gg T.exC (PySem.W.findObj_own T.hdC hno rfl (by rw [hl, hu])) (handed_of ru) ⟨v, H1, I1.tok _, ru, q⟩
theorem kit_exc {C a : Addr} {oe : Obj} {od : Option Obj} (T : ExC X.K C) : PySem.W.KitX X.K (.ref a) (.ref C) (fun h => PySem.W.InstAt h a oe C od) := PySem.W.kitx_exc T.cl T.ga T.gg T.exC T.ha T.hn T.htk T.hm
/-- isinstance(e, c) of an error -/
theorem call_isX {C : Addr} (T : ExC X.K C) : CallR X (.builtin "isinstance") (fun xs H Q => ∃ a dd fs c u b, xs = [.ref a, c] ∧ ClsV c u ∧ ExAt H a C dd fs ∧ PySem.W.kitOne X.K (.ref C) u = some b ∧ Q (.bl b) H) := by
  intro pins s σ H xs us Q I r h
  obtain ⟨a, dd, fs, c, u, b, rfl, k, xa, e, q⟩ := h
  obtain ⟨u1, u2, rfl, r1, r2⟩ := vals2 r
  cases (show u1 = Value.ref a from r1)
  have e2 := k.eq r2
  subst e2
  obtain ⟨oe, od, mA, J, _⟩ := xa.inst I
  exact PySem.W.kia_one (kit_exc T) I.kIn J e (fun z => nomatch z) fun tk => ⟨.bl b, H, I.tok tk, rfl, q⟩
/-- isinstance(e, (c1, c2, ..)) of an error -/
theorem call_isXT {C : Addr} (T : ExC X.K C) : CallR X (.builtin "isinstance") (fun xs H Q => ∃ a dd fs tp cs us b, xs = [.ref a, .ref tp] ∧ H tp = some (.tup cs) ∧ Paired ClsV cs us ∧ ExAt H a C dd fs ∧ PySem.W.kitAny X.K (.ref C) us = some b ∧ Q (.bl b) H) := by
  intro pins s σ H xs us Q I r h
  obtain ⟨a, dd, fs, tp, cs, ws, b, rfl, hT, k, xa, e, q⟩ := h
  obtain ⟨u1, u2, rfl, r1, r2⟩ := vals2 r
  cases (show u1 = Value.ref a from r1)
  cases (show u2 = Value.ref tp from r2)
  obtain ⟨oe, od, mA, J, _⟩ := xa.inst I
  obtain ⟨_, its, rv, o, h1, h2, n, h3⟩ := (show ObjOk X.prog X.w H s.heap tp (.tup cs) from I.hok tp _ hT)
  have e3 := ClsV.all k rv
  subst e3
  obtain ⟨oc, od2, dt, sl⟩ := o
  simp only at h2 h3
  subst h2 h3
  exact PySem.W.kia_tup (kit_exc T) I.kIn J h1 e (fun z => nomatch z) fun tk => ⟨.bl b, H, I.tok tk, rfl, q⟩
end
section
variable {c : Ctx} {X : Cx} {S : AS} {Γ Γ' : Gam} {M M' : Cells} {σ σ' : L2.St} {H H' : Hp} {a b e : Expr} {es : List Expr} {pos pos' p : Pos} {Q : D → Cells → Prop} {x m : Str} {C : Addr}
theorem exc_at {K : PySem.W.Frag} {A : AS} {v : V} {d : D} (r : Rep K A H v (.exc C d)) : ∃ a dd w, v = .ref a ∧ ExAt H a C dd [(("what" : Str), w)] ∧ Rep K A H w d := by
  cases r with
  | exc na nd h1 h2 h3 r => exact ⟨_, _, _, rfl, ⟨_, h1, h2, h3⟩, r⟩
/-- e.what -/
theorem we_what (T : ExC c.K C) (h : WE c e Γ M fun d M1 => ∃ w, d = .exc C w ∧ Q w M1) (hb : ∀ env, attributeBase e "what" env (eval e env) = eval e env := by intro _; rfl) : WE c (.Attribute e "what" pos) Γ M Q := .mk fun X S σ H at_ Q' hq =>
  PE.to (pe_xk (C := C) (by rw [at_.is.K]; exact T) (by rw [at_.is.K]; exact T.nw) wE.pe (hb _)) (h.run X S σ H at_ _ fun v1 H1 d1 M1 c1 s1 r1 ⟨w, e1, q⟩ => by
    subst e1
    obtain ⟨a, dd, v, ev, xa, rv⟩ := exc_at r1
    subst ev
    exact ⟨a, dd, _, v, rfl, xa, rfl, hq _ _ _ _ c1 s1 rv q⟩)
/-- isinstance(e, N), N an own class -/
theorem we_isX {N : Addr} {n : Str} {p2 p3 : Pos} {k : Bool} (T : ExC c.K C) (hg : GlC c.sc "isinstance") (hm : c.mg "isinstance" = none) (hg2 : GlC c.sc n) (hm2 : c.mg n = some (.ref N)) (hk : PySem.W.kitOne c.K (.ref C) (.ref N) = some k)
    (h : WE c a Γ M fun d M1 => ∃ w, d = .exc C w ∧ Q (.bl k) M1)
    (na : ∀ env, starEach [a, .Name n p3] env = (false, eval a env) :: starEach [.Name n p3] env := by intro _; rfl) (hd : (n == ("__debug__" : Str)) = false := by decide) : WE c (.Call (.Name "isinstance" p2) [a, .Name n p3] [] pos) Γ M Q := .mk fun X S σ H at_ Q' hq =>
  PE.to (pe_callB (call_isX (C := C) (by rw [at_.is.K]; exact T)) (at_.is.gl hg) (at_.is.mgN hm) PyProof.Rows.boot_isinstance (pa_cons wE.pe (pa_cons (pe_glob (v := .ref N) (at_.is.gl hg2) (at_.is.mgN hm2) rfl hd) pa_nil) (na _)) (by decide) (by decide) (na _) (by rfl)) (h.run X S σ H at_ _ fun v1 H1 d1 M1 c1 s1 r1 ⟨w, e1, q⟩ => by
    subst e1
    obtain ⟨a, dd, v, ev, xa, rv⟩ := exc_at r1
    subst ev
    exact ⟨a, dd, _, .ref N, .ref N, k, rfl, .own N, xa, by rw [at_.is.K]; exact hk, hq _ _ _ _ c1 s1 .bl q⟩)
/-- isinstance(e, T), T a built-in class -/
theorem we_isXB {U : String} {n : Str} {p2 p3 : Pos} {k : Bool} (T : ExC c.K C) (hg : GlC c.sc "isinstance") (hm : c.mg "isinstance" = none) (hg2 : GlC c.sc n) (hm2 : c.mg n = none) (hT : bootBuiltins n = some (.type U)) (hk : PySem.W.kitOne c.K (.ref C) (.type U) = some k)
    (h : WE c a Γ M fun d M1 => ∃ w, d = .exc C w ∧ Q (.bl k) M1)
    (na : ∀ env, starEach [a, .Name n p3] env = (false, eval a env) :: starEach [.Name n p3] env := by intro _; rfl) (hn : n ≠ "__name__" := by decide) (hd : (n == ("__debug__" : Str)) = false := by decide) : WE c (.Call (.Name "isinstance" p2) [a, .Name n p3] [] pos) Γ M Q := .mk fun X S σ H at_ Q' hq =>
  PE.to (pe_callB (call_isX (C := C) (by rw [at_.is.K]; exact T)) (at_.is.gl hg) (at_.is.mgN hm) PyProof.Rows.boot_isinstance (pa_cons wE.pe (pa_cons (pe_bltn (v := .ty U) (at_.is.gl hg2) (at_.is.mgN hm2) hT rfl hn hd) pa_nil) (na _)) (by decide) (by decide) (na _) (by rfl)) (h.run X S σ H at_ _ fun v1 H1 d1 M1 c1 s1 r1 ⟨w, e1, q⟩ => by
    subst e1
    obtain ⟨a, dd, v, ev, xa, rv⟩ := exc_at r1
    subst ev
    exact ⟨a, dd, _, .ty U, .type U, k, rfl, .ty U, xa, by rw [at_.is.K]; exact hk, hq _ _ _ _ c1 s1 .bl q⟩)
theorem paired_own : ∀ {K : PySem.W.Frag} {A : AS} {H : Hp} {vs : List V} (cs : List Addr), Reps K A H vs (cs.map D.ptr) → Paired ClsV vs (cs.map Value.ref) ∧ vs = cs.map V.ref
  | _, _, _, _, [], .nil => ⟨.nil, rfl⟩
  | _, _, _, _, c :: cs, .cons r rs => by
    obtain ⟨p, e⟩ := paired_own cs rs
    cases r
    exact ⟨.cons (.own c) p, by rw [e]; rfl⟩
theorem kany_false {K : PySem.W.Frag} {t : Value} : ∀ {cs : List Addr}, (∀ x ∈ cs, PySem.W.kitOne K t (.ref x) = some false) → PySem.W.kitAny K t (cs.map Value.ref) = some false
  | [], _ => rfl
  | c :: cs, h => kitAny_cons (h c List.mem_cons_self) (fun _ => kany_false fun x hx => h x (List.mem_cons_of_mem _ hx)) (fun z => by cases z)
/-- isinstance(e, (N1, N2, ..)), own classes; none of them -/
theorem we_isXT {p2 tp : Pos} {kk : Nat} {k : Bool} (T : ExC c.K C) (hg : GlC c.sc "isinstance") (hm : c.mg "isinstance" = none)
    (h : WE c a Γ M fun d M1 => ∃ w, d = .exc C w ∧ WA c es Γ M1 fun ds M2 => ∃ cs : List Addr, ds = cs.map D.ptr ∧ cs.length ≤ sizeLine ∧ PySem.W.kitAny c.K (.ref C) (cs.map Value.ref) = some k ∧ Q (.bl k) M2)
    (na : ∀ env, starEach [a, .Tuple es kk tp] env = (false, eval a env) :: starEach [.Tuple es kk tp] env := by intro _; rfl) : WE c (.Call (.Name "isinstance" p2) [a, .Tuple es kk tp] [] pos) Γ M Q := .mk fun X S σ H at_ Q' hq =>
  PE.to (pe_callB (call_isXT (C := C) (by rw [at_.is.K]; exact T)) (at_.is.gl hg) (at_.is.mgN hm) PyProof.Rows.boot_isinstance (pa_cons wE.pe (pa_cons (pe_tup wA.pa) pa_nil) (na _)) (by decide) (by decide) (na _) (by rfl)) (h.run X S σ H at_ _ fun v1 H1 d1 M1 c1 s1 r1 ⟨w, e1, q⟩ => by
    subst e1
    refine q.run X S σ H1 (at_.step c1 s1) _ fun vs H2 ds M2 c2 s2 r2 ⟨cs, e2, hl, hk, q2⟩ => ?_
    subst e2
    obtain ⟨pr, ev⟩ := paired_own cs r2
    refine ⟨by rw [ev, List.length_map]; exact hl, fun p np => ?_⟩
    have st : Step M2 M2 H2 (upd H2 p (.tup vs)) := Step.same (same_new np)
    obtain ⟨a, dd, v, ev1, xa, rv⟩ := exc_at ((r1.to s2.to).to st.to)
    subst ev1
    exact ⟨a, dd, _, p, vs, cs.map Value.ref, k, rfl, upd_same, pr, xa, by rw [at_.is.K]; exact hk, hq _ _ _ _ (c2.new np) ((s1.trans s2).trans st) .bl q2⟩)
end
end PL
namespace PL
open PySem PySem.Spec PyProof.Rows L2
section
variable {c : Ctx} {X : Cx} {S : AS} {Γ Γ' : Gam} {M M' : Cells} {a b e : Expr} {es : List Expr} {pos pos' p : Pos} {Q : D → Cells → Prop} {x m : Str} {C : Addr}
/-- names of classes, as they stand in a tuple -/
inductive NamesC (c : Ctx) : List Expr → List Str → Prop
  | nil : NamesC c [] []
  | cons {n : Str} {p : Pos} {es : List Expr} {ns : List Str} (hg : GlC c.sc n) (hd : (n == ("__debug__" : Str)) = false) (r : NamesC c es ns) : NamesC c (.Name n p :: es) (n :: ns)
/-- own classes by their names, none of which an error of the class at C is of -/
inductive OthersOf (K : PySem.W.Frag) (mg : Str → Option Value) (C : Addr) : List Str → List Addr → Prop
  | nil : OthersOf K mg C [] []
  | cons {n : Str} {N : Addr} {ns : List Str} {cs : List Addr} (g : mg n = some (.ref N)) (k : PySem.W.kitOne K (.ref C) (.ref N) = some false) (r : OthersOf K mg C ns cs) : OthersOf K mg C (n :: ns) (N :: cs)
theorem OthersOf.all {K : PySem.W.Frag} {mg : Str → Option Value} {C : Addr} {ns : List Str} {cs : List Addr} (o : OthersOf K mg C ns cs) : ∀ x ∈ cs, PySem.W.kitOne K (.ref C) (.ref x) = some false := by
  induction o with
  | nil => exact fun x h => by cases h
  | cons g k r ih =>
    intro x h
    rcases List.mem_cons.mp h with e | h
    · rw [e]; exact k
    · exact ih x h
theorem OthersOf.length {K : PySem.W.Frag} {mg : Str → Option Value} {C : Addr} {ns : List Str} {cs : List Addr} (o : OthersOf K mg C ns cs) : ns.length = cs.length := by
  induction o with
  | nil => rfl
  | cons g k r ih => rw [List.length_cons, List.length_cons, ih]
theorem wa_names {ns : List Str} {cs : List Addr} (n : NamesC c es ns) : ∀ {cs : List Addr} {Q : List D → Cells → Prop}, OthersOf c.K c.mg C ns cs → Q (cs.map D.ptr) M → WA c es Γ M Q := by
  induction n with
  | nil =>
    intro cs Q o q
    cases o
    exact wa_nil q
  | cons hg hd r ih =>
    intro cs Q o q
    cases o with
    | cons g k ro => exact wa_cons (we_glob hg ⟨_, .ref _, g, rfl, fun _ _ => .ptr⟩ (ih (Q := fun ds M1 => Q (_ :: ds) M1) ro q) hd)
/-- isinstance(e, (N1, N2, ..)) of an error of no such class -/
theorem we_isXN {p2 tp : Pos} {kk : Nat} {ns : List Str} {cs : List Addr} (T : ExC c.K C) (hg : GlC c.sc "isinstance") (hm : c.mg "isinstance" = none) (n : NamesC c es ns) (o : OthersOf c.K c.mg C ns cs) (hl : ns.length ≤ 1000)
    (h : WE c a Γ M fun d M1 => ∃ w, d = .exc C w ∧ Q (.bl false) M1)
    (na : ∀ env, starEach [a, .Tuple es kk tp] env = (false, eval a env) :: starEach [.Tuple es kk tp] env := by intro _; rfl) : WE c (.Call (.Name "isinstance" p2) [a, .Tuple es kk tp] [] pos) Γ M Q :=
  we_isXT T hg hm (h.imp fun d M1 ⟨w, e1, q⟩ => ⟨w, e1, wa_names (cs := cs) n o ⟨cs, rfl, by rw [sizeLine_eq, ← o.length]; omega, kany_false o.all, q⟩⟩) na
end
end PL
namespace DK
open PySem PL
/-! Looks, Darks: plain laws -/
abbrev Look := Str × Int × Int
def lkD (l : Look) : D := .tup [.str l.1, .int l.2.1, .int l.2.2]
def prD (p : Int × Int) : D := .tup [.int p.1, .int p.2]
def optD : Option Int → D
  | none => .non
  | some m => .int m
theorem beq_dec {α : Type} [BEq α] [LawfulBEq α] [DecidableEq α] (a b : α) : (a == b) = decide (a = b) := by
  rw [Bool.eq_iff_iff]; simp
theorem eqv_str (a b : Str) : D.eqv (.str a) (.str b) = decide (a = b) := by
  simp [D.eqv, D.py, PyData.eqv, beq_dec]
theorem eqv_int (a b : Int) : D.eqv (.int a) (.int b) = decide (a = b) := by
  simp [D.eqv, D.py, PyData.eqv, beq_dec]
theorem eqv_lk (a b : Look) : D.eqv (lkD a) (lkD b) = decide (a = b) := by
  obtain ⟨a1, a2, a3⟩ := a
  obtain ⟨b1, b2, b3⟩ := b
  simp [lkD, D.eqv, D.py, D.pys, PyData.eqv, PyData.eqvAll, beq_dec]
/-- the greatest of ints, if any -/
def IsMax (xs : List Int) : Option Int → Prop
  | none => xs = []
  | some m => m ∈ xs ∧ ∀ y ∈ xs, y ≤ m
def IsMin (xs : List Int) : Option Int → Prop
  | none => xs = []
  | some m => m ∈ xs ∧ ∀ y ∈ xs, m ≤ y
theorem IsMax.uniq {xs ys : List Int} (h : ∀ v, v ∈ xs ↔ v ∈ ys) : ∀ {o o' : Option Int}, IsMax xs o → IsMax ys o' → o = o'
  | none, none, _, _ => rfl
  | none, some m, h1, h2 => by
    have := (h m).mpr h2.1
    rw [h1] at this
    cases this
  | some m, none, h1, h2 => by
    have := (h m).mp h1.1
    rw [h2] at this
    cases this
  | some m, some m', h1, h2 => by
    have a := h2.2 m ((h m).mp h1.1)
    have b := h1.2 m' ((h m').mpr h2.1)
    rw [Int.le_antisymm a b]
theorem IsMin.uniq {xs ys : List Int} (h : ∀ v, v ∈ xs ↔ v ∈ ys) : ∀ {o o' : Option Int}, IsMin xs o → IsMin ys o' → o = o'
  | none, none, _, _ => rfl
  | none, some m, h1, h2 => by
    have := (h m).mpr h2.1
    rw [h1] at this
    cases this
  | some m, none, h1, h2 => by
    have := (h m).mp h1.1
    rw [h2] at this
    cases this
  | some m, some m', h1, h2 => by
    have a := h2.2 m ((h m).mp h1.1)
    have b := h1.2 m' ((h m').mpr h2.1)
    rw [Int.le_antisymm b a]
def lowv (n x : Int) (p : Int × Int) : Int := p.2 + (x - p.1) / n * n
def highv (n x : Int) (p : Int × Int) : Int := p.2 - (p.1 - x) / n * n
def nsP (l : Look) : Bool := !(D.eqv (.str l.1) (.str "upto"))
def nbP (l : Look) : Bool := !(D.eqv (.str l.1) (.str "from"))
def notShort (L : List Look) : List (Int × Int) := (L.filter nsP).map Prod.snd
def notBeyond (L : List Look) : List (Int × Int) := (L.filter nbP).map Prod.snd
def home (n : Int) (l : Look) : Look := (l.1, l.2.1 - l.2.1 / n * n, l.2.2 - l.2.1 / n * n)
/-- one look from below, one from above, that can't both be so -/
def aprt1 (n : Int) (s f : Look) : Bool := nsP s && nbP f && decide (lowv n f.2.1 s.2 > f.2.2)
def apart (n : Int) (a b : Look) : Bool := aprt1 n a b || aprt1 n b a
theorem home_low {n : Int} (hn : 0 < n) (x : Int) (l : Look) : lowv n x (home n l).2 = lowv n x l.2 := by
  show l.2.2 - l.2.1 / n * n + (x - (l.2.1 - l.2.1 / n * n)) / n * n = l.2.2 + (x - l.2.1) / n * n
  have : x - (l.2.1 - l.2.1 / n * n) = (x - l.2.1) + l.2.1 / n * n := by omega
  rw [this, Int.add_mul_ediv_right _ _ (by omega), Int.add_mul]
  omega
theorem home_high {n : Int} (hn : 0 < n) (x : Int) (l : Look) : highv n x (home n l).2 = highv n x l.2 := by
  show l.2.2 - l.2.1 / n * n - (l.2.1 - l.2.1 / n * n - x) / n * n = l.2.2 - (l.2.1 - x) / n * n
  have : l.2.1 - l.2.1 / n * n - x = (l.2.1 - x) + (-(l.2.1 / n)) * n := by rw [Int.neg_mul]; omega
  rw [this, Int.add_mul_ediv_right _ _ (by omega), Int.add_mul, Int.neg_mul]
  omega
/-- a hand: nobody overtakes, all turns alike -/
structure Hand (n : Int) (F : Int → Int) : Prop where
  mono : ∀ x y, x ≤ y → F x ≤ F y
  turn : ∀ x k, F (x + k * n) = F x + k * n
/-- a look that is so of a hand -/
structure Ok (F : Int → Int) (l : Look) : Prop where
  ns : nsP l = true → l.2.2 ≤ F l.2.1
  nb : nbP l = true → F l.2.1 ≤ l.2.2
theorem Ok.home {n : Int} {F : Int → Int} {l : Look} (h : Hand n F) (o : Ok F l) : Ok F (home n l) := by
  have e : F (l.2.1 - l.2.1 / n * n) = F l.2.1 - l.2.1 / n * n := by
    have := h.turn l.2.1 (-(l.2.1 / n))
    rw [Int.neg_mul, ← Int.sub_eq_add_neg, ← Int.sub_eq_add_neg] at this
    exact this
  refine ⟨fun z => ?_, fun z => ?_⟩
  · show l.2.2 - _ ≤ F (l.2.1 - _)
    rw [e]
    have := o.ns z
    omega
  · show F (l.2.1 - _) ≤ l.2.2 - _
    rw [e]
    have := o.nb z
    omega
theorem Ok.aprt1 {n : Int} {F : Int → Int} {a b : Look} (hn : 0 < n) (h : Hand n F) (oa : Ok F a) (ob : Ok F b) : aprt1 n a b = false := by
  unfold DK.aprt1
  cases ha : nsP a with
  | false => rfl
  | true =>
    cases hb : nbP b with
    | false => rfl
    | true =>
      have h1 := oa.ns ha
      have h2 := ob.nb hb
      have h3 := h.turn a.2.1 ((b.2.1 - a.2.1) / n)
      have h4 : (b.2.1 - a.2.1) / n * n ≤ b.2.1 - a.2.1 := Int.ediv_mul_le _ (by omega)
      have h5 := h.mono (a.2.1 + (b.2.1 - a.2.1) / n * n) b.2.1 (by omega)
      have h6 : ¬ (lowv n b.2.1 a.2 > b.2.2) := by
        unfold lowv
        rw [h3] at h5
        omega
      exact decide_eq_false h6
theorem Ok.apart {n : Int} {F : Int → Int} {a b : Look} (hn : 0 < n) (h : Hand n F) (oa : Ok F a) (ob : Ok F b) : apart n a b = false := by
  unfold DK.apart
  rw [Ok.aprt1 hn h oa ob, Ok.aprt1 hn h ob oa]
  rfl
/-- the heard, by one look more -/
def hearL (n : Int) (L : List Look) (l : Look) : List Look := if home n l ∈ L then L else (L ++ [home n l]).mergeSort fun a b => leD (lkD a) (lkD b)
theorem mem_hearL {n : Int} {L : List Look} {l z : Look} : z ∈ hearL n L l ↔ z ∈ L ∨ z = home n l := by
  unfold hearL
  split
  · rename_i h
    refine ⟨.inl, ?_⟩
    rintro (h' | rfl)
    · exact h'
    · exact h
  · rw [(List.mergeSort_perm _ _).mem_iff]
    simp
def hearAll (n : Int) (ks : List Look) : List Look := ks.foldl (hearL n) []
theorem mem_hearAll {n : Int} {ks : List Look} {z : Look} : z ∈ hearAll n ks ↔ ∃ l ∈ ks, z = home n l := by
  have : ∀ (ks L : List Look), z ∈ ks.foldl (hearL n) L ↔ z ∈ L ∨ ∃ l ∈ ks, z = home n l := by
    intro ks
    induction ks with
    | nil => intro L; simp
    | cons k ks ih =>
      intro L
      rw [List.foldl_cons, ih, mem_hearL]
      simp only [List.mem_cons, exists_eq_or_imp]
      rw [or_assoc]
  rw [hearAll, this]
  simp
theorem length_hearL {n : Int} {L : List Look} {l : Look} : (hearL n L l).length ≤ L.length + 1 := by
  unfold hearL
  split
  · omega
  · rw [List.length_mergeSort]; simp
/-- least and greatest, of the heard as of the told -/
theorem least_same {n x : Int} (hn : 0 < n) {L ks : List Look} (h : ∀ z, z ∈ L ↔ ∃ l ∈ ks, z = home n l) (v : Int) : v ∈ (notShort L).map (lowv n x) ↔ v ∈ (notShort ks).map (lowv n x) := by
  simp only [notShort, List.mem_map, List.mem_filter]
  constructor
  · rintro ⟨p, ⟨z, ⟨hz, hs⟩, rfl⟩, rfl⟩
    obtain ⟨l, hl, rfl⟩ := (h z).mp hz
    exact ⟨l.2, ⟨l, ⟨hl, hs⟩, rfl⟩, (home_low hn x l).symm⟩
  · rintro ⟨p, ⟨l, ⟨hl, hs⟩, rfl⟩, rfl⟩
    exact ⟨(home n l).2, ⟨home n l, ⟨(h _).mpr ⟨l, hl, rfl⟩, hs⟩, rfl⟩, home_low hn x l⟩
theorem greatest_same {n x : Int} (hn : 0 < n) {L ks : List Look} (h : ∀ z, z ∈ L ↔ ∃ l ∈ ks, z = home n l) (v : Int) : v ∈ (notBeyond L).map (highv n x) ↔ v ∈ (notBeyond ks).map (highv n x) := by
  simp only [notBeyond, List.mem_map, List.mem_filter]
  constructor
  · rintro ⟨p, ⟨z, ⟨hz, hs⟩, rfl⟩, rfl⟩
    obtain ⟨l, hl, rfl⟩ := (h z).mp hz
    exact ⟨l.2, ⟨l, ⟨hl, hs⟩, rfl⟩, (home_high hn x l).symm⟩
  · rintro ⟨p, ⟨l, ⟨hl, hs⟩, rfl⟩, rfl⟩
    exact ⟨(home n l).2, ⟨home n l, ⟨(h _).mpr ⟨l, hl, rfl⟩, hs⟩, rfl⟩, home_high hn x l⟩
/-- the greatest of steps turned about leads as a hand -/
theorem hand_of {n : Int} (hn : 0 < n) {steps : List (Int × Int)} {F : Int → Int} (h : ∀ x, (∃ p ∈ steps, lowv n x p = F x) ∧ ∀ p ∈ steps, lowv n x p ≤ F x) : Hand n F := by
  refine ⟨fun x y hxy => ?_, fun x k => ?_⟩
  · obtain ⟨p, hp, e⟩ := (h x).1
    have h2 := (h y).2 p hp
    have h3 : (x - p.1) / n ≤ (y - p.1) / n := Int.ediv_le_ediv hn (by omega)
    have h4 : (x - p.1) / n * n ≤ (y - p.1) / n * n := Int.mul_le_mul_of_nonneg_right h3 (by omega)
    unfold lowv at *
    omega
  · have sh : ∀ p : Int × Int, lowv n (x + k * n) p = lowv n x p + k * n := fun p => by
      unfold lowv
      rw [show x + k * n - p.1 = (x - p.1) + k * n by omega, Int.add_mul_ediv_right _ _ (by omega), Int.add_mul]
      omega
    obtain ⟨p, hp, e⟩ := (h x).1
    obtain ⟨p', hp', e'⟩ := (h (x + k * n)).1
    have h2 := (h (x + k * n)).2 p hp
    have h3 := (h x).2 p' hp'
    rw [sh] at h2 e'
    omega
theorem eqv_nil_cons (x : D) (xs : List D) : (D.lst (x :: xs)).eqv (.lst []) = false := by
  simp [D.eqv, D.py, D.pys, PyData.eqv, PyData.eqvAll]
theorem eqv_nil_nil : (D.lst []).eqv (.lst []) = true := by
  simp [D.eqv, D.py, D.pys, PyData.eqv, PyData.eqvAll]
theorem alike_lk (L : List Look) (z : Look) : PySem.W.AllAlike ((L.map lkD ++ [lkD z]).map D.py) := by
  have e : (L.map lkD ++ [lkD z]).map D.py = (L ++ [z]).map fun l => (lkD l).py := by simp
  rw [e]
  exact PySem.W.AllAlike.of fun _ _ => rfl
theorem sortable_lk (L : List Look) (z : Look) : PySem.W.Sortable ((L.map lkD ++ [lkD z]).map D.py) := by
  have e : (L.map lkD ++ [lkD z]).map D.py = (L ++ [z]).map fun l => (lkD l).py := by simp
  rw [e]
  exact PySem.W.Sortable.tuples fun b => ⟨_, _, rfl⟩
theorem sort_lk (L : List Look) (z : Look) : (L.map lkD ++ [lkD z]).mergeSort leD = ((L ++ [z]).mergeSort fun a b => leD (lkD a) (lkD b)).map lkD := by
  rw [List.map_mergeSort (f := lkD) (s := leD) fun _ _ _ _ => rfl]
  simp
theorem any_lk (L : List Look) (z : Look) : ((L.map lkD).any fun y => y.eqv (lkD z)) = decide (z ∈ L) := by
  rw [Bool.eq_iff_iff]
  simp only [List.any_map, List.any_eq_true, Function.comp_apply, eqv_lk, decide_eq_true_eq]
  exact ⟨fun ⟨x, hx, e⟩ => e ▸ hx, fun h => ⟨z, h, rfl⟩⟩
def optL : Option Look → D
  | none => .non
  | some z => lkD z
abbrev dkF (n : Int) (L : List Look) : List (Str × D) := [("turn", .int n), ("heard", .lst (L.map lkD))]
def darkM (p C : Addr) (n : Int) (L : List Look) : Cells := [(p, .ins C (dkF n L))]
/-- where the steps lead -/
def leadF (n : Int) (ps : List (Int × Int)) (x : Int) : Int := ((ps.map (lowv n x)).max?).getD 0
theorem leadF_ok {n : Int} {ps : List (Int × Int)} (hp : ps ≠ []) (x : Int) : (∃ p ∈ ps, lowv n x p = leadF n ps x) ∧ ∀ p ∈ ps, lowv n x p ≤ leadF n ps x := by
  unfold leadF
  cases e : (ps.map (lowv n x)).max? with
  | none =>
    rw [List.max?_eq_none_iff] at e
    exact absurd (List.map_eq_nil_iff.mp e) hp
  | some m =>
    obtain ⟨h1, h2⟩ := List.max?_eq_some_iff.mp e
    refine ⟨List.mem_map.mp h1, fun p hm => h2 _ (List.mem_map.mpr ⟨p, hm, rfl⟩)⟩
theorem leadF_hand {n : Int} (hn : 0 < n) {ps : List (Int × Int)} (hp : ps ≠ []) : Hand n (leadF n ps) := hand_of hn fun x => leadF_ok hp x
theorem leadF_eq {n : Int} {ps : List (Int × Int)} (hp : ps ≠ []) {x m : Int} (h1 : ∃ p ∈ ps, lowv n x p = m) (h2 : ∀ p ∈ ps, lowv n x p ≤ m) : m = leadF n ps x := by
  obtain ⟨⟨p, hp1, e⟩, h3⟩ := leadF_ok hp x (n := n)
  obtain ⟨p', hp', e'⟩ := h1
  have a := h2 p hp1
  have b := h3 p' hp'
  omega
theorem nodup_len : ∀ {xs ys : List Int}, xs.Pairwise (· < ·) → (∀ x ∈ xs, x ∈ ys) → xs.length ≤ ys.length
  | [], _, _, _ => Nat.zero_le _
  | x :: xs, ys, h, hs => by
    obtain ⟨h1, h2⟩ := List.pairwise_cons.mp h
    have hx := hs x List.mem_cons_self
    have := nodup_len (xs := xs) (ys := ys.erase x) h2 fun z hz => by
      have := h1 z hz
      exact (List.mem_erase_of_ne (by omega)).mpr (hs z (List.mem_cons_of_mem _ hz))
    rw [List.length_erase_of_mem hx] at this
    have : 0 < ys.length := List.length_pos_of_mem hx
    simp only [List.length_cons]
    omega
theorem length_hearAll {n : Int} (ks : List Look) : (hearAll n ks).length ≤ ks.length := by
  have : ∀ (ks L : List Look), (ks.foldl (hearL n) L).length ≤ L.length + ks.length := by
    intro ks
    induction ks with
    | nil => intro L; simp
    | cons k ks ih =>
      intro L
      rw [List.foldl_cons]
      have h1 := ih (hearL n L k)
      have h2 := length_hearL (n := n) (L := L) (l := k)
      simp only [List.length_cons]
      omega
  have h := this ks []
  simp only [List.length_nil, Nat.zero_add] at h
  exact h
def lsP (l : Look) : Bool := [D.str "at", D.str "from"].any fun z => z.eqv (.str l.1)
def lgP (l : Look) : Bool := [D.str "at", D.str "upto"].any fun z => z.eqv (.str l.1)
theorem filter_ls {L : List Look} (h : ∀ l ∈ L, l.1 = "at" ∨ l.1 = "from" ∨ l.1 = "upto") : L.filter lsP = L.filter nsP := by
  refine List.filter_congr fun l hl => ?_
  obtain ⟨a, b⟩ := l
  rcases h _ hl with e | e | e <;> (simp only at e; subst e; simp [lsP, nsP, eqv_str]; try decide)
theorem filter_lg {L : List Look} (h : ∀ l ∈ L, l.1 = "at" ∨ l.1 = "from" ∨ l.1 = "upto") : L.filter lgP = L.filter nbP := by
  refine List.filter_congr fun l hl => ?_
  obtain ⟨a, b⟩ := l
  rcases h _ hl with e | e | e <;> (simp only at e; subst e; simp [lgP, nbP, eqv_str]; try decide)
theorem sm_opt (n : Nat) (o : Option Int) : (optD o).sm n = true := by cases o <;> cases n <;> rfl
theorem alike_lks : ∀ L : List Look, PySem.W.alikeAll (D.pys (L.map lkD)) (D.pys (L.map lkD)) = true
  | [] => rfl
  | l :: L => by
    show (PySem.W.alike (lkD l).py (lkD l).py && PySem.W.alikeAll (D.pys (L.map lkD)) (D.pys (L.map lkD))) = true
    rw [alike_lks L]
    rfl
theorem eqv_lks (L : List Look) : (D.lst (L.map lkD)).eqv (.lst (L.map lkD)) = true :=
  PySem.W.eqv_refl_alike (.list (D.pys (L.map lkD))) (alike_lks L)
end DK
namespace DK
open PySem PL
/-! may and sure, by least and greatest -/
def under (o : Option Int) (y : Int) : Bool := match o with
  | none => true
  | some v => decide (v ≤ y)
def above (o : Option Int) (y : Int) : Bool := match o with
  | none => true
  | some v => decide (y ≤ v)
def sUnder (o : Option Int) (y : Int) : Bool := match o with
  | none => false
  | some v => decide (y ≤ v)
def sAbove (o : Option Int) (y : Int) : Bool := match o with
  | none => false
  | some v => decide (v ≤ y)
def dueMay (x : Str) (o1 o2 : Option Int) (y : Int) : Bool := if x = "at" then under o1 y && above o2 y else if x = "from" then above o2 y else under o1 y
def dueSure (x : Str) (o1 o2 : Option Int) (y : Int) : Bool := if x = "at" then sUnder o1 y && sAbove o2 y else if x = "from" then sUnder o1 y else sAbove o2 y
theorem isMax_ex : ∀ xs : List Int, ∃ o, IsMax xs o
  | [] => ⟨none, rfl⟩
  | x :: xs => by
    obtain ⟨o, h⟩ := isMax_ex xs
    cases o with
    | none =>
      have h : xs = [] := h
      subst h
      exact ⟨some x, by simp, by simp⟩
    | some m =>
      by_cases c : m ≤ x
      · refine ⟨some x, by simp, fun y hy => ?_⟩
        rcases List.mem_cons.mp hy with rfl | hy
        · exact Int.le_refl _
        · exact Int.le_trans (h.2 y hy) c
      · refine ⟨some m, List.mem_cons_of_mem _ h.1, fun y hy => ?_⟩
        rcases List.mem_cons.mp hy with rfl | hy
        · omega
        · exact h.2 y hy
theorem isMin_ex : ∀ xs : List Int, ∃ o, IsMin xs o
  | [] => ⟨none, rfl⟩
  | x :: xs => by
    obtain ⟨o, h⟩ := isMin_ex xs
    cases o with
    | none =>
      have h : xs = [] := h
      subst h
      exact ⟨some x, by simp, by simp⟩
    | some m =>
      by_cases c : x ≤ m
      · refine ⟨some x, by simp, fun y hy => ?_⟩
        rcases List.mem_cons.mp hy with rfl | hy
        · exact Int.le_refl _
        · exact Int.le_trans c (h.2 y hy)
      · refine ⟨some m, List.mem_cons_of_mem _ h.1, fun y hy => ?_⟩
        rcases List.mem_cons.mp hy with rfl | hy
        · omega
        · exact h.2 y hy
theorem apart_home {n : Int} (hn : 0 < n) (a b : Look) : apart n (home n a) (home n b) = apart n a b := by
  have one : ∀ a b : Look, aprt1 n (home n a) (home n b) = aprt1 n a b := by
    intro a b
    unfold aprt1
    have e1 : nsP (home n a) = nsP a := rfl
    have e2 : nbP (home n b) = nbP b := rfl
    have e3 : lowv n (home n b).2.1 (home n a).2 = lowv n b.2.1 a.2 - b.2.1 / n * n := by
      rw [home_low hn]
      show a.2.2 + (b.2.1 - b.2.1 / n * n - a.2.1) / n * n = a.2.2 + (b.2.1 - a.2.1) / n * n - b.2.1 / n * n
      rw [show b.2.1 - b.2.1 / n * n - a.2.1 = b.2.1 - a.2.1 + (-(b.2.1 / n)) * n by rw [Int.neg_mul]; omega, Int.add_mul_ediv_right _ _ (by omega), Int.add_mul, Int.neg_mul]
      omega
    have e4 : (home n b).2.2 = b.2.2 - b.2.1 / n * n := rfl
    rw [e1, e2, e3, e4]
    congr 1
    exact decide_eq_decide.mpr (by omega)
  unfold apart
  rw [one, one]
/-- a look goes with the heard just where it clashes with none of the told -/
def mayB (n : Int) (L : List Look) (l : Look) : Bool := (optL (L.find? fun z => apart n (home n l) z)).isNon
theorem mayB_eq {n : Int} (hn : 0 < n) (ks : List Look) (l : Look) : mayB n (hearAll n ks) l = !(ks.any fun z => apart n l z) := by
  unfold mayB
  cases e : (hearAll n ks).find? fun z => apart n (home n l) z with
  | none =>
    have h := List.find?_eq_none.mp e
    have : (ks.any fun z => apart n l z) = false := by
      rw [List.any_eq_false]
      intro z hz
      have := h (home n z) (mem_hearAll.mpr ⟨z, hz, rfl⟩)
      rw [apart_home hn] at this
      exact this
    rw [this]
    rfl
  | some z =>
    have h1 := List.find?_some e
    obtain ⟨k, hk, rfl⟩ := mem_hearAll.mp (List.mem_of_find?_eq_some e)
    rw [apart_home hn] at h1
    have : (ks.any fun z => apart n l z) = true := List.any_eq_true.mpr ⟨k, hk, h1⟩
    rw [this]
    rfl
theorem under_iff {xs : List Int} {o : Option Int} (h : IsMax xs o) (y : Int) : under o y = true ↔ ∀ v ∈ xs, v ≤ y := by
  cases o with
  | none =>
    have h : xs = [] := h
    subst h
    simp [under]
  | some m =>
    simp only [under, decide_eq_true_eq]
    exact ⟨fun a v hv => Int.le_trans (h.2 v hv) a, fun a => a m h.1⟩
theorem above_iff {xs : List Int} {o : Option Int} (h : IsMin xs o) (y : Int) : above o y = true ↔ ∀ v ∈ xs, y ≤ v := by
  cases o with
  | none =>
    have h : xs = [] := h
    subst h
    simp [above]
  | some m =>
    simp only [above, decide_eq_true_eq]
    exact ⟨fun a v hv => Int.le_trans a (h.2 v hv), fun a => a m h.1⟩
theorem may_dues {n : Int} (hn : 0 < n) {ks : List Look} {l : Look} (hw : l.1 = "at" ∨ l.1 = "from" ∨ l.1 = "upto") {o1 o2 : Option Int} (h1 : IsMax ((notShort ks).map (lowv n l.2.1)) o1) (h2 : IsMin ((notBeyond ks).map (highv n l.2.1)) o2) :
    mayB n (hearAll n ks) l = dueMay l.1 o1 o2 l.2.2 := by
  have ns : nsP l = true ∨ nsP l = false := by cases nsP l <;> simp
  have key : mayB n (hearAll n ks) l = ((!nsP l || above o2 l.2.2) && (!nbP l || under o1 l.2.2)) := by
    rw [mayB_eq hn, Bool.eq_iff_iff]
    simp only [Bool.not_eq_true', List.any_eq_false, Bool.and_eq_true, Bool.or_eq_true, above_iff h2, under_iff h1]
    have m1 : ∀ v, v ∈ (notShort ks).map (lowv n l.2.1) ↔ ∃ z ∈ ks, nsP z = true ∧ lowv n l.2.1 z.2 = v := fun v => by
      simp only [notShort, List.mem_map, List.mem_filter]
      constructor
      · rintro ⟨p, ⟨z, ⟨a, b⟩, rfl⟩, rfl⟩
        exact ⟨z, a, b, rfl⟩
      · rintro ⟨z, a, b, rfl⟩
        exact ⟨z.2, ⟨z, ⟨a, b⟩, rfl⟩, rfl⟩
    have m2 : ∀ v, v ∈ (notBeyond ks).map (highv n l.2.1) ↔ ∃ z ∈ ks, nbP z = true ∧ highv n l.2.1 z.2 = v := fun v => by
      simp only [notBeyond, List.mem_map, List.mem_filter]
      constructor
      · rintro ⟨p, ⟨z, ⟨a, b⟩, rfl⟩, rfl⟩
        exact ⟨z, a, b, rfl⟩
      · rintro ⟨z, a, b, rfl⟩
        exact ⟨z.2, ⟨z, ⟨a, b⟩, rfl⟩, rfl⟩
    have hl : ∀ z : Look, lowv n z.2.1 l.2 > z.2.2 ↔ highv n l.2.1 z.2 < l.2.2 := fun z => by
      show l.2.2 + (z.2.1 - l.2.1) / n * n > z.2.2 ↔ z.2.2 - (z.2.1 - l.2.1) / n * n < l.2.2
      omega
    have ap : ∀ z : Look, apart n l z = true ↔ (nsP l = true ∧ nbP z = true ∧ highv n l.2.1 z.2 < l.2.2) ∨ (nbP l = true ∧ nsP z = true ∧ l.2.2 < lowv n l.2.1 z.2) := fun z => by
      unfold apart aprt1
      simp only [Bool.or_eq_true, Bool.and_eq_true, decide_eq_true_eq, hl]
      constructor
      · rintro (⟨⟨a, b⟩, c⟩ | ⟨⟨a, b⟩, c⟩)
        · exact .inl ⟨a, b, c⟩
        · exact .inr ⟨b, a, c⟩
      · rintro (⟨a, b, c⟩ | ⟨a, b, c⟩)
        · exact .inl ⟨⟨a, b⟩, c⟩
        · exact .inr ⟨⟨b, a⟩, c⟩
    simp only [ap, m1, m2]
    constructor
    · intro h
      refine ⟨?_, ?_⟩
      · cases e : nsP l with
        | false => exact .inl rfl
        | true =>
          refine .inr ?_
          rintro v ⟨z, hz, hb, rfl⟩
          have := h z hz
          rcases Int.lt_or_le (highv n l.2.1 z.2) l.2.2 with c | c
          · exact absurd (.inl ⟨e, hb, c⟩) this
          · exact c
      · cases e : nbP l with
        | false => exact .inl rfl
        | true =>
          refine .inr ?_
          rintro v ⟨z, hz, hb, rfl⟩
          have := h z hz
          rcases Int.lt_or_le l.2.2 (lowv n l.2.1 z.2) with c | c
          · exact absurd (.inr ⟨e, hb, c⟩) this
          · exact c
    · rintro ⟨a, b⟩ z hz (⟨e1, e2, e3⟩ | ⟨e1, e2, e3⟩)
      · rcases a with a | a
        · rw [e1] at a; cases a
        · have := a _ ⟨z, hz, e2, rfl⟩
          omega
      · rcases b with b | b
        · rw [e1] at b; cases b
        · have := b _ ⟨z, hz, e2, rfl⟩
          omega
  rw [key]
  obtain ⟨w, x, y⟩ := l
  simp only at hw
  rcases hw with rfl | rfl | rfl
  · have e1 : nsP (("at" : Str), x, y) = true := by simp [nsP, eqv_str]; try decide
    have e2 : nbP (("at" : Str), x, y) = true := by simp [nbP, eqv_str]; try decide
    simp only [e1, e2, dueMay, if_true, Bool.not_true, Bool.false_or]
    exact Bool.and_comm _ _
  · have e1 : nsP (("from" : Str), x, y) = true := by simp [nsP, eqv_str]; try decide
    have e2 : nbP (("from" : Str), x, y) = false := by simp [nbP, eqv_str]; try decide
    have e3 : dueMay "from" o1 o2 y = above o2 y := rfl
    simp only [e1, e2, e3, Bool.not_true, Bool.false_or, Bool.not_false, Bool.true_or, Bool.and_true]
  · have e1 : nsP (("upto" : Str), x, y) = false := by simp [nsP, eqv_str]; try decide
    have e2 : nbP (("upto" : Str), x, y) = true := by simp [nbP, eqv_str]; try decide
    have e3 : dueMay "upto" o1 o2 y = under o1 y := rfl
    simp only [e1, e2, e3, Bool.not_true, Bool.false_or, Bool.not_false, Bool.true_or, Bool.true_and]
/-- the told ones among two -/
def vals (os : List (Option Int)) : List Int := os.filterMap id
theorem vals_D (os : List (Option Int)) : (os.filter fun o => !(optD o).isNon).map optD = (vals os).map D.int := by
  induction os with
  | nil => rfl
  | cons o os ih =>
    cases o with
    | none => exact ih
    | some v =>
      exact congrArg (D.int v :: ·) ih
theorem mem_vals {os : List (Option Int)} {v : Int} : v ∈ vals os ↔ some v ∈ os := by
  simp [vals]
end DK
namespace DK
open PySem PL
/-! looks moved, grown, the other way about -/
def shift (o : Int) (l : Look) : Look := (l.1, l.2.1 + o, l.2.2 + o)
def grow (m : Int) (l : Look) : Look := (l.1, l.2.1 * m, l.2.2 * m)
def otherW (x : Str) : Str := if x = "from" then "upto" else if x = "upto" then "from" else x
def mirr (l : Look) : Look := (otherW l.1, 0 - l.2.1, 0 - l.2.2)
theorem hand_shift {n o : Int} {F : Int → Int} (h : Hand n F) : Hand n fun x => F (x - o) + o := by
  refine ⟨fun x y hxy => ?_, fun x k => ?_⟩
  · have := h.mono (x - o) (y - o) (by omega)
    show F (x - o) + o ≤ F (y - o) + o
    omega
  · have := h.turn (x - o) k
    show F (x + k * n - o) + o = F (x - o) + o + k * n
    rw [show x + k * n - o = x - o + k * n by omega, this]
    omega
theorem ok_shift {o : Int} {F : Int → Int} {l : Look} (h : Ok F l) : Ok (fun x => F (x - o) + o) (shift o l) := by
  refine ⟨fun z => ?_, fun z => ?_⟩
  · have := h.ns z
    show l.2.2 + o ≤ F (l.2.1 + o - o) + o
    rw [Int.add_sub_cancel]
    omega
  · have := h.nb z
    show F (l.2.1 + o - o) + o ≤ l.2.2 + o
    rw [Int.add_sub_cancel]
    omega
theorem hand_grow {n m : Int} {F : Int → Int} (hm : 0 < m) (h : Hand n F) : Hand (n * m) fun x => F (x / m) * m := by
  refine ⟨fun x y hxy => ?_, fun x k => ?_⟩
  · exact Int.mul_le_mul_of_nonneg_right (h.mono _ _ (Int.ediv_le_ediv hm hxy)) (by omega)
  · show F ((x + k * (n * m)) / m) * m = F (x / m) * m + k * (n * m)
    rw [← Int.mul_assoc, Int.add_mul_ediv_right _ _ (by omega), h.turn, Int.add_mul]
theorem ok_grow {m : Int} {F : Int → Int} {l : Look} (hm : 0 < m) (h : Ok F l) : Ok (fun x => F (x / m) * m) (grow m l) := by
  refine ⟨fun z => ?_, fun z => ?_⟩
  · show l.2.2 * m ≤ F (l.2.1 * m / m) * m
    rw [Int.mul_ediv_cancel _ (by omega)]
    exact Int.mul_le_mul_of_nonneg_right (h.ns z) (by omega)
  · show F (l.2.1 * m / m) * m ≤ l.2.2 * m
    rw [Int.mul_ediv_cancel _ (by omega)]
    exact Int.mul_le_mul_of_nonneg_right (h.nb z) (by omega)
theorem hand_mirror {n : Int} {F : Int → Int} (h : Hand n F) : Hand n fun x => 0 - F (0 - x) := by
  refine ⟨fun x y hxy => ?_, fun x k => ?_⟩
  · have := h.mono (0 - y) (0 - x) (by omega)
    show 0 - F (0 - x) ≤ 0 - F (0 - y)
    omega
  · have := h.turn (0 - x) (-k)
    show 0 - F (0 - (x + k * n)) = 0 - F (0 - x) + k * n
    rw [Int.neg_mul] at this
    rw [show 0 - (x + k * n) = 0 - x + -(k * n) by omega, this]
    omega
theorem nsP_other {x : Str} {p q : Int × Int} (hw : x = "at" ∨ x = "from" ∨ x = "upto") : nsP (otherW x, p) = nbP (x, q) := by
  rcases hw with rfl | rfl | rfl <;> (simp [nsP, nbP, eqv_str, otherW]; try decide)
theorem nbP_other {x : Str} {p q : Int × Int} (hw : x = "at" ∨ x = "from" ∨ x = "upto") : nbP (otherW x, p) = nsP (x, q) := by
  rcases hw with rfl | rfl | rfl <;> (simp [nsP, nbP, eqv_str, otherW]; try decide)
theorem ok_mirror {F : Int → Int} {l : Look} (hw : l.1 = "at" ∨ l.1 = "from" ∨ l.1 = "upto") (h : Ok F l) : Ok (fun x => 0 - F (0 - x)) (mirr l) := by
  refine ⟨fun z => ?_, fun z => ?_⟩
  · have := h.nb (by rw [← z]; exact (nsP_other hw).symm)
    show 0 - l.2.2 ≤ 0 - F (0 - (0 - l.2.1))
    rw [show 0 - (0 - l.2.1) = l.2.1 by omega]
    omega
  · have := h.ns (by rw [← z]; exact (nbP_other hw).symm)
    show 0 - F (0 - (0 - l.2.1)) ≤ 0 - l.2.2
    rw [show 0 - (0 - l.2.1) = l.2.1 by omega]
    omega
/-- what they lead to -/
theorem low_shift {n x o : Int} (l : Look) : lowv n (x + o) (shift o l).2 = lowv n x l.2 + o := by
  show l.2.2 + o + (x + o - (l.2.1 + o)) / n * n = l.2.2 + (x - l.2.1) / n * n + o
  rw [show x + o - (l.2.1 + o) = x - l.2.1 by omega]
  omega
theorem high_shift {n x o : Int} (l : Look) : highv n (x + o) (shift o l).2 = highv n x l.2 + o := by
  show l.2.2 + o - (l.2.1 + o - (x + o)) / n * n = l.2.2 - (l.2.1 - x) / n * n + o
  rw [show l.2.1 + o - (x + o) = l.2.1 - x by omega]
  omega
theorem div_grow {a m n r : Int} (hm : 0 < m) (hn : 0 < n) (h : 0 ≤ r ∧ r < m) : (a * m + r) / (n * m) = a / n := by
  rw [Int.mul_comm n m, ← Int.ediv_ediv_of_nonneg (by omega)]
  have : (a * m + r) / m = a := by
    rw [Int.add_comm, Int.add_mul_ediv_right _ _ (by omega), Int.ediv_eq_zero_of_lt h.1 h.2]
    omega
  rw [this]
theorem low_grow {n x m r : Int} (hm : 0 < m) (hn : 0 < n) (h : 0 ≤ r ∧ r < m) (l : Look) : lowv (n * m) (x * m + r) (grow m l).2 = lowv n x l.2 * m := by
  show l.2.2 * m + (x * m + r - l.2.1 * m) / (n * m) * (n * m) = (l.2.2 + (x - l.2.1) / n * n) * m
  rw [show x * m + r - l.2.1 * m = (x - l.2.1) * m + r by rw [Int.sub_mul]; omega, div_grow hm hn h, Int.add_mul, Int.mul_assoc]
theorem high_grow {n x m r : Int} (hm : 0 < m) (hn : 0 < n) (h : 0 ≤ r ∧ r < m) (l : Look) : highv (n * m) (x * m - r) (grow m l).2 = highv n x l.2 * m := by
  show l.2.2 * m - (l.2.1 * m - (x * m - r)) / (n * m) * (n * m) = (l.2.2 - (l.2.1 - x) / n * n) * m
  rw [show l.2.1 * m - (x * m - r) = (l.2.1 - x) * m + r by rw [Int.sub_mul]; omega, div_grow hm hn h, Int.sub_mul, Int.mul_assoc]
theorem high_mirror {n x : Int} (l : Look) : highv n (0 - x) (mirr l).2 = 0 - lowv n x l.2 := by
  show 0 - l.2.2 - (0 - l.2.1 - (0 - x)) / n * n = 0 - (l.2.2 + (x - l.2.1) / n * n)
  rw [show 0 - l.2.1 - (0 - x) = x - l.2.1 by omega]
  omega
theorem low_mirror {n x : Int} (l : Look) : lowv n (0 - x) (mirr l).2 = 0 - highv n x l.2 := by
  show 0 - l.2.2 + (0 - x - (0 - l.2.1)) / n * n = 0 - (l.2.2 - (l.2.1 - x) / n * n)
  rw [show 0 - x - (0 - l.2.1) = l.2.1 - x by omega]
  omega
/-- a greatest, each turned alike -/
theorem IsMax.map {xs : List Int} {f : Int → Int} (hf : ∀ a b, a ≤ b → f a ≤ f b) : ∀ {o : Option Int}, IsMax xs o → IsMax (xs.map f) (o.map f)
  | none, h => by
    have h : xs = [] := h
    subst h
    rfl
  | some m, h => ⟨List.mem_map.mpr ⟨m, h.1, rfl⟩, fun y hy => by
      obtain ⟨z, hz, rfl⟩ := List.mem_map.mp hy
      exact hf _ _ (h.2 z hz)⟩
theorem IsMin.map {xs : List Int} {f : Int → Int} (hf : ∀ a b, a ≤ b → f a ≤ f b) : ∀ {o : Option Int}, IsMin xs o → IsMin (xs.map f) (o.map f)
  | none, h => by
    have h : xs = [] := h
    subst h
    rfl
  | some m, h => ⟨List.mem_map.mpr ⟨m, h.1, rfl⟩, fun y hy => by
      obtain ⟨z, hz, rfl⟩ := List.mem_map.mp hy
      exact hf _ _ (h.2 z hz)⟩
theorem IsMax.flip {xs : List Int} {f : Int → Int} (hf : ∀ a b, a ≤ b → f b ≤ f a) : ∀ {o : Option Int}, IsMax xs o → IsMin (xs.map f) (o.map f)
  | none, h => by
    have h : xs = [] := h
    subst h
    rfl
  | some m, h => ⟨List.mem_map.mpr ⟨m, h.1, rfl⟩, fun y hy => by
      obtain ⟨z, hz, rfl⟩ := List.mem_map.mp hy
      exact hf _ _ (h.2 z hz)⟩
theorem IsMin.flip {xs : List Int} {f : Int → Int} (hf : ∀ a b, a ≤ b → f b ≤ f a) : ∀ {o : Option Int}, IsMin xs o → IsMax (xs.map f) (o.map f)
  | none, h => by
    have h : xs = [] := h
    subst h
    rfl
  | some m, h => ⟨List.mem_map.mpr ⟨m, h.1, rfl⟩, fun y hy => by
      obtain ⟨z, hz, rfl⟩ := List.mem_map.mp hy
      exact hf _ _ (h.2 z hz)⟩
/-! may, of looks moved and the other way about -/
theorem home_shift_low {n x o : Int} (hn : 0 < n) (l : Look) : lowv n (x + o) (home n (shift o l)).2 = lowv n x l.2 + o := by
  rw [home_low hn, low_shift]
theorem aprt1_shift {n o : Int} (a b : Look) : aprt1 n (shift o a) (shift o b) = aprt1 n a b := by
  unfold aprt1
  have e1 : nsP (shift o a) = nsP a := rfl
  have e2 : nbP (shift o b) = nbP b := rfl
  have e3 : lowv n (shift o b).2.1 (shift o a).2 = lowv n b.2.1 a.2 + o := low_shift a
  have e4 : (shift o b).2.2 = b.2.2 + o := rfl
  rw [e1, e2, e3, e4]
  congr 1
  exact decide_eq_decide.mpr (by omega)
theorem apart_shift {n o : Int} (a b : Look) : apart n (shift o a) (shift o b) = apart n a b := by
  unfold apart
  rw [aprt1_shift, aprt1_shift]
theorem aprt1_mirr {n : Int} {a b : Look} (ha : a.1 = "at" ∨ a.1 = "from" ∨ a.1 = "upto") (hb : b.1 = "at" ∨ b.1 = "from" ∨ b.1 = "upto") : aprt1 n (mirr a) (mirr b) = aprt1 n b a := by
  unfold aprt1
  have e1 : nsP (mirr a) = nbP a := nsP_other ha
  have e2 : nbP (mirr b) = nsP b := nbP_other hb
  have e3 : lowv n (mirr b).2.1 (mirr a).2 = 0 - highv n b.2.1 a.2 := low_mirror a
  have e4 : (mirr b).2.2 = 0 - b.2.2 := rfl
  have e5 : highv n b.2.1 a.2 = a.2.2 - (a.2.1 - b.2.1) / n * n := rfl
  have e6 : lowv n a.2.1 b.2 = b.2.2 + (a.2.1 - b.2.1) / n * n := rfl
  rw [e1, e2, e3, e4, e5, e6, Bool.and_comm (nbP a) (nsP b)]
  congr 1
  exact decide_eq_decide.mpr (by omega)
theorem apart_mirr {n : Int} {a b : Look} (ha : a.1 = "at" ∨ a.1 = "from" ∨ a.1 = "upto") (hb : b.1 = "at" ∨ b.1 = "from" ∨ b.1 = "upto") : apart n (mirr a) (mirr b) = apart n a b := by
  unfold apart
  rw [aprt1_mirr ha hb, aprt1_mirr hb ha, Bool.or_comm]
theorem may_shift {n o : Int} (hn : 0 < n) (ks : List Look) (l : Look) : mayB n (hearAll n (ks.map (shift o))) (shift o l) = mayB n (hearAll n ks) l := by
  rw [mayB_eq hn, mayB_eq hn, List.any_map]
  congr 2
  funext z
  exact apart_shift l z
theorem may_mirr {n : Int} (hn : 0 < n) (ks : List Look) (l : Look) (hk : ∀ z ∈ ks, z.1 = "at" ∨ z.1 = "from" ∨ z.1 = "upto") (hl : l.1 = "at" ∨ l.1 = "from" ∨ l.1 = "upto") : mayB n (hearAll n (ks.map mirr)) (mirr l) = mayB n (hearAll n ks) l := by
  rw [mayB_eq hn, mayB_eq hn, List.any_map]
  congr 1
  rw [Bool.eq_iff_iff, List.any_eq_true, List.any_eq_true]
  constructor
  · rintro ⟨z, hz, e⟩
    exact ⟨z, hz, by rw [← apart_mirr hl (hk z hz)]; exact e⟩
  · rintro ⟨z, hz, e⟩
    exact ⟨z, hz, by show apart n (mirr l) (mirr z) = true; rw [apart_mirr hl (hk z hz)]; exact e⟩
/-! least and greatest of looks turned about -/
theorem mem_low {n x v : Int} (hn : 0 < n) {ks : List Look} : v ∈ (notShort (hearAll n ks)).map (lowv n x) ↔ ∃ l ∈ ks, nsP l = true ∧ lowv n x l.2 = v := by
  rw [least_same hn (fun z => mem_hearAll) v]
  simp only [notShort, List.mem_map, List.mem_filter]
  constructor
  · rintro ⟨p, ⟨l, ⟨h1, h2⟩, rfl⟩, rfl⟩
    exact ⟨l, h1, h2, rfl⟩
  · rintro ⟨l, h1, h2, rfl⟩
    exact ⟨l.2, ⟨l, ⟨h1, h2⟩, rfl⟩, rfl⟩
theorem mem_high {n x v : Int} (hn : 0 < n) {ks : List Look} : v ∈ (notBeyond (hearAll n ks)).map (highv n x) ↔ ∃ l ∈ ks, nbP l = true ∧ highv n x l.2 = v := by
  rw [greatest_same hn (fun z => mem_hearAll) v]
  simp only [notBeyond, List.mem_map, List.mem_filter]
  constructor
  · rintro ⟨p, ⟨l, ⟨h1, h2⟩, rfl⟩, rfl⟩
    exact ⟨l, h1, h2, rfl⟩
  · rintro ⟨l, h1, h2, rfl⟩
    exact ⟨l.2, ⟨l, ⟨h1, h2⟩, rfl⟩, rfl⟩
section
variable {n n' x x' : Int} {ks : List Look} {t : Look → Look} {f : Int → Int} {o o' : Option Int}
theorem least_turn (hn : 0 < n) (hn' : 0 < n') (hf : ∀ a b, a ≤ b → f a ≤ f b) (h1 : ∀ l ∈ ks, nsP (t l) = nsP l) (h2 : ∀ l ∈ ks, lowv n' x' (t l).2 = f (lowv n x l.2))
    (a : IsMax ((notShort (hearAll n' (ks.map t))).map (lowv n' x')) o') (b : IsMax ((notShort (hearAll n ks)).map (lowv n x)) o) : o' = o.map f := by
  refine IsMax.uniq (fun v => ?_) a (b.map hf)
  rw [mem_low hn', List.mem_map]
  constructor
  · rintro ⟨z, hz, hs, rfl⟩
    obtain ⟨l, hl, rfl⟩ := List.mem_map.mp hz
    exact ⟨lowv n x l.2, (mem_low hn).mpr ⟨l, hl, by rw [← h1 l hl]; exact hs, rfl⟩, (h2 l hl).symm⟩
  · rintro ⟨u, hu, rfl⟩
    obtain ⟨l, hl, hs, rfl⟩ := (mem_low hn).mp hu
    exact ⟨t l, List.mem_map.mpr ⟨l, hl, rfl⟩, by rw [h1 l hl]; exact hs, h2 l hl⟩
theorem greatest_turn (hn : 0 < n) (hn' : 0 < n') (hf : ∀ a b, a ≤ b → f a ≤ f b) (h1 : ∀ l ∈ ks, nbP (t l) = nbP l) (h2 : ∀ l ∈ ks, highv n' x' (t l).2 = f (highv n x l.2))
    (a : IsMin ((notBeyond (hearAll n' (ks.map t))).map (highv n' x')) o') (b : IsMin ((notBeyond (hearAll n ks)).map (highv n x)) o) : o' = o.map f := by
  refine IsMin.uniq (fun v => ?_) a (b.map hf)
  rw [mem_high hn', List.mem_map]
  constructor
  · rintro ⟨z, hz, hs, rfl⟩
    obtain ⟨l, hl, rfl⟩ := List.mem_map.mp hz
    exact ⟨highv n x l.2, (mem_high hn).mpr ⟨l, hl, by rw [← h1 l hl]; exact hs, rfl⟩, (h2 l hl).symm⟩
  · rintro ⟨u, hu, rfl⟩
    obtain ⟨l, hl, hs, rfl⟩ := (mem_high hn).mp hu
    exact ⟨t l, List.mem_map.mpr ⟨l, hl, rfl⟩, by rw [h1 l hl]; exact hs, h2 l hl⟩
theorem least_flip (hn : 0 < n) (hn' : 0 < n') (hf : ∀ a b, a ≤ b → f b ≤ f a) (h1 : ∀ l ∈ ks, nsP (t l) = nbP l) (h2 : ∀ l ∈ ks, lowv n' x' (t l).2 = f (highv n x l.2))
    (a : IsMax ((notShort (hearAll n' (ks.map t))).map (lowv n' x')) o') (b : IsMin ((notBeyond (hearAll n ks)).map (highv n x)) o) : o' = o.map f := by
  refine IsMax.uniq (fun v => ?_) a (b.flip hf)
  rw [mem_low hn', List.mem_map]
  constructor
  · rintro ⟨z, hz, hs, rfl⟩
    obtain ⟨l, hl, rfl⟩ := List.mem_map.mp hz
    exact ⟨highv n x l.2, (mem_high hn).mpr ⟨l, hl, by rw [← h1 l hl]; exact hs, rfl⟩, (h2 l hl).symm⟩
  · rintro ⟨u, hu, rfl⟩
    obtain ⟨l, hl, hs, rfl⟩ := (mem_high hn).mp hu
    exact ⟨t l, List.mem_map.mpr ⟨l, hl, rfl⟩, by rw [h1 l hl]; exact hs, h2 l hl⟩
theorem greatest_flip (hn : 0 < n) (hn' : 0 < n') (hf : ∀ a b, a ≤ b → f b ≤ f a) (h1 : ∀ l ∈ ks, nbP (t l) = nsP l) (h2 : ∀ l ∈ ks, highv n' x' (t l).2 = f (lowv n x l.2))
    (a : IsMin ((notBeyond (hearAll n' (ks.map t))).map (highv n' x')) o') (b : IsMax ((notShort (hearAll n ks)).map (lowv n x)) o) : o' = o.map f := by
  refine IsMin.uniq (fun v => ?_) a (b.flip hf)
  rw [mem_high hn', List.mem_map]
  constructor
  · rintro ⟨z, hz, hs, rfl⟩
    obtain ⟨l, hl, rfl⟩ := List.mem_map.mp hz
    exact ⟨lowv n x l.2, (mem_low hn).mpr ⟨l, hl, by rw [← h1 l hl]; exact hs, rfl⟩, (h2 l hl).symm⟩
  · rintro ⟨u, hu, rfl⟩
    obtain ⟨l, hl, hs, rfl⟩ := (mem_low hn).mp hu
    exact ⟨t l, List.mem_map.mpr ⟨l, hl, rfl⟩, by rw [h1 l hl]; exact hs, h2 l hl⟩
end
end DK
namespace DK
open PySem PL
/-! looks from both sides: where all hands lead between least and greatest -/
def neg2 (p : Int × Int) : Int × Int := (0 - p.1, 0 - p.2)
def lowF (n : Int) (ks : List Look) (x : Int) : Int := leadF n (notShort ks) x
def upF (n : Int) (ks : List Look) (x : Int) : Int := 0 - leadF n ((notBeyond ks).map neg2) (0 - x)
theorem low_neg {n x : Int} (p : Int × Int) : lowv n (0 - x) (neg2 p) = 0 - highv n x p := by
  show 0 - p.2 + (0 - x - (0 - p.1)) / n * n = 0 - (p.2 - (p.1 - x) / n * n)
  rw [show 0 - x - (0 - p.1) = p.1 - x by omega]
  omega
theorem lowF_max {n x : Int} {ks : List Look} (h : notShort ks ≠ []) : IsMax ((notShort ks).map (lowv n x)) (some (lowF n ks x)) := by
  obtain ⟨⟨p, hp, e⟩, h2⟩ := leadF_ok h x (n := n)
  refine ⟨List.mem_map.mpr ⟨p, hp, e⟩, fun y hy => ?_⟩
  obtain ⟨p, hp, rfl⟩ := List.mem_map.mp hy
  exact h2 p hp
theorem upF_min {n x : Int} {ks : List Look} (h : notBeyond ks ≠ []) : IsMin ((notBeyond ks).map (highv n x)) (some (upF n ks x)) := by
  obtain ⟨⟨p, hp, e⟩, h2⟩ := leadF_ok (n := n) (ps := (notBeyond ks).map neg2) (by simpa using h) (0 - x)
  obtain ⟨q, hq, rfl⟩ := List.mem_map.mp hp
  rw [low_neg] at e
  refine ⟨List.mem_map.mpr ⟨q, hq, ?_⟩, fun y hy => ?_⟩
  · unfold upF; omega
  · obtain ⟨z, hz, rfl⟩ := List.mem_map.mp hy
    have := h2 (neg2 z) (List.mem_map.mpr ⟨z, hz, rfl⟩)
    rw [low_neg] at this
    unfold upF
    omega
theorem lowF_hand {n : Int} (hn : 0 < n) {ks : List Look} (h : notShort ks ≠ []) : Hand n (lowF n ks) := leadF_hand hn h
theorem upF_hand {n : Int} (hn : 0 < n) {ks : List Look} (h : notBeyond ks ≠ []) : Hand n (upF n ks) := hand_mirror (leadF_hand hn (by simpa using h))
theorem low_le {n x : Int} (hn : 0 < n) {F : Int → Int} (hF : Hand n F) {l : Look} (ho : Ok F l) (hs : nsP l = true) : lowv n x l.2 ≤ F x := by
  have h1 := ho.ns hs
  have h3 := hF.turn l.2.1 ((x - l.2.1) / n)
  have h4 : (x - l.2.1) / n * n ≤ x - l.2.1 := Int.ediv_mul_le _ (by omega)
  have h5 := hF.mono (l.2.1 + (x - l.2.1) / n * n) x (by omega)
  show l.2.2 + (x - l.2.1) / n * n ≤ F x
  omega
theorem le_high {n x : Int} (hn : 0 < n) {F : Int → Int} (hF : Hand n F) {l : Look} (ho : Ok F l) (hs : nbP l = true) : F x ≤ highv n x l.2 := by
  have h1 := ho.nb hs
  have h3 := hF.turn l.2.1 (-((l.2.1 - x) / n))
  have h4 : (l.2.1 - x) / n * n ≤ l.2.1 - x := Int.ediv_mul_le _ (by omega)
  have h5 := hF.mono x (l.2.1 + -((l.2.1 - x) / n) * n) (by rw [Int.neg_mul]; omega)
  rw [Int.neg_mul] at h3 h5
  show F x ≤ l.2.2 - (l.2.1 - x) / n * n
  omega
/-- looks that some hand is as, of both sides -/
structure Both (n : Int) (ks : List Look) : Prop where
  hand : ∃ F, Hand n F ∧ ∀ l ∈ ks, Ok F l
  low : notShort ks ≠ []
  up : notBeyond ks ≠ []
theorem Both.le {n x : Int} (hn : 0 < n) {ks : List Look} (h : Both n ks) : lowF n ks x ≤ upF n ks x := by
  obtain ⟨F, hF, hT⟩ := h.hand
  have a : lowF n ks x ≤ F x := by
    obtain ⟨p, hp, e⟩ := List.mem_map.mp (lowF_max (n := n) (x := x) h.low).1
    obtain ⟨l, hl, rfl⟩ := List.mem_map.mp hp
    obtain ⟨h1, h2⟩ := List.mem_filter.mp hl
    rw [← e]
    exact low_le hn hF (hT l h1) h2
  have b : F x ≤ upF n ks x := by
    obtain ⟨p, hp, e⟩ := List.mem_map.mp (upF_min (n := n) (x := x) h.up).1
    obtain ⟨l, hl, rfl⟩ := List.mem_map.mp hp
    obtain ⟨h1, h2⟩ := List.mem_filter.mp hl
    rw [← e]
    exact le_high hn hF (hT l h1) h2
  omega
/-- places between, never falling -/
structure Row (ps : List (Int × Int)) (rs : List Int) : Prop where
  len : rs.length = ps.length
  in_ : ∀ (i : Nat) (p : Int × Int) (r : Int), ps[i]? = some p → rs[i]? = some r → p.1 ≤ r ∧ r ≤ p.2
  up : rs.Pairwise (· ≤ ·)
theorem Row.nil : Row [] [] := ⟨rfl, fun i p r h => by simp at h, .nil⟩
theorem Row.more {ps : List (Int × Int)} {rs : List Int} (h : Row ps rs) {p : Int × Int} {r : Int} (h1 : p.1 ≤ r ∧ r ≤ p.2) (h2 : ∀ z ∈ rs, z ≤ r) : Row (ps ++ [p]) (rs ++ [r]) := by
  refine ⟨by simp [h.len], fun i q z hq hz => ?_, ?_⟩
  · by_cases c : i < ps.length
    · rw [List.getElem?_append_left c] at hq
      rw [List.getElem?_append_left (by rw [h.len]; exact c)] at hz
      exact h.in_ i q z hq hz
    · rw [List.getElem?_append_right (by omega)] at hq
      rw [List.getElem?_append_right (by rw [h.len]; omega), h.len] at hz
      have e : i - ps.length = 0 := by
        have := (List.getElem?_eq_some_iff.mp hq).1
        simp at this
        omega
      rw [e] at hq hz
      cases hq; cases hz
      exact h1
  · rw [List.pairwise_append]
    exact ⟨h.up, List.pairwise_singleton _ _, fun a ha b hb => by rw [List.mem_singleton.mp hb]; exact h2 a ha⟩
/-- the last of a row is the greatest -/
theorem Row.last {ps : List (Int × Int)} {rs : List Int} (h : Row ps rs) {z : Int} (hz : rs.getLast? = some z) : ∀ r ∈ rs, r ≤ z := by
  obtain ⟨ys, rfl⟩ := List.getLast?_eq_some_iff.mp hz
  intro r hr
  have := (List.pairwise_append.mp h.up).2.2
  rcases List.mem_append.mp hr with hr | hr
  · exact this r hr z (by simp)
  · rw [List.mem_singleton.mp hr]; exact Int.le_refl _
def atL (z : Int × Int) : Look := ("at", z.1, z.2)
theorem ns_at (z : Int × Int) : nsP (atL z) = true := by simp [nsP, atL, eqv_str]; try decide
theorem nb_at (z : Int × Int) : nbP (atL z) = true := by simp [nbP, atL, eqv_str]; try decide
/-- a row of places that some hand leads to at once -/
structure Fit (n : Int) (ks : List Look) (zs : List (Int × Int)) : Prop where
  at_ : ∀ z ∈ zs, 0 ≤ z.1 ∧ z.1 < n
  in_ : ∀ z ∈ zs, lowF n ks z.1 ≤ z.2 ∧ z.2 ≤ upF n ks z.1
  up : zs.Pairwise fun a b => a.1 < b.1 ∧ a.2 ≤ b.2
  turn : ∀ a ∈ zs, ∀ b ∈ zs, a.2 ≤ b.2 + n
theorem pair_cases {α : Type} {R : α → α → Prop} : ∀ {l : List α}, l.Pairwise R → ∀ a ∈ l, ∀ b ∈ l, a = b ∨ R a b ∨ R b a
  | [], _, a, ha, _, _ => by cases ha
  | x :: l, h, a, ha, b, hb => by
    obtain ⟨h1, h2⟩ := List.pairwise_cons.mp h
    rcases List.mem_cons.mp ha with ea | ha2
    · rcases List.mem_cons.mp hb with eb | hb2
      · exact .inl (ea.trans eb.symm)
      · exact .inr (.inl (by rw [ea]; exact h1 b hb2))
    · rcases List.mem_cons.mp hb with eb | hb2
      · exact .inr (.inr (by rw [eb]; exact h1 a ha2))
      · exact pair_cases h2 a ha2 b hb2
theorem Fit.hand {n : Int} (hn : 0 < n) {ks : List Look} (hb : Both n ks) {zs : List (Int × Int)} (h : Fit n ks zs) :
    ∃ F, Hand n F ∧ (∀ l ∈ ks, Ok F l) ∧ (∀ z ∈ zs, F z.1 = z.2) := by
  have hne : notShort ks ++ zs ≠ [] := fun e => hb.low (List.append_eq_nil_iff.mp e).1
  have hF := leadF_hand hn hne
  have hU := upF_hand hn hb.up
  have hL := lowF_hand hn hb.low
  have le_up : ∀ x, leadF n (notShort ks ++ zs) x ≤ upF n ks x := fun x => by
    obtain ⟨p, hp, e⟩ := (leadF_ok hne x (n := n)).1
    rw [← e]
    rcases List.mem_append.mp hp with hp | hp
    · exact Int.le_trans ((leadF_ok hb.low x (n := n)).2 p hp) (hb.le hn)
    · have h1 := (h.in_ p hp).2
      have h3 := hU.turn p.1 ((x - p.1) / n)
      have h4 : (x - p.1) / n * n ≤ x - p.1 := Int.ediv_mul_le _ (by omega)
      have h5 := hU.mono (p.1 + (x - p.1) / n * n) x (by omega)
      show p.2 + (x - p.1) / n * n ≤ _
      omega
  have at_z : ∀ z ∈ zs, leadF n (notShort ks ++ zs) z.1 = z.2 := fun z hz => by
    have ge : z.2 ≤ leadF n (notShort ks ++ zs) z.1 := by
      have := (leadF_ok hne z.1 (n := n)).2 z (List.mem_append_right _ hz)
      unfold lowv at this
      rw [Int.sub_self, Int.zero_ediv, Int.zero_mul, Int.add_zero] at this
      exact this
    have le : leadF n (notShort ks ++ zs) z.1 ≤ z.2 := by
      obtain ⟨p, hp, e⟩ := (leadF_ok hne z.1 (n := n)).1
      rw [← e]
      rcases List.mem_append.mp hp with hp | hp
      · exact Int.le_trans ((leadF_ok hb.low z.1 (n := n)).2 p hp) (h.in_ z hz).1
      · have b1 := h.at_ p hp
        have b2 := h.at_ z hz
        rcases pair_cases h.up p hp z hz with rfl | ⟨q1, q2⟩ | ⟨q1, q2⟩
        · unfold lowv
          rw [Int.sub_self, Int.zero_ediv, Int.zero_mul, Int.add_zero]
          exact Int.le_refl _
        · have : (z.1 - p.1) / n = 0 := Int.ediv_eq_zero_of_lt (by omega) (by omega)
          unfold lowv
          rw [this, Int.zero_mul, Int.add_zero]
          exact q2
        · have : (z.1 - p.1) / n = -1 := by
            have h1 : (z.1 - p.1 + n) / n = 0 := Int.ediv_eq_zero_of_lt (by omega) (by omega)
            have h2 : (z.1 - p.1 + n) = (z.1 - p.1) + 1 * n := by omega
            rw [h2, Int.add_mul_ediv_right _ _ (by omega)] at h1
            omega
          have := h.turn p hp z hz
          unfold lowv
          rw [‹(z.1 - p.1) / n = -1›]
          omega
    omega
  refine ⟨_, hF, fun l hl => ⟨fun hs => ?_, fun hs => ?_⟩, at_z⟩
  · have := (leadF_ok hne l.2.1 (n := n)).2 l.2 (List.mem_append_left _ (List.mem_map.mpr ⟨l, List.mem_filter.mpr ⟨hl, hs⟩, rfl⟩))
    unfold lowv at this
    rw [Int.sub_self, Int.zero_ediv, Int.zero_mul, Int.add_zero] at this
    exact this
  · have a := le_up l.2.1
    have b := (upF_min (n := n) (x := l.2.1) hb.up).2 (highv n l.2.1 l.2) (List.mem_map.mpr ⟨l.2, List.mem_map.mpr ⟨l, List.mem_filter.mpr ⟨hl, hs⟩, rfl⟩, rfl⟩)
    have c : highv n l.2.1 l.2 = l.2.2 := by
      unfold highv
      rw [Int.sub_self, Int.zero_ediv, Int.zero_mul, Int.sub_zero]
    omega
/-- what the looks at such a row tell at its places -/
theorem Fit.told {n : Int} (hn : 0 < n) {ks : List Look} (hb : Both n ks) {zs : List (Int × Int)} (h : Fit n ks zs) : Both n (ks ++ zs.map atL) ∧ ∀ z ∈ zs, lowF n (ks ++ zs.map atL) z.1 = z.2 ∧ upF n (ks ++ zs.map atL) z.1 = z.2 := by
  obtain ⟨F, hF, hk, hz⟩ := h.hand hn hb
  have hok : ∀ l ∈ ks ++ zs.map atL, Ok F l := fun l hl => by
    rcases List.mem_append.mp hl with hl | hl
    · exact hk l hl
    · obtain ⟨z, hz', rfl⟩ := List.mem_map.mp hl
      have e : F (atL z).2.1 = (atL z).2.2 := hz z hz'
      exact ⟨fun _ => by rw [e]; exact Int.le_refl _, fun _ => by rw [e]; exact Int.le_refl _⟩
  have n1 : notShort (ks ++ zs.map atL) ≠ [] := fun e => by
    unfold notShort at e
    rw [List.filter_append, List.map_append] at e
    exact hb.low (List.append_eq_nil_iff.mp e).1
  have n2 : notBeyond (ks ++ zs.map atL) ≠ [] := fun e => by
    unfold notBeyond at e
    rw [List.filter_append, List.map_append] at e
    exact hb.up (List.append_eq_nil_iff.mp e).1
  refine ⟨⟨⟨F, hF, hok⟩, n1, n2⟩, fun z hz' => ?_⟩
  have mz : atL z ∈ ks ++ zs.map atL := List.mem_append_right _ (List.mem_map.mpr ⟨z, hz', rfl⟩)
  constructor
  · obtain ⟨m1, m2⟩ := lowF_max (n := n) (x := z.1) n1
    obtain ⟨p, hp, e⟩ := List.mem_map.mp m1
    obtain ⟨l, hl, rfl⟩ := List.mem_map.mp hp
    obtain ⟨h1, h2⟩ := List.mem_filter.mp hl
    have a := low_le hn hF (hok l h1) h2 (x := z.1)
    rw [e, hz z hz'] at a
    have b := m2 (lowv n z.1 (atL z).2) (List.mem_map.mpr ⟨_, List.mem_map.mpr ⟨_, List.mem_filter.mpr ⟨mz, ns_at z⟩, rfl⟩, rfl⟩)
    have c : lowv n z.1 (atL z).2 = z.2 := by
      show z.2 + (z.1 - z.1) / n * n = z.2
      rw [Int.sub_self, Int.zero_ediv, Int.zero_mul, Int.add_zero]
    omega
  · obtain ⟨m1, m2⟩ := upF_min (n := n) (x := z.1) n2
    obtain ⟨p, hp, e⟩ := List.mem_map.mp m1
    obtain ⟨l, hl, rfl⟩ := List.mem_map.mp hp
    obtain ⟨h1, h2⟩ := List.mem_filter.mp hl
    have a := le_high hn hF (hok l h1) h2 (x := z.1)
    rw [e, hz z hz'] at a
    have b := m2 (highv n z.1 (atL z).2) (List.mem_map.mpr ⟨_, List.mem_map.mpr ⟨_, List.mem_filter.mpr ⟨mz, nb_at z⟩, rfl⟩, rfl⟩)
    have c : highv n z.1 (atL z).2 = z.2 := by
      show z.2 - (z.1 - z.1) / n * n = z.2
      rw [Int.sub_self, Int.zero_ediv, Int.zero_mul, Int.sub_zero]
    omega
theorem zip_fs {α β : Type} : ∀ zs : List (α × β), (zs.map (·.1)).zip (zs.map (·.2)) = zs
  | [] => rfl
  | z :: zs => by
    show (z.1, z.2) :: ((zs.map (·.1)).zip (zs.map (·.2))) = z :: zs
    rw [zip_fs zs]
theorem zip_next {t : Int} : ∀ (xs : List Int) (x : Int), (x :: xs).Pairwise (· < ·) → (∀ y ∈ x :: xs, y ≤ t) → ∀ z ∈ (x :: xs).zip (xs ++ [t]), z.1 ≤ z.2 ∧ z.1 ∈ x :: xs ∧ (z.2 ∈ x :: xs ∨ z.2 = t)
  | [], x, _, ht, z, hz => by
    have e : z = (x, t) := by simpa using hz
    subst e
    exact ⟨ht x (by simp), by simp, .inr rfl⟩
  | y :: xs, x, h, ht, z, hz => by
    obtain ⟨h1, h2⟩ := List.pairwise_cons.mp h
    have hz : z = (x, y) ∨ z ∈ (y :: xs).zip (xs ++ [t]) := by simpa using hz
    rcases hz with rfl | hz
    · exact ⟨Int.le_of_lt (h1 y (by simp)), by simp, .inl (by simp)⟩
    · obtain ⟨a, b, c⟩ := zip_next xs y h2 (fun w hw => ht w (List.mem_cons_of_mem _ hw)) z hz
      exact ⟨a, List.mem_cons_of_mem _ b, c.imp (List.mem_cons_of_mem _) id⟩
theorem at_last9 {ys : List Int} {z : Int} : L2.atI ((ys ++ [z]).map D.int) (-1) = some (D.int z) := by
  have e : L2.ixN ((ys ++ [z]).map D.int).length (-1) = some ys.length := by
    unfold L2.ixN
    rw [List.length_map, List.length_append]
    simp only [List.length_cons, List.length_nil]
    rw [if_neg (by omega), if_pos (by omega)]
    congr 1
    omega
  unfold L2.atI
  rw [e]
  simp
theorem at_first {α : Type} {x : α} {xs : List α} : L2.atI (x :: xs) 0 = some x := by
  have e : L2.ixN (x :: xs).length 0 = some 0 := by
    unfold L2.ixN
    rw [if_pos (by omega), if_pos (by simp only [List.length_cons]; omega)]
    rfl
  unfold L2.atI
  rw [e]
  rfl
theorem eqv_concat (ys : List Int) (z : Int) : (D.lst ((ys ++ [z]).map D.int)).eqv (.lst []) = false := by
  cases ys with
  | nil => exact eqv_nil_cons _ _
  | cons y ys => exact eqv_nil_cons _ _
theorem alike_prs : ∀ ps : List (Int × Int), PySem.W.alikeAll (D.pys (ps.map prD)) (D.pys (ps.map prD)) = true
  | [] => rfl
  | p :: ps => by
    show (PySem.W.alike (prD p).py (prD p).py && PySem.W.alikeAll (D.pys (ps.map prD)) (D.pys (ps.map prD))) = true
    rw [alike_prs ps]
    rfl
theorem eqv_prs (ps : List (Int × Int)) : (D.lst (ps.map prD)).eqv (.lst (ps.map prD)) = true :=
  PySem.W.eqv_refl_alike (.list (D.pys (ps.map prD))) (alike_prs ps)
theorem eqv_prs2 {ss : List Int} {f g : Int → Int × Int} (h : ∀ s ∈ ss, f s = g s) : (D.lst (ss.map fun s => prD (f s))).eqv (.lst (ss.map fun s => prD (g s))) = true := by
  have e : ss.map (fun s => prD (f s)) = (ss.map f).map prD := by rw [List.map_map]; rfl
  have e2 : ss.map (fun s => prD (g s)) = (ss.map f).map prD := by
    rw [List.map_map]
    exact List.map_congr_left fun s hs => by rw [← h s hs]; rfl
  rw [e, e2]
  exact eqv_prs _
theorem eqv_two {a b t : Int} (h1 : a = t) (h2 : b = t) : (D.lst [.int a, .int b]).eqv (.lst [.int t, .int t]) = true := by
  subst h1 h2
  exact PySem.W.eqv_refl_alike _ rfl
theorem sure_at {xs ys : List Int} {o1 o2 : Option Int} {y : Int} (h1 : IsMax xs o1) (h2 : IsMin ys o2) (k1 : IsMax xs (some y)) (k2 : IsMin ys (some y)) : dueSure "at" o1 o2 y = true := by
  have e1 := IsMax.uniq (fun _ => Iff.rfl) h1 k1
  have e2 := IsMin.uniq (fun _ => Iff.rfl) h2 k2
  subst e1 e2
  show (decide (y ≤ y) && decide (y ≤ y)) = true
  simp
theorem heard_low {n x v : Int} (hn : 0 < n) {ks : List Look} (h : IsMax ((notShort ks).map (lowv n x)) (some v)) : IsMax ((notShort (hearAll n ks)).map (lowv n x)) (some v) :=
  ⟨(least_same hn (fun z => mem_hearAll) v).mpr h.1, fun y hy => h.2 y ((least_same hn (fun z => mem_hearAll) y).mp hy)⟩
theorem heard_up {n x v : Int} (hn : 0 < n) {ks : List Look} (h : IsMin ((notBeyond ks).map (highv n x)) (some v)) : IsMin ((notBeyond (hearAll n ks)).map (highv n x)) (some v) :=
  ⟨(greatest_same hn (fun z => mem_hearAll) v).mpr h.1, fun y hy => h.2 y ((greatest_same hn (fun z => mem_hearAll) y).mp hy)⟩
theorem fit_of {n : Int} (hn : 0 < n) {ks : List Look} (hb : Both n ks) {ss : List Int} (hss : ∀ s ∈ ss, 0 ≤ s ∧ s < n) (hup : ss.Pairwise (· < ·)) {q0 : Int} {qs : List Int} (hR : Row (ss.map fun s => (lowF n ks s, upF n ks s)) (q0 :: qs)) :
    Fit n ks (ss.zip ((q0 :: qs).map fun r => if q0 + n < r then q0 + n else r)) := by
  have hL := lowF_hand hn hb.low
  have hlen : (q0 :: qs).length = ss.length := by rw [hR.len, List.length_map]
  have q0_le : ∀ r ∈ q0 :: qs, q0 ≤ r := fun r hr => by
    rcases List.mem_cons.mp hr with rfl | hr
    · exact Int.le_refl _
    · exact (List.pairwise_cons.mp hR.up).1 r hr
  have idx : ∀ z ∈ ss.zip ((q0 :: qs).map fun r => if q0 + n < r then q0 + n else r), ∃ (i : Nat) (r : Int), ss[i]? = some z.1 ∧ (q0 :: qs)[i]? = some r ∧ z.2 = if q0 + n < r then q0 + n else r := fun z hz => by
    obtain ⟨i, hi⟩ := List.getElem?_of_mem hz
    rw [List.getElem?_zip_eq_some, List.getElem?_map] at hi
    cases e : (q0 :: qs)[i]? with
    | none => rw [e] at hi; cases hi.2
    | some r => rw [e] at hi; exact ⟨i, r, hi.1, e, (Option.some.inj hi.2).symm⟩
  have inn : ∀ (i : Nat) (s r : Int), ss[i]? = some s → (q0 :: qs)[i]? = some r → lowF n ks s ≤ r ∧ r ≤ upF n ks s := fun i s r h1 h2 => by
    have := hR.in_ i (lowF n ks s, upF n ks s) r (by rw [List.getElem?_map, h1]; rfl) h2
    exact this
  have h0 : ∃ s0, ss[0]? = some s0 := by
    have : 0 < ss.length := by rw [← hlen]; simp
    exact ⟨ss[0], List.getElem?_eq_getElem this⟩
  obtain ⟨s0, h0⟩ := h0
  have l0 := (inn 0 s0 q0 h0 rfl).1
  have b0 := hss s0 (List.mem_of_getElem? h0)
  have t0 := hL.turn s0 1
  rw [Int.one_mul] at t0
  refine ⟨fun z hz => ?_, fun z hz => ?_, ?_, fun a ha b hb' => ?_⟩
  · obtain ⟨i, r, h1, _, _⟩ := idx z hz
    exact hss _ (List.mem_of_getElem? h1)
  · obtain ⟨i, r, h1, h2, e⟩ := idx z hz
    obtain ⟨k1, k2⟩ := inn i z.1 r h1 h2
    have b1 := hss _ (List.mem_of_getElem? h1)
    have m := hL.mono z.1 (s0 + n) (by omega)
    rw [e]
    split <;> omega
  · rw [List.pairwise_iff_getElem]
    intro i j hi hj hij
    obtain ⟨i1, i2⟩ := List.getElem?_zip_eq_some.mp (List.getElem?_eq_getElem hi)
    obtain ⟨j1, j2⟩ := List.getElem?_zip_eq_some.mp (List.getElem?_eq_getElem hj)
    obtain ⟨a1, a2⟩ := List.getElem?_eq_some_iff.mp i1
    obtain ⟨c1, c2⟩ := List.getElem?_eq_some_iff.mp j1
    have p1 := List.pairwise_iff_getElem.mp hup i j a1 c1 hij
    rw [a2, c2] at p1
    refine ⟨p1, ?_⟩
    rw [List.getElem?_map] at i2 j2
    cases e1 : (q0 :: qs)[i]? with
    | none => rw [e1] at i2; cases i2
    | some r1 =>
      cases e2 : (q0 :: qs)[j]? with
      | none => rw [e2] at j2; cases j2
      | some r2 =>
        rw [e1] at i2
        rw [e2] at j2
        have f1 : (if q0 + n < r1 then q0 + n else r1) = _ := Option.some.inj i2
        have f2 : (if q0 + n < r2 then q0 + n else r2) = _ := Option.some.inj j2
        obtain ⟨d1, d2⟩ := List.getElem?_eq_some_iff.mp e1
        obtain ⟨g1, g2⟩ := List.getElem?_eq_some_iff.mp e2
        have p2 := List.pairwise_iff_getElem.mp hR.up i j d1 g1 hij
        rw [d2, g2] at p2
        rw [← f1, ← f2]
        (repeat' split) <;> omega
  · obtain ⟨i, r, h1, h2, e⟩ := idx a ha
    obtain ⟨j, r', k1, k2, e'⟩ := idx b hb'
    have m := q0_le r' (List.mem_of_getElem? k2)
    rw [e, e']
    (repeat' split) <;> omega
theorem zip_lists {ss rs : List Int} (h : rs.length = ss.length) : (ss.zip rs).map (·.1) = ss ∧ (ss.zip rs).map (·.2) = rs ∧ (ss.zip rs).length = ss.length := by
  refine ⟨List.map_fst_zip (by omega), List.map_snd_zip (by omega), by rw [List.length_zip]; omega⟩
end DK
namespace DK
open PySem PL
/-! all hands of a small dial, gone through as rows -/
def rowD (row : List Int) : D := .lst (row.map D.int)
/-- the first m places of a row -/
structure Part (n : Int) (m : Nat) (row : List Int) : Prop where
  len : row.length = m
  head : ∃ r0, row.head? = some r0 ∧ (-(4 * n) ≤ r0 ∧ r0 ≤ 4 * n) ∧ ∀ r ∈ row, r ≤ r0 + n
  up : row.Pairwise (· ≤ ·)
theorem part_one {n : Int} (hn : 0 < n) {row : List Int} : Part n 1 row ↔ ∃ r, row = [r] ∧ -(4 * n) ≤ r ∧ r ≤ 4 * n := by
  constructor
  · rintro ⟨h1, ⟨r0, h2, h3, _⟩, _⟩
    match row, h1 with
    | [r], _ =>
      have e : r = r0 := by simpa using h2
      subst e
      exact ⟨r, rfl, h3⟩
  · rintro ⟨r, rfl, h⟩
    exact ⟨rfl, ⟨r, rfl, h, fun z hz => by rw [List.mem_singleton.mp hz]; omega⟩, List.pairwise_singleton _ _⟩
theorem part_more {n : Int} {m : Nat} (hm : 0 < m) {row : List Int} : Part n (m + 1) row ↔ ∃ pre r0 z t, row = pre ++ [t] ∧ Part n m pre ∧ pre.head? = some r0 ∧ pre.getLast? = some z ∧ z ≤ t ∧ t ≤ r0 + n := by
  constructor
  · rintro ⟨h1, ⟨r0, h2, h3, h4⟩, h5⟩
    obtain ⟨pre, t, rfl⟩ : ∃ pre t, row = pre ++ [t] := by
      rcases List.eq_nil_or_concat row with e | ⟨pre, t, e⟩
      · rw [e] at h1; simp at h1
      · exact ⟨pre, t, by rw [e, List.concat_eq_append]⟩
    have hl : pre.length = m := by simpa using h1
    have hne : pre ≠ [] := fun e => by rw [e] at hl; simp at hl; omega
    obtain ⟨p, ps, rfl⟩ : ∃ p ps, pre = p :: ps := by
      cases pre with
      | nil => exact absurd rfl hne
      | cons p ps => exact ⟨p, ps, rfl⟩
    have e0 : p = r0 := by simpa using h2
    subst e0
    obtain ⟨z, hz⟩ : ∃ z, (p :: ps).getLast? = some z := ⟨_, List.getLast?_eq_some_getLast (by simp)⟩
    have hzm := List.mem_of_getLast? hz
    obtain ⟨q1, _, q2⟩ := List.pairwise_append.mp h5
    exact ⟨p :: ps, p, z, t, rfl, ⟨hl, ⟨p, rfl, h3, fun r hr => h4 r (List.mem_append_left _ hr)⟩, q1⟩, rfl, hz, q2 z hzm t (by simp), h4 t (by simp)⟩
  · rintro ⟨pre, r0, z, t, rfl, ⟨h1, ⟨r0', h2, h3, h4⟩, h5⟩, e0, hz, k1, k2⟩
    have e : r0' = r0 := Option.some.inj (h2.symm.trans e0)
    subst e
    refine ⟨by simp [h1], ⟨r0', ?_, h3, fun r hr => ?_⟩, ?_⟩
    · cases pre with
      | nil => cases h2
      | cons p ps => exact h2
    · rcases List.mem_append.mp hr with hr | hr
      · exact h4 r hr
      · rw [List.mem_singleton.mp hr]; exact k2
    · rw [List.pairwise_append]
      refine ⟨h5, List.pairwise_singleton _ _, fun a ha b hb => ?_⟩
      rw [List.mem_singleton.mp hb]
      obtain ⟨ys, rfl⟩ := List.getLast?_eq_some_iff.mp hz
      have := (List.pairwise_append.mp h5).2.2
      rcases List.mem_append.mp ha with ha | ha
      · exact Int.le_trans (this a ha z (by simp)) k1
      · rw [List.mem_singleton.mp ha]; exact k1
theorem floor_in' {x n : Int} (hn : 0 < n) : x - n < x / n * n ∧ x / n * n ≤ x := by
  have h1 := Int.emod_add_mul_ediv x n
  have h2 := Int.emod_nonneg x (b := n) (by omega)
  have h3 := Int.emod_lt_of_pos x hn
  rw [Int.mul_comm] at h1
  omega
/-- where a row leads -/
def rowF (n : Int) (row : List Int) (x : Int) : Int := row.getD (x % n).toNat 0 + (x - x % n)
theorem getD_at {row : List Int} {i : Nat} (h : i < row.length) : row.getD i 0 = row[i] := by
  rw [List.getD_eq_getElem?_getD, List.getElem?_eq_getElem h]; rfl
theorem row_hand {n : Int} (hn : 0 < n) {row : List Int} (h : Part n n.toNat row) : Hand n (rowF n row) := by
  obtain ⟨h1, ⟨r0, h2, h3, h4⟩, h5⟩ := h
  have hr : ∀ x : Int, (x % n).toNat < row.length := fun x => by
    have := Int.emod_nonneg x (b := n) (by omega)
    have := Int.emod_lt_of_pos x hn
    omega
  have h0 : 0 < row.length := by omega
  have e0 : row[0] = r0 := by
    rw [List.head?_eq_getElem?, List.getElem?_eq_getElem h0] at h2
    exact Option.some.inj h2
  have inc : ∀ i j (hi : i < row.length) (hj : j < row.length), i ≤ j → row[i] ≤ row[j] := fun i j hi hj hij => by
    rcases Nat.lt_or_ge i j with c | c
    · exact List.pairwise_iff_getElem.mp h5 i j hi hj c
    · have : i = j := by omega
      subst this
      exact Int.le_refl _
  refine ⟨fun x y hxy => ?_, fun x k => ?_⟩
  · unfold rowF
    rw [getD_at (hr x), getD_at (hr y)]
    have dx := Int.emod_add_mul_ediv x n
    have dy := Int.emod_add_mul_ediv y n
    have nx := Int.emod_nonneg x (b := n) (by omega)
    have ny := Int.emod_nonneg y (b := n) (by omega)
    have lx := Int.emod_lt_of_pos x hn
    have ly := Int.emod_lt_of_pos y hn
    have q : x / n ≤ y / n := Int.ediv_le_ediv hn hxy
    rcases Int.lt_or_eq_of_le q with c | c
    · have b1 := h4 row[(x % n).toNat] (List.getElem_mem (hr x))
      have b2 := inc 0 (y % n).toNat h0 (hr y) (Nat.zero_le _)
      rw [e0] at b2
      have c2 : (x / n + 1) * n ≤ y / n * n := Int.mul_le_mul_of_nonneg_right (by omega) (by omega)
      rw [Int.add_mul, Int.one_mul] at c2
      rw [Int.mul_comm] at dx dy
      omega
    · rw [← c] at dy
      have b := inc (x % n).toNat (y % n).toNat (hr x) (hr y) (by omega)
      omega
  · unfold rowF
    have e : (x + k * n) % n = x % n := by rw [Int.add_mul_emod_self_right]
    rw [e]
    omega
/-- a hand that leads 0 to no more than four turns on or back is a row -/
theorem hand_row {n : Int} (hn : 0 < n) {F : Int → Int} (hF : Hand n F) (h0 : -(4 * n) ≤ F 0 ∧ F 0 ≤ 4 * n) :
    Part n n.toNat ((List.range n.toNat).map fun (k : Nat) => F (k : Int)) ∧ ∀ x, rowF n ((List.range n.toNat).map fun (k : Nat) => F (k : Int)) x = F x := by
  have hnn : 0 < n.toNat := by omega
  constructor
  · refine ⟨by rw [List.length_map, List.length_range], ⟨F 0, ?_, h0, fun r hr => ?_⟩, ?_⟩
    · obtain ⟨m, em⟩ : ∃ m, n.toNat = m + 1 := ⟨n.toNat - 1, by omega⟩
      rw [em, List.range_succ_eq_map]
      rfl
    · obtain ⟨k, hk, rfl⟩ := List.mem_map.mp hr
      have hk := List.mem_range.mp hk
      have t := hF.turn 0 1
      rw [Int.one_mul, Int.zero_add] at t
      have := hF.mono (k : Int) n (by omega)
      omega
    · rw [List.pairwise_map]
      exact List.Pairwise.imp (R := fun (a b : Nat) => a < b) (fun {a b} (hab : a < b) => hF.mono (a : Int) (b : Int) (by omega)) List.pairwise_lt_range
  · intro x
    have nx := Int.emod_nonneg x (b := n) (by omega)
    have lx := Int.emod_lt_of_pos x hn
    unfold rowF
    rw [getD_at (by rw [List.length_map, List.length_range]; omega), List.getElem_map, List.getElem_range]
    have e : ((x % n).toNat : Int) = x % n := by omega
    rw [e]
    have t := hF.turn (x % n) (x / n)
    have dx := Int.emod_add_mul_ediv x n
    rw [Int.mul_comm] at dx
    rw [dx] at t
    omega
def isB (n : Int) (row : List Int) (l : Look) : Bool := if l.1 = "at" then decide (rowF n row l.2.1 = l.2.2) else if l.1 = "from" then decide (l.2.2 ≤ rowF n row l.2.1) else decide (rowF n row l.2.1 ≤ l.2.2)
def word3 (x : Str) : Prop := x = "at" ∨ x = "from" ∨ x = "upto"
theorem isB_ok {n : Int} {row : List Int} {l : Look} (hw : word3 l.1) : isB n row l = true ↔ Ok (rowF n row) l := by
  obtain ⟨w, x, y⟩ := l
  simp only at hw
  rcases hw with rfl | rfl | rfl
  · have e1 : nsP (("at" : Str), x, y) = true := by simp [nsP, eqv_str]; try decide
    have e2 : nbP (("at" : Str), x, y) = true := by simp [nbP, eqv_str]; try decide
    have e : isB n row ("at", x, y) = decide (rowF n row x = y) := rfl
    rw [e, decide_eq_true_eq]
    refine ⟨fun h => ⟨fun _ => ?_, fun _ => ?_⟩, fun h => ?_⟩
    · show y ≤ rowF n row x; omega
    · show rowF n row x ≤ y; omega
    · have a : y ≤ rowF n row x := h.ns e1
      have b : rowF n row x ≤ y := h.nb e2
      omega
  · have e1 : nsP (("from" : Str), x, y) = true := by simp [nsP, eqv_str]; try decide
    have e2 : nbP (("from" : Str), x, y) = false := by simp [nbP, eqv_str]; try decide
    have e : isB n row ("from", x, y) = decide (y ≤ rowF n row x) := rfl
    rw [e, decide_eq_true_eq]
    exact ⟨fun h => ⟨fun _ => h, fun z => (by rw [e2] at z; cases z)⟩, fun h => h.ns e1⟩
  · have e1 : nsP (("upto" : Str), x, y) = false := by simp [nsP, eqv_str]; try decide
    have e2 : nbP (("upto" : Str), x, y) = true := by simp [nbP, eqv_str]; try decide
    have e : isB n row ("upto", x, y) = decide (rowF n row x ≤ y) := rfl
    rw [e, decide_eq_true_eq]
    exact ⟨fun h => ⟨fun z => (by rw [e1] at z; cases z), fun _ => h⟩, fun h => h.nb e2⟩
/-- a drawn look of a small dial -/
structure AnyL (n : Int) (l : Look) : Prop where
  word : word3 l.1
  x : -n ≤ l.2.1 ∧ l.2.1 < 2 * n
  y : l.2.1 - 2 * n ≤ l.2.2 ∧ l.2.2 ≤ l.2.1 + 2 * n
/-- looks that go together -/
structure Tog (n : Int) (ks : List Look) : Prop where
  any : ∀ l ∈ ks, AnyL n l
  apart : ∀ a ∈ ks, ∀ b ∈ ks, aprt1 n a b = false
theorem aprt1_self {n : Int} (a : Look) : aprt1 n a a = false := by
  unfold aprt1
  have : ¬ (lowv n a.2.1 a.2 > a.2.2) := by
    unfold lowv
    rw [Int.sub_self, Int.zero_ediv, Int.zero_mul]
    omega
  rw [decide_eq_false this, Bool.and_false]
theorem Tog.nil {n : Int} : Tog n [] := ⟨fun l h => (by cases h), fun a h => (by cases h)⟩
theorem Tog.more {n : Int} {ks : List Look} (h : Tog n ks) {l : Look} (hl : AnyL n l) (ha : ∀ z ∈ ks, DK.apart n l z = false) : Tog n (ks ++ [l]) := by
  have sp : ∀ z ∈ ks, aprt1 n l z = false ∧ aprt1 n z l = false := fun z hz => by
    have := ha z hz
    unfold DK.apart at this
    exact Bool.or_eq_false_iff.mp this
  refine ⟨fun z hz => ?_, fun a ha' b hb => ?_⟩
  · rcases List.mem_append.mp hz with hz | hz
    · exact h.any z hz
    · rw [List.mem_singleton.mp hz]; exact hl
  · rcases List.mem_append.mp ha' with h1 | h1 <;> rcases List.mem_append.mp hb with h2 | h2
    · exact h.apart a h1 b h2
    · rw [List.mem_singleton.mp h2]; exact (sp a h1).2
    · rw [List.mem_singleton.mp h1]; exact (sp b h2).1
    · rw [List.mem_singleton.mp h1, List.mem_singleton.mp h2]; exact aprt1_self l
theorem mem_ns {ks : List Look} {l : Look} (h : l ∈ ks) (hs : nsP l = true) : l.2 ∈ notShort ks := List.mem_map.mpr ⟨l, List.mem_filter.mpr ⟨h, hs⟩, rfl⟩
theorem mem_nb {ks : List Look} {l : Look} (h : l ∈ ks) (hs : nbP l = true) : l.2 ∈ notBeyond ks := List.mem_map.mpr ⟨l, List.mem_filter.mpr ⟨h, hs⟩, rfl⟩
theorem of_ns {ks : List Look} {p : Int × Int} (h : p ∈ notShort ks) : ∃ l ∈ ks, nsP l = true ∧ l.2 = p := by
  obtain ⟨l, hl, rfl⟩ := List.mem_map.mp h
  exact ⟨l, (List.mem_filter.mp hl).1, (List.mem_filter.mp hl).2, rfl⟩
theorem of_nb {ks : List Look} {p : Int × Int} (h : p ∈ notBeyond ks) : ∃ l ∈ ks, nbP l = true ∧ l.2 = p := by
  obtain ⟨l, hl, rfl⟩ := List.mem_map.mp h
  exact ⟨l, (List.mem_filter.mp hl).1, (List.mem_filter.mp hl).2, rfl⟩
/-- a hand within the rows that is as all looks -/
structure FitH (n : Int) (ks : List Look) (F : Int → Int) : Prop where
  hand : Hand n F
  ok : ∀ l ∈ ks, Ok F l
  zero : -(4 * n) ≤ F 0 ∧ F 0 ≤ 4 * n
theorem Tog.low {n : Int} (hn : 0 < n) {ks : List Look} (h : Tog n ks) (hs : notShort ks ≠ []) : FitH n ks (lowF n ks) := by
  refine ⟨lowF_hand hn hs, fun l hl => ⟨fun e => ?_, fun e => ?_⟩, ?_⟩
  · have := (leadF_ok hs l.2.1 (n := n)).2 l.2 (mem_ns hl e)
    unfold lowv at this
    rw [Int.sub_self, Int.zero_ediv, Int.zero_mul, Int.add_zero] at this
    exact this
  · obtain ⟨p, hp, e2⟩ := (leadF_ok hs l.2.1 (n := n)).1
    obtain ⟨z, hz, hzs, rfl⟩ := of_ns hp
    have := h.apart z hz l hl
    unfold aprt1 at this
    rw [hzs, e] at this
    have := of_decide_eq_false (by simpa using this : decide (lowv n l.2.1 z.2 > l.2.2) = false)
    show leadF n (notShort ks) l.2.1 ≤ l.2.2
    omega
  · obtain ⟨p, hp, e2⟩ := (leadF_ok hs 0 (n := n)).1
    obtain ⟨z, hz, hzs, rfl⟩ := of_ns hp
    have := (h.any z hz).y
    have b := floor_in' (x := 0 - z.2.1) hn
    have e3 : lowF n ks 0 = z.2.2 + (0 - z.2.1) / n * n := e2.symm
    omega
theorem Tog.up {n : Int} (hn : 0 < n) {ks : List Look} (h : Tog n ks) (hs : notBeyond ks ≠ []) : FitH n ks (upF n ks) := by
  refine ⟨upF_hand hn hs, fun l hl => ⟨fun e => ?_, fun e => ?_⟩, ?_⟩
  · obtain ⟨p, hp, e2⟩ := List.mem_map.mp (upF_min (n := n) (x := l.2.1) hs).1
    obtain ⟨z, hz, hzs, rfl⟩ := of_nb hp
    have := h.apart l hl z hz
    unfold aprt1 at this
    rw [hzs, e] at this
    have := of_decide_eq_false (by simpa using this : decide (lowv n z.2.1 l.2 > z.2.2) = false)
    have e3 : lowv n z.2.1 l.2 = l.2.2 + (z.2.1 - l.2.1) / n * n := rfl
    have e4 : highv n l.2.1 z.2 = z.2.2 - (z.2.1 - l.2.1) / n * n := rfl
    omega
  · have := (upF_min (n := n) (x := l.2.1) hs).2 (highv n l.2.1 l.2) (List.mem_map.mpr ⟨l.2, mem_nb hl e, rfl⟩)
    have e4 : highv n l.2.1 l.2 = l.2.2 := by
      unfold highv
      rw [Int.sub_self, Int.zero_ediv, Int.zero_mul, Int.sub_zero]
    omega
  · obtain ⟨p, hp, e2⟩ := List.mem_map.mp (upF_min (n := n) (x := 0) hs).1
    obtain ⟨z, hz, hzs, rfl⟩ := of_nb hp
    have := (h.any z hz).y
    have b := floor_in' (x := z.2.1 - 0) hn
    have e3 : highv n 0 z.2 = z.2.2 - (z.2.1 - 0) / n * n := rfl
    omega
/-- all places to one turn's beginning, v turns off -/
def flat (n v x : Int) : Int := v + (x - x % n)
theorem flat_hand {n v : Int} (hn : 0 < n) : Hand n (flat n v) := by
  refine ⟨fun x y hxy => ?_, fun x k => ?_⟩
  · have dx := Int.emod_add_mul_ediv x n
    have dy := Int.emod_add_mul_ediv y n
    have q : x / n ≤ y / n := Int.ediv_le_ediv hn hxy
    have q2 : n * (x / n) ≤ n * (y / n) := Int.mul_le_mul_of_nonneg_left q (by omega)
    unfold flat
    omega
  · unfold flat
    rw [Int.add_mul_emod_self_right]
    omega
theorem Tog.flatLow {n : Int} (hn : 0 < n) {ks : List Look} (h : Tog n ks) (hs : notShort ks = []) : FitH n ks (flat n (-(4 * n))) := by
  refine ⟨flat_hand hn, fun l hl => ⟨fun e => ?_, fun _ => ?_⟩, ?_⟩
  · have := mem_ns hl e
    rw [hs] at this
    cases this
  · have a := (h.any l hl).y
    have nx := Int.emod_nonneg l.2.1 (b := n) (by omega)
    show -(4 * n) + (l.2.1 - l.2.1 % n) ≤ l.2.2
    omega
  · unfold flat
    rw [Int.zero_emod]
    omega
theorem Tog.flatUp {n : Int} (hn : 0 < n) {ks : List Look} (h : Tog n ks) (hs : notBeyond ks = []) : FitH n ks (flat n (4 * n)) := by
  refine ⟨flat_hand hn, fun l hl => ⟨fun _ => ?_, fun e => ?_⟩, ?_⟩
  · have a := (h.any l hl).y
    have lx := Int.emod_lt_of_pos l.2.1 hn
    show l.2.2 ≤ 4 * n + (l.2.1 - l.2.1 % n)
    omega
  · have := mem_nb hl e
    rw [hs] at this
    cases this
  · unfold flat
    rw [Int.zero_emod]
    omega
theorem Tog.some_hand {n : Int} (hn : 0 < n) {ks : List Look} (h : Tog n ks) : ∃ F, FitH n ks F := by
  by_cases c : notShort ks = []
  · exact ⟨_, h.flatLow hn c⟩
  · exact ⟨_, h.low hn c⟩
theorem at_of_last {r : List Int} {z : Int} (h : r.getLast? = some z) : L2.atI (r.map D.int) (-1) = some (D.int z) := by
  obtain ⟨ys, rfl⟩ := List.getLast?_eq_some_iff.mp h
  exact at_last9
theorem at_of_head {r : List Int} {z : Int} (h : r.head? = some z) : L2.atI (r.map D.int) 0 = some (D.int z) := by
  cases r with
  | nil => cases h
  | cons x r => cases h; exact at_first
/-! the rows that fit -/
def fitB (n : Int) (ks : List Look) (row : List Int) : Bool := (D.lst ((ks.filter fun l => !isB n row l).map lkD)).eqv (.lst [])
theorem eqv_nil_map (xs : List Look) : (D.lst (xs.map lkD)).eqv (.lst []) = true ↔ xs = [] := by
  cases xs with
  | nil => exact ⟨fun _ => rfl, fun _ => eqv_nil_nil⟩
  | cons x xs =>
    have e : (D.lst ((x :: xs).map lkD)).eqv (.lst []) = false := eqv_nil_cons _ _
    rw [e]
    exact ⟨fun z => (by cases z), fun z => (by cases z)⟩
theorem fitB_iff {n : Int} {ks : List Look} {row : List Int} (hk : ∀ l ∈ ks, word3 l.1) : fitB n ks row = true ↔ ∀ l ∈ ks, Ok (rowF n row) l := by
  unfold fitB
  rw [eqv_nil_map, List.filter_eq_nil_iff]
  constructor
  · intro h l hl
    have := h l hl
    exact (isB_ok (hk l hl)).mp (by simpa using this)
  · intro h l hl
    have := (isB_ok (hk l hl)).mpr (h l hl)
    simp [this]
section
variable {n : Int} {ks : List Look} {rows : List (List Int)}
theorem fit_row (hn : 0 < n) (hr : ∀ row, row ∈ rows ↔ Part n n.toNat row) (ht : Tog n ks) {row : List Int} (h : row ∈ rows.filter (fitB n ks)) : Hand n (rowF n row) ∧ (∀ l ∈ ks, Ok (rowF n row) l) ∧ row.length = n.toNat := by
  obtain ⟨h1, h2⟩ := List.mem_filter.mp h
  have p := (hr row).mp h1
  exact ⟨row_hand hn p, (fitB_iff fun l hl => (ht.any l hl).word).mp h2, p.len⟩
theorem fit_mk (hn : 0 < n) (hr : ∀ row, row ∈ rows ↔ Part n n.toNat row) (ht : Tog n ks) {F : Int → Int} (h : FitH n ks F) : ∃ row ∈ rows.filter (fitB n ks), rowF n row = F := by
  obtain ⟨p, e⟩ := hand_row hn h.hand h.zero
  have e := funext e
  refine ⟨_, List.mem_filter.mpr ⟨(hr _).mpr p, ?_⟩, e⟩
  rw [fitB_iff fun l hl => (ht.any l hl).word, e]
  exact h.ok
theorem fits_ne (hn : 0 < n) (hr : ∀ row, row ∈ rows ↔ Part n n.toNat row) (ht : Tog n ks) : rows.filter (fitB n ks) ≠ [] := by
  obtain ⟨F, hF⟩ := ht.some_hand hn
  obtain ⟨row, hm, _⟩ := fit_mk hn hr ht hF
  exact List.ne_nil_of_mem hm
theorem rowF_at (hn : 0 < n) {row : List Int} {x : Int} (hx : 0 ≤ x ∧ x < n) : rowF n row x = row.getD x.toNat 0 := by
  unfold rowF
  rw [Int.emod_eq_of_lt hx.1 hx.2]
  omega
theorem fits_min (hn : 0 < n) (hr : ∀ row, row ∈ rows ↔ Part n n.toNat row) (ht : Tog n ks) (hs : notShort ks ≠ []) {x : Int} (hx : 0 ≤ x ∧ x < n) :
    IsMin ((rows.filter (fitB n ks)).map fun row => row.getD x.toNat 0) (some (lowF n ks x)) := by
  obtain ⟨row, hm, e⟩ := fit_mk hn hr ht (ht.low hn hs)
  refine ⟨List.mem_map.mpr ⟨row, hm, by rw [← rowF_at hn hx, e]⟩, fun y hy => ?_⟩
  obtain ⟨r, hr', rfl⟩ := List.mem_map.mp hy
  obtain ⟨h1, h2, _⟩ := fit_row hn hr ht hr'
  rw [← rowF_at hn hx]
  obtain ⟨p, hp, e2⟩ := (leadF_ok hs x (n := n)).1
  obtain ⟨z, hz, hzs, rfl⟩ := of_ns hp
  have := low_le hn h1 (h2 z hz) hzs (x := x)
  have e3 : lowF n ks x = lowv n x z.2 := e2.symm
  omega
theorem fits_max (hn : 0 < n) (hr : ∀ row, row ∈ rows ↔ Part n n.toNat row) (ht : Tog n ks) (hs : notBeyond ks ≠ []) {x : Int} (hx : 0 ≤ x ∧ x < n) :
    IsMax ((rows.filter (fitB n ks)).map fun row => row.getD x.toNat 0) (some (upF n ks x)) := by
  obtain ⟨row, hm, e⟩ := fit_mk hn hr ht (ht.up hn hs)
  refine ⟨List.mem_map.mpr ⟨row, hm, by rw [← rowF_at hn hx, e]⟩, fun y hy => ?_⟩
  obtain ⟨r, hr', rfl⟩ := List.mem_map.mp hy
  obtain ⟨h1, h2, _⟩ := fit_row hn hr ht hr'
  rw [← rowF_at hn hx]
  obtain ⟨p, hp, e2⟩ := List.mem_map.mp (upF_min (n := n) (x := x) hs).1
  obtain ⟨z, hz, hzs, rfl⟩ := of_nb hp
  have := le_high hn h1 (h2 z hz) hzs (x := x)
  omega
theorem fits_may (hn : 0 < n) (hr : ∀ row, row ∈ rows ↔ Part n n.toNat row) (ht : Tog n ks) {l : Look} (hl : AnyL n l) :
    ((rows.filter (fitB n ks)).any fun row => isB n row l) = mayB n (hearAll n ks) l := by
  rw [Bool.eq_iff_iff, List.any_eq_true, mayB_eq hn]
  simp only [Bool.not_eq_true', List.any_eq_false]
  constructor
  · rintro ⟨row, hm, hb⟩ z hz
    obtain ⟨h1, h2, _⟩ := fit_row hn hr ht hm
    rw [Ok.apart hn h1 ((isB_ok hl.word).mp hb) (h2 z hz)]
    exact Bool.false_ne_true
  · intro h
    have ht2 := ht.more hl fun z hz => by simpa using h z hz
    obtain ⟨F, hF⟩ := ht2.some_hand hn
    obtain ⟨row, hm, e⟩ := fit_mk hn hr ht (F := F) ⟨hF.hand, fun z hz => hF.ok z (List.mem_append_left _ hz), hF.zero⟩
    refine ⟨row, hm, (isB_ok hl.word).mpr ?_⟩
    rw [e]
    exact hF.ok l (List.mem_append_right _ (by simp))
theorem fits_sure (hn : 0 < n) (hr : ∀ row, row ∈ rows ↔ Part n n.toNat row) (ht : Tog n ks) {l : Look} (hl : AnyL n l) {o1 o2 : Option Int}
    (h1 : IsMax ((notShort ks).map (lowv n l.2.1)) o1) (h2 : IsMin ((notBeyond ks).map (highv n l.2.1)) o2) :
    ((rows.filter (fitB n ks)).all fun row => isB n row l) = dueSure l.1 o1 o2 l.2.2 := by
  -- from below, from above
  have lo : (∀ row ∈ rows.filter (fitB n ks), l.2.2 ≤ rowF n row l.2.1) ↔ sUnder o1 l.2.2 = true := by
    by_cases c : notShort ks = []
    · have e : o1 = none := by
        cases o1 with
        | none => rfl
        | some v => have := h1.1; rw [c] at this; cases this
      subst e
      constructor
      · intro h
        obtain ⟨row, hm, e⟩ := fit_mk hn hr ht (ht.flatLow hn c)
        have := h row hm
        rw [e] at this
        have nx := Int.emod_nonneg l.2.1 (b := n) (by omega)
        have a := hl.y
        unfold flat at this
        omega
      · intro h; cases h
    · have e : o1 = some (lowF n ks l.2.1) := IsMax.uniq (fun _ => Iff.rfl) h1 (lowF_max c)
      subst e
      show _ ↔ decide (l.2.2 ≤ lowF n ks l.2.1) = true
      rw [decide_eq_true_eq]
      constructor
      · intro h
        obtain ⟨row, hm, e⟩ := fit_mk hn hr ht (ht.low hn c)
        have := h row hm
        rw [e] at this
        exact this
      · intro h row hm
        obtain ⟨k1, k2, _⟩ := fit_row hn hr ht hm
        obtain ⟨p, hp, e2⟩ := (leadF_ok c l.2.1 (n := n)).1
        obtain ⟨z, hz, hzs, rfl⟩ := of_ns hp
        have := low_le hn k1 (k2 z hz) hzs (x := l.2.1)
        have e3 : lowF n ks l.2.1 = lowv n l.2.1 z.2 := e2.symm
        omega
  have hi : (∀ row ∈ rows.filter (fitB n ks), rowF n row l.2.1 ≤ l.2.2) ↔ sAbove o2 l.2.2 = true := by
    by_cases c : notBeyond ks = []
    · have e : o2 = none := by
        cases o2 with
        | none => rfl
        | some v => have := h2.1; rw [c] at this; cases this
      subst e
      constructor
      · intro h
        obtain ⟨row, hm, e⟩ := fit_mk hn hr ht (ht.flatUp hn c)
        have := h row hm
        rw [e] at this
        have lx := Int.emod_lt_of_pos l.2.1 hn
        have a := hl.y
        unfold flat at this
        omega
      · intro h; cases h
    · have e : o2 = some (upF n ks l.2.1) := IsMin.uniq (fun _ => Iff.rfl) h2 (upF_min c)
      subst e
      show _ ↔ decide (upF n ks l.2.1 ≤ l.2.2) = true
      rw [decide_eq_true_eq]
      constructor
      · intro h
        obtain ⟨row, hm, e⟩ := fit_mk hn hr ht (ht.up hn c)
        have := h row hm
        rw [e] at this
        exact this
      · intro h row hm
        obtain ⟨k1, k2, _⟩ := fit_row hn hr ht hm
        obtain ⟨p, hp, e2⟩ := List.mem_map.mp (upF_min (n := n) (x := l.2.1) c).1
        obtain ⟨z, hz, hzs, rfl⟩ := of_nb hp
        have := le_high hn k1 (k2 z hz) hzs (x := l.2.1)
        omega
  rw [Bool.eq_iff_iff, List.all_eq_true]
  obtain ⟨w, x, y⟩ := l
  have hw := hl.word
  simp only at hw lo hi ⊢
  rcases hw with rfl | rfl | rfl
  · have e : ∀ row, isB n row ("at", x, y) = decide (rowF n row x = y) := fun row => rfl
    have e2 : dueSure "at" o1 o2 y = (sUnder o1 y && sAbove o2 y) := rfl
    rw [e2, Bool.and_eq_true, ← lo, ← hi]
    simp only [e, decide_eq_true_eq]
    exact ⟨fun h => ⟨fun row hm => by rw [h row hm]; exact Int.le_refl _, fun row hm => by rw [h row hm]; exact Int.le_refl _⟩, fun h row hm => by have := h.1 row hm; have := h.2 row hm; omega⟩
  · have e : ∀ row, isB n row ("from", x, y) = decide (y ≤ rowF n row x) := fun row => rfl
    have e2 : dueSure "from" o1 o2 y = sUnder o1 y := rfl
    rw [e2, ← lo]
    simp only [e, decide_eq_true_eq]
  · have e : ∀ row, isB n row ("upto", x, y) = decide (rowF n row x ≤ y) := fun row => rfl
    have e2 : dueSure "upto" o1 o2 y = sAbove o2 y := rfl
    rw [e2, ← hi]
    simp only [e, decide_eq_true_eq]
end
theorem eqv_blT (a : Bool) : (D.bl a).eqv (.bl true) = a := by cases a <;> rfl
theorem eqv_blF (a : Bool) : (D.bl a).eqv (.bl false) = !a := by cases a <;> rfl
theorem any_T {α : Type} (xs : List α) (p : α → Bool) : ((xs.map fun x => D.bl (p x)).any fun z => z.eqv (.bl true)) = xs.any p := by
  rw [List.any_map]
  congr 1
  funext x
  exact eqv_blT _
theorem nany_F {α : Type} (xs : List α) (p : α → Bool) : (!(xs.map fun x => D.bl (p x)).any fun z => z.eqv (.bl false)) = xs.all p := by
  rw [List.any_map, List.not_any_eq_all_not]
  congr 1
  funext x
  show (!(D.bl (p x)).eqv (.bl false)) = p x
  rw [eqv_blF, Bool.not_not]
end DK
namespace DK
open PySem PL
/-! hands led back -/
theorem least_ex {n : Int} (hn : 0 < n) {F : Int → Int} (hF : Hand n F) (y : Int) : ∃ x, y ≤ F x ∧ ∀ z, y ≤ F z → x ≤ z := by
  have go : ∀ (d : Nat) (a : Int), F a < y → y ≤ F (a + d) → ∃ x, y ≤ F x ∧ ∀ z, y ≤ F z → x ≤ z := by
    intro d
    induction d with
    | zero =>
      intro a h1 h2
      rw [show a + ((0 : Nat) : Int) = a by omega] at h2
      omega
    | succ d ih =>
      intro a h1 h2
      by_cases c : y ≤ F (a + d)
      · exact ih a h1 c
      · refine ⟨a + ((d + 1 : Nat) : Int), h2, fun z hz => ?_⟩
        rcases Int.lt_or_le z (a + ((d + 1 : Nat) : Int)) with c2 | c2
        · have := hF.mono z (a + d) (by omega)
          omega
        · exact c2
  have t1 := hF.turn 0 ((y - F 0) / n + 1)
  have t2 := hF.turn 0 ((y - F 0) / n - 1)
  have b := floor_in' (x := y - F 0) hn
  rw [Int.zero_add] at t1 t2
  have e1 : ((y - F 0) / n + 1) * n = (y - F 0) / n * n + n := by rw [Int.add_mul, Int.one_mul]
  have e2 : ((y - F 0) / n - 1) * n = (y - F 0) / n * n - n := by rw [Int.sub_mul, Int.one_mul]
  rw [e1] at t1
  rw [e2] at t2
  refine go (n + n).toNat ((y - F 0) / n * n - n) (by omega) ?_
  have e3 : (y - F 0) / n * n - n + ((n + n).toNat : Int) = (y - F 0) / n * n + n := by omega
  rw [e3]
  omega
/-- the least place that is led to y or farther -/
noncomputable def backF (n : Int) (F : Int → Int) (y : Int) : Int := Classical.epsilon fun x => y ≤ F x ∧ ∀ z, y ≤ F z → x ≤ z
theorem backF_is {n : Int} (hn : 0 < n) {F : Int → Int} (hF : Hand n F) (y : Int) : y ≤ F (backF n F y) ∧ ∀ z, y ≤ F z → backF n F y ≤ z := by
  exact Classical.epsilon_spec (p := fun x => y ≤ F x ∧ ∀ z, y ≤ F z → x ≤ z) (least_ex hn hF y)
theorem back_iff {n : Int} (hn : 0 < n) {F : Int → Int} (hF : Hand n F) {x y : Int} : backF n F y ≤ x ↔ y ≤ F x := by
  obtain ⟨h1, h2⟩ := backF_is hn hF y
  exact ⟨fun h => Int.le_trans h1 (hF.mono _ _ h), h2 x⟩
theorem back_hand {n : Int} (hn : 0 < n) {F : Int → Int} (hF : Hand n F) : Hand n (backF n F) := by
  refine ⟨fun y z hyz => ?_, fun y k => ?_⟩
  · rw [back_iff hn hF]
    have := (backF_is hn hF z).1
    omega
  · have a : backF n F (y + k * n) ≤ backF n F y + k * n := by
      rw [back_iff hn hF, hF.turn]
      have := (backF_is hn hF y).1
      omega
    have b : backF n F y ≤ backF n F (y + k * n) - k * n := by
      rw [back_iff hn hF, show backF n F (y + k * n) - k * n = backF n F (y + k * n) + (-k) * n by rw [Int.neg_mul]; omega, hF.turn]
      have := (backF_is hn hF (y + k * n)).1
      rw [Int.neg_mul]
      omega
    omega
/-- a look led back -/
def backL (l : Look) : List Look := (if nsP l then [(("upto" : Str), l.2.2, l.2.1)] else []) ++ (if nbP l then [(("from" : Str), l.2.2 + 1, l.2.1 + 1)] else [])
def bks (L : List Look) : List Look := L.flatMap backL
theorem upto_ns (p : Int × Int) : nsP (("upto" : Str), p) = false := by simp [nsP, eqv_str]; try decide
theorem upto_nb (p : Int × Int) : nbP (("upto" : Str), p) = true := by simp [nbP, eqv_str]; try decide
theorem from_ns (p : Int × Int) : nsP (("from" : Str), p) = true := by simp [nsP, eqv_str]; try decide
theorem from_nb (p : Int × Int) : nbP (("from" : Str), p) = false := by simp [nbP, eqv_str]; try decide
theorem mem_backL {l z : Look} : z ∈ backL l ↔ (nsP l = true ∧ z = (("upto" : Str), l.2.2, l.2.1)) ∨ (nbP l = true ∧ z = (("from" : Str), l.2.2 + 1, l.2.1 + 1)) := by
  unfold backL
  rw [List.mem_append]
  cases nsP l <;> cases nbP l <;> simp
theorem back_ok {n : Int} (hn : 0 < n) {F : Int → Int} (hF : Hand n F) {l : Look} : Ok F l ↔ ∀ z ∈ backL l, Ok (backF n F) z := by
  constructor
  · intro h z hz
    rcases mem_backL.mp hz with ⟨a, rfl⟩ | ⟨a, rfl⟩
    · refine ⟨fun e => (by rw [upto_ns] at e; cases e), fun _ => ?_⟩
      exact (back_iff hn hF).mpr (h.ns a)
    · refine ⟨fun _ => ?_, fun e => (by rw [from_nb] at e; cases e)⟩
      show l.2.1 + 1 ≤ backF n F (l.2.2 + 1)
      have := h.nb a
      have k := (back_iff hn hF (x := l.2.1) (y := l.2.2 + 1))
      rcases Int.lt_or_le l.2.1 (backF n F (l.2.2 + 1)) with c | c
      · omega
      · have := k.mp c; omega
  · intro h
    refine ⟨fun a => ?_, fun a => ?_⟩
    · have := (h _ (mem_backL.mpr (.inl ⟨a, rfl⟩))).nb (upto_nb _)
      exact (back_iff hn hF).mp this
    · have := (h _ (mem_backL.mpr (.inr ⟨a, rfl⟩))).ns (from_ns _)
      have this : l.2.1 + 1 ≤ backF n F (l.2.2 + 1) := this
      rcases Int.lt_or_le l.2.2 (F l.2.1) with c | c
      · have := (back_iff hn hF (x := l.2.1) (y := l.2.2 + 1)).mpr (by omega)
        omega
      · exact c
theorem ok_home {n : Int} {F : Int → Int} (hF : Hand n F) {l : Look} : Ok F (home n l) ↔ Ok F l := by
  refine ⟨fun h => ?_, fun h => h.home hF⟩
  have e : F (l.2.1 - l.2.1 / n * n) = F l.2.1 - l.2.1 / n * n := by
    have := hF.turn l.2.1 (-(l.2.1 / n))
    rw [Int.neg_mul, ← Int.sub_eq_add_neg, ← Int.sub_eq_add_neg] at this
    exact this
  refine ⟨fun a => ?_, fun a => ?_⟩
  · have := h.ns a
    have this : l.2.2 - l.2.1 / n * n ≤ F (l.2.1 - l.2.1 / n * n) := this
    rw [e] at this
    omega
  · have := h.nb a
    have this : F (l.2.1 - l.2.1 / n * n) ≤ l.2.2 - l.2.1 / n * n := this
    rw [e] at this
    omega
theorem ok_heard {n : Int} {F : Int → Int} (hF : Hand n F) {ks : List Look} : (∀ l ∈ hearAll n ks, Ok F l) ↔ ∀ l ∈ ks, Ok F l := by
  constructor
  · intro h l hl
    exact (ok_home hF).mp (h _ (mem_hearAll.mpr ⟨l, hl, rfl⟩))
  · intro h z hz
    obtain ⟨l, hl, rfl⟩ := mem_hearAll.mp hz
    exact (ok_home hF).mpr (h l hl)
theorem ok_bks {n : Int} (hn : 0 < n) {F : Int → Int} (hF : Hand n F) {L : List Look} : (∀ l ∈ L, Ok F l) ↔ ∀ z ∈ bks L, Ok (backF n F) z := by
  unfold bks
  constructor
  · intro h z hz
    obtain ⟨l, hl, hz⟩ := List.mem_flatMap.mp hz
    exact (back_ok hn hF).mp (h l hl) z hz
  · intro h l hl
    exact (back_ok hn hF).mpr fun z hz => h z (List.mem_flatMap.mpr ⟨l, hl, hz⟩)
/-- the looks led back that a Dark tells -/
def back2 (n : Int) (ks : List Look) : List Look := bks (hearAll n ks)
theorem ok_back2 {n : Int} (hn : 0 < n) {F : Int → Int} (hF : Hand n F) {ks : List Look} : (∀ l ∈ ks, Ok F l) ↔ ∀ z ∈ hearAll n (back2 n ks), Ok (backF n F) z := by
  rw [ok_heard (back_hand hn hF)]
  unfold back2
  rw [← ok_bks hn hF, ok_heard hF]
theorem ns_back2 {n : Int} {ks : List Look} : notShort (back2 n ks) = [] ↔ notBeyond ks = [] := by
  unfold notShort notBeyond
  rw [List.map_eq_nil_iff, List.map_eq_nil_iff, List.filter_eq_nil_iff, List.filter_eq_nil_iff]
  constructor
  · intro h l hl e
    have m : home n l ∈ hearAll n ks := mem_hearAll.mpr ⟨l, hl, rfl⟩
    have := h _ (List.mem_flatMap.mpr ⟨_, m, mem_backL.mpr (.inr ⟨by show nbP l = true; exact e, rfl⟩)⟩)
    exact this (from_ns _)
  · intro h z hz e
    obtain ⟨l, hl, hz⟩ := List.mem_flatMap.mp hz
    obtain ⟨k, hk, rfl⟩ := mem_hearAll.mp hl
    rcases mem_backL.mp hz with ⟨a, rfl⟩ | ⟨a, rfl⟩
    · rw [upto_ns] at e; cases e
    · exact h k hk a
theorem nb_back2 {n : Int} {ks : List Look} : notBeyond (back2 n ks) = [] ↔ notShort ks = [] := by
  unfold notShort notBeyond
  rw [List.map_eq_nil_iff, List.map_eq_nil_iff, List.filter_eq_nil_iff, List.filter_eq_nil_iff]
  constructor
  · intro h l hl e
    have m : home n l ∈ hearAll n ks := mem_hearAll.mpr ⟨l, hl, rfl⟩
    have := h _ (List.mem_flatMap.mpr ⟨_, m, mem_backL.mpr (.inl ⟨by show nsP l = true; exact e, rfl⟩)⟩)
    exact this (upto_nb _)
  · intro h z hz e
    obtain ⟨l, hl, hz⟩ := List.mem_flatMap.mp hz
    obtain ⟨k, hk, rfl⟩ := mem_hearAll.mp hl
    rcases mem_backL.mp hz with ⟨a, rfl⟩ | ⟨a, rfl⟩
    · exact h k hk a
    · rw [from_nb] at e; cases e
/-- the greatest hand led back leads just the least of the looks led back -/
theorem back_up {n : Int} (hn : 0 < n) {ks : List Look} (hs : notBeyond ks ≠ []) {g : Int} (hok : ∀ l ∈ ks, Ok (upF n ks) l) : backF n (upF n ks) g = lowF n (back2 n ks) g := by
  have hU := upF_hand hn hs
  have hB := back_hand hn hU
  have hne : notShort (back2 n ks) ≠ [] := fun e => hs (ns_back2.mp e)
  have hokB : ∀ z ∈ back2 n ks, Ok (backF n (upF n ks)) z := by
    have := (ok_back2 hn hU).mp hok
    exact (ok_heard hB).mp this
  apply Int.le_antisymm
  · rw [back_iff hn hU]
    obtain ⟨p, hp, e⟩ := List.mem_map.mp (upF_min (n := n) (x := lowF n (back2 n ks) g) hs).1
    obtain ⟨l, hl, hb, rfl⟩ := of_nb hp
    rw [← e]
    have m : home n l ∈ hearAll n ks := mem_hearAll.mpr ⟨l, hl, rfl⟩
    have mz : (("from" : Str), (home n l).2.2 + 1, (home n l).2.1 + 1) ∈ back2 n ks := List.mem_flatMap.mpr ⟨_, m, mem_backL.mpr (.inr ⟨by show nbP l = true; exact hb, rfl⟩)⟩
    have q := (leadF_ok hne g (n := n)).2 _ (mem_ns mz (from_ns _))
    have q : (home n l).2.1 + 1 + (g - ((home n l).2.2 + 1)) / n * n ≤ lowF n (back2 n ks) g := q
    rw [← home_high hn]
    generalize home n l = z at *
    show g ≤ z.2.2 - (z.2.1 - lowF n (back2 n ks) g) / n * n
    generalize lowF n (back2 n ks) g = v at *
    have b1 := floor_in' (x := g - (z.2.2 + 1)) hn
    generalize (g - (z.2.2 + 1)) / n = t at *
    have b2 : (z.2.1 - v) / n ≤ -t - 1 := by
      refine Int.le_of_lt_add_one (Int.ediv_lt_of_lt_mul hn ?_)
      have e5 : (-t - 1 + 1) * n = -(t * n) := by
        rw [show -t - 1 + 1 = -t by omega, Int.neg_mul]
      rw [e5]
      omega
    have b3 : (z.2.1 - v) / n * n ≤ (-t - 1) * n := Int.mul_le_mul_of_nonneg_right b2 (by omega)
    rw [Int.sub_mul, Int.neg_mul, Int.one_mul] at b3
    omega
  · obtain ⟨p, hp, e⟩ := (leadF_ok hne g (n := n)).1
    obtain ⟨z, hz, hzs, rfl⟩ := of_ns hp
    have := low_le hn hB (hokB z hz) hzs (x := g)
    have e3 : lowF n (back2 n ks) g = lowv n g z.2 := e.symm
    omega
theorem back_low {n : Int} (hn : 0 < n) {ks : List Look} (hs : notShort ks ≠ []) {g : Int} (hok : ∀ l ∈ ks, Ok (lowF n ks) l) : backF n (lowF n ks) g = upF n (back2 n ks) g := by
  have hL := lowF_hand hn hs
  have hB := back_hand hn hL
  have hne : notBeyond (back2 n ks) ≠ [] := fun e => hs (nb_back2.mp e)
  have hokB : ∀ z ∈ back2 n ks, Ok (backF n (lowF n ks)) z := by
    have := (ok_back2 hn hL).mp hok
    exact (ok_heard hB).mp this
  apply Int.le_antisymm
  · obtain ⟨p, hp, e⟩ := List.mem_map.mp (upF_min (n := n) (x := g) hne).1
    obtain ⟨z, hz, hzs, rfl⟩ := of_nb hp
    have := le_high hn hB (hokB z hz) hzs (x := g)
    omega
  · rcases Int.lt_or_le (backF n (lowF n ks) g) (upF n (back2 n ks) g) with c | c
    · exfalso
      have q1 := (backF_is hn hL g).1
      generalize backF n (lowF n ks) g = v at *
      obtain ⟨p, hp, e⟩ := (leadF_ok hs v (n := n)).1
      obtain ⟨l, hl, hb, rfl⟩ := of_ns hp
      have e2 : lowF n ks v = lowv n v l.2 := e.symm
      rw [e2, ← home_low hn] at q1
      have m : home n l ∈ hearAll n ks := mem_hearAll.mpr ⟨l, hl, rfl⟩
      have mz : (("upto" : Str), (home n l).2.2, (home n l).2.1) ∈ back2 n ks := List.mem_flatMap.mpr ⟨_, m, mem_backL.mpr (.inl ⟨by show nsP l = true; exact hb, rfl⟩)⟩
      have q := (upF_min (n := n) (x := g) hne).2 _ (List.mem_map.mpr ⟨_, mem_nb mz (upto_nb _), rfl⟩)
      have q : upF n (back2 n ks) g ≤ (home n l).2.1 - ((home n l).2.2 - g) / n * n := q
      generalize home n l = z at *
      have q1 : g ≤ z.2.2 + (v - z.2.1) / n * n := q1
      generalize upF n (back2 n ks) g = u at *
      have b1 := floor_in' (x := z.2.2 - g) hn
      generalize (z.2.2 - g) / n = s at *
      have b2 : (v - z.2.1) / n ≤ -s - 1 := by
        refine Int.le_of_lt_add_one (Int.ediv_lt_of_lt_mul hn ?_)
        have e5 : (-s - 1 + 1) * n = -(s * n) := by
          rw [show -s - 1 + 1 = -s by omega, Int.neg_mul]
        rw [e5]
        omega
      have b3 : (v - z.2.1) / n * n ≤ (-s - 1) * n := Int.mul_le_mul_of_nonneg_right b2 (by omega)
      rw [Int.sub_mul, Int.neg_mul, Int.one_mul] at b3
      omega
    · exact c
/-- the row led back -/
noncomputable def backRow (n : Int) (row : List Int) : List Int := (List.range n.toNat).map fun (k : Nat) => backF n (rowF n row) (k : Int)
theorem backRow_len {n : Int} {row : List Int} : (backRow n row).length = n.toNat := by unfold backRow; rw [List.length_map, List.length_range]
theorem backRow_F {n : Int} (hn : 0 < n) {row : List Int} (h : Part n n.toNat row) (x : Int) : rowF n (backRow n row) x = backF n (rowF n row) x := by
  have hB := back_hand hn (row_hand hn h)
  have nx := Int.emod_nonneg x (b := n) (by omega)
  have lx := Int.emod_lt_of_pos x hn
  unfold backRow
  show ((List.range n.toNat).map fun (k : Nat) => backF n (rowF n row) (k : Int)).getD (x % n).toNat 0 + (x - x % n) = _
  rw [getD_at (by rw [List.length_map, List.length_range]; omega), List.getElem_map, List.getElem_range]
  have e : ((x % n).toNat : Int) = x % n := by omega
  rw [e]
  have t := hB.turn (x % n) (x / n)
  have dx := Int.emod_add_mul_ediv x n
  rw [Int.mul_comm] at dx
  rw [dx] at t
  omega
/-- within seven turns -/
theorem back_in58 {n : Int} (hn : 0 < n) {row : List Int} (h : Part n n.toNat row) {g : Int} (hg : 0 ≤ g ∧ g < n) : -(7 * n) < backF n (rowF n row) g ∧ backF n (rowF n row) g < 7 * n := by
  have hF := row_hand hn h
  obtain ⟨r0, h2, h3, _⟩ := h.head
  have z : rowF n row 0 = r0 := by
    rw [rowF_at hn ⟨by omega, hn⟩]
    cases e : row with
    | nil => rw [e] at h2; cases h2
    | cons x xs => rw [e] at h2; cases h2; rfl
  constructor
  · rcases Int.lt_or_le (-(7 * n)) (backF n (rowF n row) g) with c | c
    · exact c
    · have := (back_iff hn hF).mp c
      have t := hF.turn 0 (-7)
      rw [Int.zero_add, show (-7 : Int) * n = -(7 * n) by omega] at t
      omega
  · have t := hF.turn 0 6
    rw [Int.zero_add] at t
    have := (back_iff hn hF (x := 6 * n) (y := g)).mpr (by omega)
    omega
/-- the first of a range that fits -/
theorem first_in {lo hi b : Int} {p : Nat → Bool} (hb : lo ≤ b ∧ b < hi) (h1 : p (b - lo).toNat = true) (h2 : ∀ k : Nat, (k : Int) < b - lo → p k = false) : ∃ rest, ((List.range (hi - lo).toNat).filter p).map (fun (k : Nat) => D.int (lo + (k : Int))) = D.int b :: rest := by
  obtain ⟨m, em⟩ : ∃ m : Nat, (hi - lo).toNat = (b - lo).toNat + 1 + m := ⟨(hi - lo).toNat - ((b - lo).toNat + 1), by omega⟩
  have e1 : (List.range (hi - lo).toNat).filter p = (b - lo).toNat :: ((List.range m).map (fun k => (b - lo).toNat + 1 + k)).filter p := by
    rw [em, List.range_add, List.range_succ, List.filter_append, List.filter_append]
    have : (List.range (b - lo).toNat).filter p = [] := by
      rw [List.filter_eq_nil_iff]
      intro k hk
      have := List.mem_range.mp hk
      rw [h2 k (by omega)]
      exact Bool.false_ne_true
    rw [this]
    simp [h1]
  rw [e1, List.map_cons]
  exact ⟨_, by congr 2; omega⟩
/-- fits go along -/
theorem fitB_back {n : Int} (hn : 0 < n) {ks : List Look} {row : List Int} (hr : Part n n.toNat row) (hk : ∀ l ∈ ks, word3 l.1) : fitB n (hearAll n (back2 n ks)) (backRow n row) = fitB n ks row := by
  have hF := row_hand hn hr
  have e : rowF n (backRow n row) = backF n (rowF n row) := funext (backRow_F hn hr)
  have hw : ∀ l ∈ hearAll n (back2 n ks), word3 l.1 := fun l hl => by
    obtain ⟨z, hz, rfl⟩ := mem_hearAll.mp hl
    obtain ⟨u, hu, hz⟩ := List.mem_flatMap.mp hz
    rcases mem_backL.mp hz with ⟨_, rfl⟩ | ⟨_, rfl⟩
    · exact .inr (.inr rfl)
    · exact .inr (.inl rfl)
  rw [Bool.eq_iff_iff, fitB_iff hw, fitB_iff hk, e]
  exact (ok_back2 hn hF).symm
section
variable {n : Int} {ks : List Look} {rows : List (List Int)}
theorem back_min (hn : 0 < n) (hr : ∀ row, row ∈ rows ↔ Part n n.toNat row) (ht : Tog n ks) (hs : notBeyond ks ≠ []) {x : Int} (hx : 0 ≤ x ∧ x < n) :
    IsMin (((rows.filter (fitB n ks)).map (backRow n)).map fun row => row.getD x.toNat 0) (some (lowF n (back2 n ks) x)) := by
  have hne : notShort (back2 n ks) ≠ [] := fun e => hs (ns_back2.mp e)
  constructor
  · obtain ⟨row, hm, e⟩ := fit_mk hn hr ht (ht.up hn hs)
    have hp := (hr row).mp (List.mem_filter.mp hm).1
    refine List.mem_map.mpr ⟨backRow n row, List.mem_map.mpr ⟨row, hm, rfl⟩, ?_⟩
    rw [← rowF_at hn hx, backRow_F hn hp, e, back_up hn hs (ht.up hn hs).ok]
  · intro y hy
    obtain ⟨r, hr', rfl⟩ := List.mem_map.mp hy
    obtain ⟨row, hm, rfl⟩ := List.mem_map.mp hr'
    have hp := (hr row).mp (List.mem_filter.mp hm).1
    obtain ⟨h1, h2, _⟩ := fit_row hn hr ht hm
    have h3 := (ok_heard (back_hand hn h1)).mp ((ok_back2 hn h1).mp h2)
    rw [← rowF_at hn hx, backRow_F hn hp]
    obtain ⟨p, hp', e⟩ := (leadF_ok hne x (n := n)).1
    obtain ⟨z, hz, hzs, rfl⟩ := of_ns hp'
    have := low_le hn (back_hand hn h1) (h3 z hz) hzs (x := x)
    have e3 : lowF n (back2 n ks) x = lowv n x z.2 := e.symm
    omega
theorem back_max (hn : 0 < n) (hr : ∀ row, row ∈ rows ↔ Part n n.toNat row) (ht : Tog n ks) (hs : notShort ks ≠ []) {x : Int} (hx : 0 ≤ x ∧ x < n) :
    IsMax (((rows.filter (fitB n ks)).map (backRow n)).map fun row => row.getD x.toNat 0) (some (upF n (back2 n ks) x)) := by
  have hne : notBeyond (back2 n ks) ≠ [] := fun e => hs (nb_back2.mp e)
  constructor
  · obtain ⟨row, hm, e⟩ := fit_mk hn hr ht (ht.low hn hs)
    have hp := (hr row).mp (List.mem_filter.mp hm).1
    refine List.mem_map.mpr ⟨backRow n row, List.mem_map.mpr ⟨row, hm, rfl⟩, ?_⟩
    rw [← rowF_at hn hx, backRow_F hn hp, e, back_low hn hs (ht.low hn hs).ok]
  · intro y hy
    obtain ⟨r, hr', rfl⟩ := List.mem_map.mp hy
    obtain ⟨row, hm, rfl⟩ := List.mem_map.mp hr'
    have hp := (hr row).mp (List.mem_filter.mp hm).1
    obtain ⟨h1, h2, _⟩ := fit_row hn hr ht hm
    have h3 := (ok_heard (back_hand hn h1)).mp ((ok_back2 hn h1).mp h2)
    rw [← rowF_at hn hx, backRow_F hn hp]
    obtain ⟨p, hp', e⟩ := List.mem_map.mp (upF_min (n := n) (x := x) hne).1
    obtain ⟨z, hz, hzs, rfl⟩ := of_nb hp'
    have := le_high hn (back_hand hn h1) (h3 z hz) hzs (x := x)
    omega
end
theorem len_bks : ∀ L : List Look, (bks L).length ≤ 2 * L.length
  | [] => Nat.le_refl _
  | l :: L => by
    have ih := len_bks L
    have e : bks (l :: L) = backL l ++ bks L := rfl
    have b : (backL l).length ≤ 2 := by
      unfold backL
      rw [List.length_append]
      cases nsP l <;> cases nbP l <;> simp
    rw [e, List.length_append, List.length_cons]
    omega
theorem bks_split (pre : List Look) (z : Look) (post : List Look) : bks (pre ++ z :: post) = bks pre ++ (backL z ++ bks post) := by
  unfold bks
  rw [List.flatMap_append, List.flatMap_cons]
theorem hearAll_more (n : Int) (cur : List Look) (u : Look) : hearAll n (cur ++ [u]) = hearL n (hearAll n cur) u := by
  unfold hearAll
  rw [List.foldl_append]
  rfl
end DK
namespace DK
open PySem PL
/-! looks in the order of tuples; looks led back -/
def lkLe (a b : Look) : Bool := leD (lkD a) (lkD b)
theorem lkLe_total : PySem.W.TotalLe lkLe := PySem.W.sortLe_total (PyProof.Rows.listOrd PyProof.Rows.itemOrd) false fun l : Look => PySem.W.keyToks (lkD l).py
theorem lk_toks (l : Look) : PySem.W.keyToks (lkD l).py = [.inl 1, .inr l.1.cps.toList, .inl 1, .inl l.2.1, .inl 1, .inl l.2.2, .inl 0] := by
  simp [lkD, D.py, D.pys, PySem.W.keyToks, PySem.W.keyToksAll]
theorem lkLe_anti {a b : Look} (h1 : lkLe a b = true) (h2 : lkLe b a = true) : a = b := by
  have e : PySem.W.keyToks (lkD a).py = PySem.W.keyToks (lkD b).py := by
    have h1' : (!PyProof.Rows.lexLt PyProof.Rows.itemOrd (PySem.W.keyToks (lkD b).py) (PySem.W.keyToks (lkD a).py)) = true := h1
    have h2' : (!PyProof.Rows.lexLt PyProof.Rows.itemOrd (PySem.W.keyToks (lkD a).py) (PySem.W.keyToks (lkD b).py)) = true := h2
    rw [Bool.not_eq_true'] at h1' h2'
    exact (PyProof.Rows.listOrd PyProof.Rows.itemOrd).total _ _ h2' h1'
  rw [lk_toks, lk_toks] at e
  injection e with _ e
  injection e with e1 e
  injection e with _ e
  injection e with e2 e
  injection e with _ e
  injection e with e3 e
  injection e1 with e1
  injection e2 with e2
  injection e3 with e3
  exact Prod.ext (PySem.W.str_of_cps e1) (Prod.ext e2 e3)
/-- in the order of tuples, each once -/
structure Srt (L : List Look) : Prop where
  up : L.Pairwise fun a b => lkLe a b = true
  once : L.Nodup
theorem srt_uniq : ∀ {L L' : List Look}, Srt L → Srt L' → (∀ z, z ∈ L ↔ z ∈ L') → L = L'
  | [], [], _, _, _ => rfl
  | [], z :: L', _, _, h => absurd ((h z).mpr List.mem_cons_self) (by simp)
  | z :: L, [], _, _, h => absurd ((h z).mp List.mem_cons_self) (by simp)
  | a :: L, b :: L', s, s', h => by
    obtain ⟨u1, u2⟩ := List.pairwise_cons.mp s.up
    obtain ⟨o1, o2⟩ := List.nodup_cons.mp s.once
    obtain ⟨v1, v2⟩ := List.pairwise_cons.mp s'.up
    obtain ⟨p1, p2⟩ := List.nodup_cons.mp s'.once
    have e : a = b := by
      rcases List.mem_cons.mp ((h a).mp List.mem_cons_self) with e | e
      · exact e
      · rcases List.mem_cons.mp ((h b).mpr List.mem_cons_self) with k | k
        · exact k.symm
        · exact lkLe_anti (u1 b k) (v1 a e)
    subst e
    rw [srt_uniq ⟨u2, o2⟩ ⟨v2, p2⟩ fun z => ?_]
    constructor
    · intro hz
      rcases List.mem_cons.mp ((h z).mp (List.mem_cons_of_mem _ hz)) with e | e
      · rw [e] at hz; exact absurd hz o1
      · exact e
    · intro hz
      rcases List.mem_cons.mp ((h z).mpr (List.mem_cons_of_mem _ hz)) with e | e
      · rw [e] at hz; exact absurd hz p1
      · exact e
theorem srt_sort {L : List Look} (h : L.Nodup) : Srt (L.mergeSort lkLe) := ⟨PySem.W.sort_pairwise lkLe_total L, (List.mergeSort_perm _ _).nodup_iff.mpr h⟩
theorem srt_hearL {n : Int} {L : List Look} (h : Srt L) (l : Look) : Srt (hearL n L l) := by
  unfold hearL
  split
  · exact h
  · rename_i hm
    refine srt_sort ?_
    rw [List.nodup_append]
    exact ⟨h.once, by simp, fun a ha b hb e => by
      rw [List.mem_singleton.mp hb] at e
      exact hm (e ▸ ha)⟩
theorem srt_hearAll (n : Int) (ks : List Look) : Srt (hearAll n ks) := by
  have go : ∀ (ks L : List Look), Srt L → Srt (ks.foldl (hearL n) L) := by
    intro ks
    induction ks with
    | nil => intro L h; exact h
    | cons k ks ih => intro L h; exact ih _ (srt_hearL h k)
  exact go ks [] ⟨.nil, List.nodup_nil⟩
theorem srt_filter {L : List Look} (h : Srt L) (p : Look → Bool) : Srt (L.filter p) := ⟨h.up.filter _, h.once.filter _⟩
theorem heard_eq {n : Int} {ks : List Look} {L : List Look} (h : Srt L) (hm : ∀ z, z ∈ L ↔ z ∈ ks.map (home n)) : L = hearAll n ks :=
  srt_uniq h (srt_hearAll n ks) fun z => by
    rw [hm, mem_hearAll, List.mem_map]
    exact ⟨fun ⟨l, a, b⟩ => ⟨l, a, b.symm⟩, fun ⟨l, a, b⟩ => ⟨l, a, b.symm⟩⟩
/-- as keys -/
def lkK (l : Look) : List L2.Key := [.inr l.1, .inl l.2.1, .inl l.2.2]
theorem tupD_lk (l : Look) : tupD (lkK l) = lkD l := rfl
theorem lkK_inj {a b : Look} (h : lkK a = lkK b) : a = b := by
  unfold lkK at h
  injection h with h1 h
  injection h with h2 h
  injection h with h3 h
  injection h1 with h1
  injection h2 with h2
  injection h3 with h3
  exact Prod.ext h1 (Prod.ext h2 h3)
theorem keys_lk : ∀ {ks : List (List L2.Key)} {xs : List Look}, (∀ k ∈ ks, k ∈ xs.map lkK) → ∃ L : List Look, ks = L.map lkK
  | [], _, _ => ⟨[], rfl⟩
  | k :: ks, xs, h => by
    obtain ⟨L, e⟩ := keys_lk fun k hk => h k (List.mem_cons_of_mem _ hk)
    obtain ⟨l, _, e2⟩ := List.mem_map.mp (h k List.mem_cons_self)
    exact ⟨l :: L, by rw [List.map_cons, e, e2]⟩
section
variable {c : PL.Ctx} {Γ : Gam} {M : Cells} {a : Expr} {pos : Pos} {Q : D → Cells → Prop}
/-- sorted(set(looks)) -/
theorem we_sortSetL {p p2 q : Pos} (hg : GlC c.sc "sorted") (hm : c.mg "sorted" = none) (hg2 : GlC c.sc "set") (hm2 : c.mg "set" = none)
    (h : WE c a Γ M fun d M1 => ∃ xs : List Look, View M1 d (.lst (xs.map lkD)) ∧ xs.length < 64 ∧ ∀ L : List Look, Srt L → (∀ z, z ∈ L ↔ z ∈ xs) → Q (.lst (L.map lkD)) M1)
    (na : ∀ env, starEach [a] env = (false, eval a env) :: starEach [] env := by intro _; rfl) (hcm : c.calm = true := by first | rfl | assumption) : WE c (.Call (.Name "sorted" p) [.Call (.Name "set" p2) [a] [] q] [] pos) Γ M Q :=
  we_sortSetK hg hm hg2 hm2 (h.imp fun d M1 ⟨xs, w, few, qq⟩ => ⟨xs.map lkK, by rw [List.map_map]; exact w, by rw [List.length_map]; exact few, by
      rw [List.map_map]
      exact PySem.W.AllAlike.of fun _ _ => rfl, by
      rw [List.map_map]
      exact PySem.W.Sortable.tuples fun b => ⟨_, _, rfl⟩, fun ks nd mem => by
      obtain ⟨L, rfl⟩ := keys_lk fun k hk => (mem k).mp hk
      have nd' : L.Nodup := List.Pairwise.of_map lkK (fun _ _ hne e => hne (congrArg lkK e)) nd
      have e : ((L.map lkK).mergeSort leK).map tupD = (L.mergeSort lkLe).map lkD := by
        rw [← List.map_mergeSort (r := lkLe) (f := lkK) (s := leK) fun _ _ _ _ => rfl, List.map_map]
        rfl
      rw [e]
      refine qq _ (srt_sort nd') fun z => ?_
      rw [(List.mergeSort_perm _ _).mem_iff]
      constructor
      · intro hz
        obtain ⟨y, hy, e⟩ := List.mem_map.mp ((mem _).mp (List.mem_map.mpr ⟨z, hz, rfl⟩))
        rw [← lkK_inj e]; exact hy
      · intro hz
        obtain ⟨y, hy, e⟩ := List.mem_map.mp ((mem _).mpr (List.mem_map.mpr ⟨z, hz, rfl⟩))
        rw [← lkK_inj e]; exact hy⟩) na
end
theorem eqv_lks2 (L L' : List Look) : (D.lst (L.map lkD)).eqv (.lst (L'.map lkD)) = decide (L = L') := by
  have go : ∀ L L' : List Look, PyData.eqvAll (D.pys (L.map lkD)) (D.pys (L'.map lkD)) = decide (L = L') := by
    intro L
    induction L with
    | nil =>
      intro L'
      cases L' with
      | nil => rfl
      | cons b L' => simp [D.pys, PyData.eqvAll]
    | cons a L ih =>
      intro L'
      cases L' with
      | nil => simp [D.pys, PyData.eqvAll]
      | cons b L' =>
        show (D.eqv (lkD a) (lkD b) && PyData.eqvAll (D.pys (L.map lkD)) (D.pys (L'.map lkD))) = _
        rw [eqv_lk, ih]
        simp
  exact go L L'
/-! ### looks led back, twice told -/
theorem home_turn {n : Int} (hn : 0 < n) (w : Str) (x y t : Int) : home n (w, x - t * n, y - t * n) = home n (w, x, y) := by
  have e : (x - t * n) / n = x / n - t := by
    rw [show x - t * n = x + (-t) * n by rw [Int.neg_mul]; omega, Int.add_mul_ediv_right _ _ (by omega)]
    omega
  unfold home
  simp only [e, Int.sub_mul]
  refine Prod.ext rfl (Prod.ext ?_ ?_) <;> (simp only; omega)
theorem nsP_home (n : Int) (l : Look) : nsP (home n l) = nsP l := rfl
theorem nbP_home (n : Int) (l : Look) : nbP (home n l) = nbP l := rfl
theorem back_homes {n : Int} (hn : 0 < n) (l : Look) (z : Look) : (∃ u ∈ backL (home n l), z = home n u) ↔ ∃ u ∈ backL l, z = home n u := by
  have k1 : home n (("upto" : Str), l.2.2 - l.2.1 / n * n, l.2.1 - l.2.1 / n * n) = home n (("upto" : Str), l.2.2, l.2.1) := home_turn hn _ _ _ _
  have k2 : home n (("from" : Str), l.2.2 - l.2.1 / n * n + 1, l.2.1 - l.2.1 / n * n + 1) = home n (("from" : Str), l.2.2 + 1, l.2.1 + 1) := by
    have := home_turn hn "from" (l.2.2 + 1) (l.2.1 + 1) (l.2.1 / n)
    rw [show l.2.2 + 1 - l.2.1 / n * n = l.2.2 - l.2.1 / n * n + 1 by omega, show l.2.1 + 1 - l.2.1 / n * n = l.2.1 - l.2.1 / n * n + 1 by omega] at this
    exact this
  constructor
  · rintro ⟨u, hu, rfl⟩
    rcases mem_backL.mp hu with ⟨h, rfl⟩ | ⟨h, rfl⟩
    · exact ⟨_, mem_backL.mpr (.inl ⟨h, rfl⟩), k1⟩
    · exact ⟨_, mem_backL.mpr (.inr ⟨h, rfl⟩), k2⟩
  · rintro ⟨u, hu, rfl⟩
    rcases mem_backL.mp hu with ⟨h, rfl⟩ | ⟨h, rfl⟩
    · exact ⟨_, mem_backL.mpr (.inl ⟨h, rfl⟩), k1.symm⟩
    · exact ⟨_, mem_backL.mpr (.inr ⟨h, rfl⟩), k2.symm⟩
theorem back2_eq {n : Int} (hn : 0 < n) (ks : List Look) : hearAll n (back2 n ks) = hearAll n (bks ks) :=
  srt_uniq (srt_hearAll _ _) (srt_hearAll _ _) fun z => by
    rw [mem_hearAll, mem_hearAll]
    unfold back2 bks
    simp only [List.mem_flatMap]
    constructor
    · rintro ⟨u, ⟨l, hl, hu⟩, e⟩
      obtain ⟨k, hk, rfl⟩ := mem_hearAll.mp hl
      obtain ⟨u', hu', e'⟩ := (back_homes hn k z).mp ⟨u, hu, e⟩
      exact ⟨u', ⟨k, hk, hu'⟩, e'⟩
    · rintro ⟨u, ⟨k, hk, hu⟩, e⟩
      obtain ⟨u', hu', e'⟩ := (back_homes hn k z).mpr ⟨u, hu, e⟩
      exact ⟨u', ⟨home n k, mem_hearAll.mpr ⟨k, hk, rfl⟩, hu'⟩, e'⟩
/-! ### whoever leads by the one is led back by the other -/
theorem low_oks {n : Int} (hn : 0 < n) {F : Int → Int} (hF : Hand n F) {ks : List Look} (hs : notShort ks ≠ []) (hk : ∀ l ∈ ks, Ok F l) : ∀ l ∈ ks, Ok (lowF n ks) l := fun l hl => by
  have mx := fun x => lowF_max (n := n) (x := x) hs
  refine ⟨fun h => ?_, fun h => ?_⟩
  · have := (mx l.2.1).2 _ (List.mem_map.mpr ⟨l.2, List.mem_map.mpr ⟨l, List.mem_filter.mpr ⟨hl, h⟩, rfl⟩, rfl⟩)
    have e : lowv n l.2.1 l.2 = l.2.2 := by unfold lowv; simp
    omega
  · obtain ⟨p, hp, e⟩ := List.mem_map.mp (mx l.2.1).1
    obtain ⟨k, hk', rfl⟩ := List.mem_map.mp hp
    obtain ⟨hk1, hk2⟩ := List.mem_filter.mp hk'
    have h1 := low_le (x := l.2.1) hn hF (hk k hk1) hk2
    have h2 := (hk l hl).nb h
    omega
theorem up_oks {n : Int} (hn : 0 < n) {F : Int → Int} (hF : Hand n F) {ks : List Look} (hs : notBeyond ks ≠ []) (hk : ∀ l ∈ ks, Ok F l) : ∀ l ∈ ks, Ok (upF n ks) l := fun l hl => by
  have mx := fun x => upF_min (n := n) (x := x) hs
  refine ⟨fun h => ?_, fun h => ?_⟩
  · obtain ⟨p, hp, e⟩ := List.mem_map.mp (mx l.2.1).1
    obtain ⟨k, hk', rfl⟩ := List.mem_map.mp hp
    obtain ⟨hk1, hk2⟩ := List.mem_filter.mp hk'
    have h1 := le_high (x := l.2.1) hn hF (hk k hk1) hk2
    have h2 := (hk l hl).ns h
    omega
  · have := (mx l.2.1).2 _ (List.mem_map.mpr ⟨l.2, List.mem_map.mpr ⟨l, List.mem_filter.mpr ⟨hl, h⟩, rfl⟩, rfl⟩)
    have e : highv n l.2.1 l.2 = l.2.2 := by unfold highv; simp
    omega
theorem pair_low {n : Int} (hn : 0 < n) {F : Int → Int} (hF : Hand n F) {ks : List Look} (hs : notShort ks ≠ []) (hk : ∀ l ∈ ks, Ok F l) (x : Int) : upF n (back2 n ks) (lowF n ks x) ≤ x ∧ x < upF n (back2 n ks) (lowF n ks x + 1) := by
  have ok := low_oks hn hF hs hk
  have hL := lowF_hand hn hs
  rw [← back_low hn hs ok, ← back_low hn hs ok]
  refine ⟨(back_iff hn hL).mpr (Int.le_refl _), ?_⟩
  have : ¬ backF n (lowF n ks) (lowF n ks x + 1) ≤ x := fun h => by have := (back_iff hn hL).mp h; omega
  omega
theorem pair_up {n : Int} (hn : 0 < n) {F : Int → Int} (hF : Hand n F) {ks : List Look} (hs : notBeyond ks ≠ []) (hk : ∀ l ∈ ks, Ok F l) (x : Int) : lowF n (back2 n ks) (upF n ks x) ≤ x ∧ x < lowF n (back2 n ks) (upF n ks x + 1) := by
  have ok := up_oks hn hF hs hk
  have hL := upF_hand hn hs
  rw [← back_up hn hs ok, ← back_up hn hs ok]
  refine ⟨(back_iff hn hL).mpr (Int.le_refl _), ?_⟩
  have : ¬ backF n (upF n ks) (upF n ks x + 1) ≤ x := fun h => by have := (back_iff hn hL).mp h; omega
  omega
end DK
/-! cells seen as things that stay, for as long as an expression is worked out -/
namespace PL
open PySem PySem.Spec PyProof.Rows L2
mutual
inductive Sees (B : Cells) : D → D → Prop
  | self {d} : Sees B d d
  | obj {p C fs gs} : (p, MO.ins C fs) ∈ B → SeesF B fs gs → Sees B (.ptr p) (.obj C gs)
  | cell {p ds es} : (p, MO.lst ds) ∈ B → SeesL B ds es → Sees B (.ptr p) (.lst es)
  | tup {ds es} : SeesL B ds es → Sees B (.tup ds) (.tup es)
  | lst {ds es} : SeesL B ds es → Sees B (.lst ds) (.lst es)
inductive SeesL (B : Cells) : List D → List D → Prop
  | nil : SeesL B [] []
  | cons {d e ds es} : Sees B d e → SeesL B ds es → SeesL B (d :: ds) (e :: es)
inductive SeesF (B : Cells) : List (Str × D) → List (Str × D) → Prop
  | nil : SeesF B [] []
  | cons {f d e ds es} : Sees B d e → SeesF B ds es → SeesF B ((f, d) :: ds) ((f, e) :: es)
end
theorem SeesL.self {B : Cells} : ∀ ds : List D, SeesL B ds ds
  | [] => .nil
  | _ :: ds => .cons .self (SeesL.self ds)
theorem SeesF.self {B : Cells} : ∀ ds : List (Str × D), SeesF B ds ds
  | [] => .nil
  | _ :: ds => .cons .self (SeesF.self ds)
theorem SeesL.map {α : Type} {B : Cells} {f g : α → D} : ∀ xs : List α, (∀ x ∈ xs, Sees B (f x) (g x)) → SeesL B (xs.map f) (xs.map g)
  | [], _ => .nil
  | x :: xs, h => .cons (h x List.mem_cons_self) (SeesL.map xs fun y hy => h y (List.mem_cons_of_mem _ hy))
section
variable {K : PySem.W.Frag} {S : AS} {B lent : Cells} {H H' : Hp}
theorem dom_app (A B : Cells) : dom (A ++ B) = dom A ++ dom B := by unfold dom; rw [List.map_append]
theorem Core.off (cr : Core K S (B ++ lent) H) {p : Addr} {m : MO} (h : (p, m) ∈ B) : ¬ av S lent p := by
  have hp : p ∈ dom B := List.mem_map.mpr ⟨_, h, rfl⟩
  have nd := cr.nod
  rw [dom_app] at nd
  rintro (z | z)
  · exact cr.dis p (by rw [dom_app]; exact List.mem_append_left _ hp) z
  · exact (List.nodup_append.mp nd).2.2 p hp p z rfl
theorem av_sub {b : Addr} (h : av S lent b) : av S (B ++ lent) b := by
  rcases h with z | z
  · exact .inl z
  · exact .inr (by rw [dom_app]; exact List.mem_append_right _ z)
theorem Core.cellB (cr : Core K S (B ++ lent) H) {p : Addr} {m : MO} (h : (p, m) ∈ B) : CellAt K (av S (B ++ lent)) H p m := cr.cells (p, m) (List.mem_append_left _ h)
mutual
theorem Sees.rep (cr : Core K S (B ++ lent) H) : ∀ {v : V} {d e : D}, Rep K (av S (B ++ lent)) H v d → Sees B d e → Rep K (av S lent) H v e
  | _, _, _, r, .self => r.to (To.of_iff fun b z => av_sub z)
  | _, _, _, .ptr, .obj h s => by
    obtain ⟨o, ho, dx, vs, rfl, rf⟩ := cr.cellB h
    exact .obj (cr.off h) ho (SeesF.rep cr rf s)
  | _, _, _, .ptr, .cell h s => by
    obtain ⟨o, ho, vs, rfl, rf⟩ := cr.cellB h
    exact .lst (.inl ⟨cr.off h, .inl ho⟩) (SeesL.rep cr rf s)
  | _, _, _, .tup h1 h2, .tup s => .tup ((To.of_iff (fun b z => av_sub z)).rdt h1) (SeesL.rep cr h2 s)
  | _, _, _, .lst h1 h2, .lst s => .lst ((To.of_iff (fun b z => av_sub z)).rdl h1) (SeesL.rep cr h2 s)
theorem SeesL.rep (cr : Core K S (B ++ lent) H) : ∀ {v : List V} {d e : List D}, Reps K (av S (B ++ lent)) H v d → SeesL B d e → Reps K (av S lent) H v e
  | _, _, _, .nil, .nil => .nil
  | _, _, _, .cons r rs, .cons s ss => .cons (Sees.rep cr r s) (SeesL.rep cr rs ss)
theorem SeesF.rep (cr : Core K S (B ++ lent) H) : ∀ {v : List (Str × V)} {d e : List (Str × D)}, RepF K (av S (B ++ lent)) H v d → SeesF B d e → RepF K (av S lent) H v e
  | _, _, _, .nil, .nil => .nil
  | _, _, _, .cons r rs, .cons s ss => .cons (Sees.rep cr r s) (SeesF.rep cr rs ss)
end
end
mutual
/-- no cell is among it; l: lists may be, o: instances -/
inductive Clr (l o : Bool) : D → Prop
  | non : Clr l o .non
  | bl {b} : Clr l o (.bl b)
  | int {i} : Clr l o (.int i)
  | str {s} : Clr l o (.str s)
  | ptr {a} : Clr l o (.ptr a)
  | tup {xs} : ClrL l o xs → Clr l o (.tup xs)
  | lst {xs} : l = true → ClrL l o xs → Clr l o (.lst xs)
  | obj {C fs} : o = true → ClrF l o fs → Clr l o (.obj C fs)
inductive ClrL (l o : Bool) : List D → Prop
  | nil : ClrL l o []
  | cons {x xs} : Clr l o x → ClrL l o xs → ClrL l o (x :: xs)
inductive ClrF (l o : Bool) : List (Str × D) → Prop
  | nil : ClrF l o []
  | cons {f x xs} : Clr l o x → ClrF l o xs → ClrF l o ((f, x) :: xs)
end
theorem ClrL.map {α : Type} {l o : Bool} {f : α → D} : ∀ xs : List α, (∀ x ∈ xs, Clr l o (f x)) → ClrL l o (xs.map f)
  | [], _ => .nil
  | x :: xs, h => .cons (h x List.mem_cons_self) (ClrL.map xs fun y hy => h y (List.mem_cons_of_mem _ hy))
theorem ClrL.of {l o : Bool} : ∀ {xs : List D}, (∀ x ∈ xs, Clr l o x) → ClrL l o xs
  | [], _ => .nil
  | x :: xs, h => .cons (h x List.mem_cons_self) (ClrL.of fun y hy => h y (List.mem_cons_of_mem _ hy))
inductive ClrK (l o : Bool) : List (Key × D) → Prop
  | nil : ClrK l o []
  | cons {f x xs} : Clr l o x → ClrK l o xs → ClrK l o ((f, x) :: xs)
/-- the same of a cell -/
def MO.clr (l o : Bool) : MO → Prop
  | .lst ds => ClrL l o ds
  | .dK kvs => ClrK l o kvs
  | .ins _ fs => ClrF l o fs
  | .tbl _ => True
  | .fn _ _ _ => False
/-- what is lent away to be seen only -/
structure Still (l o : Bool) (B : Cells) : Prop where
  fn : ∀ p ∈ B, ∀ f L ds, p.2 ≠ .fn f L ds
  lst : l = true → ∀ p ∈ B, ∀ ds, p.2 ≠ .lst ds
  ins : o = true → ∀ p ∈ B, ∀ C fs, p.2 ≠ .ins C fs
section
variable {K : PySem.W.Frag} {S : AS} {B lent M2 : Cells} {H H' : Hp} {l o : Bool}
/-- whose objects are no cells' -/
theorem Core.apart (cr : Core K S (B ++ lent) H) (hs : Still l o B) (st : PL.Step lent M2 H H') {a : Addr} (ha : ¬ av S M2 a) (hk : ∀ m, (a, m) ∈ B → (∀ ob, H' a = some ob → ¬ CellOf K (av S (B ++ lent)) H ob m)) : ¬ av S (B ++ M2) a := by
  rintro (z | z)
  · exact ha (.inl z)
  · rw [dom_app] at z
    rcases List.mem_append.mp z with z | z
    · obtain ⟨⟨p, m⟩, hp, e⟩ := List.mem_map.mp z
      have e : p = a := e
      subst e
      obtain ⟨ob, hob, hc⟩ := cr.cellB hp
      refine hk m hp ob (st.keep p ob (fun q => ?_) hob) hc
      exact cr.off hp (.inr q)
    · exact ha (.inr z)
theorem not_cell_tup {K : PySem.W.Frag} {A : AS} {H : Hp} {m : MO} {ob : HO} {vs : List V} (hf : ∀ f L ds, m ≠ .fn f L ds) (h : ob = .tup vs ∨ ∃ o2, ob = .frz o2 (.tup vs)) : ¬ CellOf K A H ob m := by
  rintro c
  cases m with
  | lst ds => obtain ⟨_, e, _⟩ := c; rcases h with h | ⟨_, h⟩ <;> (rw [h] at e; cases e)
  | dK ds => obtain ⟨_, e, _⟩ := c; rcases h with h | ⟨_, h⟩ <;> (rw [h] at e; cases e)
  | ins C ds => obtain ⟨_, _, e, _⟩ := c; rcases h with h | ⟨_, h⟩ <;> (rw [h] at e; cases e)
  | tbl q => obtain ⟨_, e, _⟩ := c; rcases h with h | ⟨_, h⟩ <;> (rw [h] at e; cases e)
  | fn f L ds => exact hf _ _ _ rfl
theorem not_cell_lst {K : PySem.W.Frag} {A : AS} {H : Hp} {m : MO} {ob : HO} {vs : List V} (hf : ∀ f L ds, m ≠ .fn f L ds) (hl : ∀ ds, m ≠ .lst ds) (h : ob = .lst vs ∨ ∃ o2, ob = .frz o2 (.lst vs)) : ¬ CellOf K A H ob m := by
  rintro c
  cases m with
  | lst ds => exact hl _ rfl
  | dK ds => obtain ⟨_, e, _⟩ := c; rcases h with h | ⟨_, h⟩ <;> (rw [h] at e; cases e)
  | ins C ds => obtain ⟨_, _, e, _⟩ := c; rcases h with h | ⟨_, h⟩ <;> (rw [h] at e; cases e)
  | tbl q => obtain ⟨_, e, _⟩ := c; rcases h with h | ⟨_, h⟩ <;> (rw [h] at e; cases e)
  | fn f L ds => exact hf _ _ _ rfl
theorem not_cell_ins {K : PySem.W.Frag} {A : AS} {H : Hp} {m : MO} {C dx : Addr} {vs : List (Str × V)} (hf : ∀ f L ds, m ≠ .fn f L ds) (hi : ∀ C ds, m ≠ .ins C ds) : ¬ CellOf K A H (.ins C dx vs) m := by
  rintro c
  cases m with
  | lst ds => obtain ⟨_, e, _⟩ := c; cases e
  | dK ds => obtain ⟨_, e, _⟩ := c; cases e
  | ins C ds => exact hi _ _ rfl
  | tbl q => obtain ⟨_, e, _⟩ := c; cases e
  | fn f L ds => exact hf _ _ _ rfl
theorem not_cell_code {K : PySem.W.Frag} {A : AS} {H : Hp} {m : MO} {c' : Addr} {q : Str} (hf : ∀ f L ds, m ≠ .fn f L ds) : ¬ CellOf K A H (LamX.CodeO c' q) m := by
  rintro c
  cases m with
  | lst ds => obtain ⟨_, e, _⟩ := c; cases e
  | dK ds => obtain ⟨_, e, _⟩ := c; cases e
  | ins C ds => obtain ⟨_, _, e, _⟩ := c; cases e
  | tbl q => obtain ⟨_, e, _⟩ := c; cases e
  | fn f L ds => exact hf _ _ _ rfl
theorem Rd.or {a : Addr} {u ob : HO} (r : Rd H a u) (h : H a = some ob) : ob = u ∨ ∃ o2, ob = .frz o2 u := by
  rcases r with r | ⟨o2, r⟩
  · exact .inl (Option.some.inj (h.symm.trans r))
  · exact .inr ⟨o2, Option.some.inj (h.symm.trans r)⟩
theorem Clr.rep (cr : Core K S (B ++ lent) H) (hs : Still l o B) (st : PL.Step lent M2 H H') {v : V} {d : D} (r : Rep K (av S M2) H' v d) (q : Clr l o d) : Rep K (av S (B ++ M2)) H' v d :=
  Clr.rec (motive_1 := fun d _ => ∀ v, Rep K (av S M2) H' v d → Rep K (av S (B ++ M2)) H' v d) (motive_2 := fun d _ => ∀ v, Reps K (av S M2) H' v d → Reps K (av S (B ++ M2)) H' v d) (motive_3 := fun d _ => ∀ v, RepF K (av S M2) H' v d → RepF K (av S (B ++ M2)) H' v d)
    (fun _ r => by cases r; exact .non) (fun _ r => by cases r; exact .bl) (fun _ r => by cases r; exact .int) (fun _ r => by cases r; exact .str) (fun _ r => by cases r; exact .ptr)
    (fun _ ih _ r => by
      cases r with
      | tup h1 h2 =>
        refine .tup ?_ (ih _ h2)
        rcases h1 with ⟨n, r⟩ | k
        · exact .inl ⟨cr.apart hs st n fun m hm ob ho => not_cell_tup (hs.fn _ hm) (Rd.or r ho), r⟩
        · exact .inr k)
    (fun e _ ih _ r => by
      cases r with
      | lst h1 h2 =>
        refine .lst ?_ (ih _ h2)
        rcases h1 with ⟨n, r⟩ | k
        · exact .inl ⟨cr.apart hs st n fun m hm ob ho => not_cell_lst (hs.fn _ hm) (hs.lst e _ hm) (Rd.or r ho), r⟩
        · exact .inr k)
    (fun e _ ih _ r => by
      cases r with
      | obj n h2 h3 =>
        refine .obj (cr.apart hs st n fun m hm ob ho => ?_) h2 (ih _ h3)
        rw [h2] at ho
        cases ho
        exact not_cell_ins (hs.fn _ hm) (hs.ins e _ hm))
    (fun _ r => by cases r; exact .nil) (fun _ _ i1 i2 _ r => by cases r with | cons r rs => exact .cons (i1 _ r) (i2 _ rs))
    (fun _ r => by cases r; exact .nil) (fun _ _ i1 i2 _ r => by cases r with | cons r rs => exact .cons (i1 _ r) (i2 _ rs)) q v r
theorem ClrL.rep (cr : Core K S (B ++ lent) H) (hs : Still l o B) (st : PL.Step lent M2 H H') : ∀ {v : List V} {d : List D}, Reps K (av S M2) H' v d → ClrL l o d → Reps K (av S (B ++ M2)) H' v d
  | _, _, .nil, _ => .nil
  | _, _, .cons r rs, q => by cases q with | cons q qs => exact .cons (Clr.rep cr hs st r q) (ClrL.rep cr hs st rs qs)
theorem ClrF.rep (cr : Core K S (B ++ lent) H) (hs : Still l o B) (st : PL.Step lent M2 H H') : ∀ {v : List (Str × V)} {d : List (Str × D)}, RepF K (av S M2) H' v d → ClrF l o d → RepF K (av S (B ++ M2)) H' v d
  | _, _, .nil, _ => .nil
  | _, _, .cons r rs, q => by cases q with | cons q qs => exact .cons (Clr.rep cr hs st r q) (ClrF.rep cr hs st rs qs)
theorem ClrK.rep (cr : Core K S (B ++ lent) H) (hs : Still l o B) (st : PL.Step lent M2 H H') : ∀ {v : List (Key × V)} {d : List (Key × D)}, RepK K (av S M2) H' v d → ClrK l o d → RepK K (av S (B ++ M2)) H' v d
  | _, _, .nil, _ => .nil
  | _, _, .cons r rs, q => by cases q with | cons q qs => exact .cons (Clr.rep cr hs st r q) (ClrK.rep cr hs st rs qs)
theorem MO.clr.rep (cr : Core K S (B ++ lent) H) (hs : Still l o B) (st : PL.Step lent M2 H H') {p : Addr} {m : MO} (c : CellAt K (av S M2) H' p m) (q : m.clr l o) : CellAt K (av S (B ++ M2)) H' p m := by
  obtain ⟨ob, ho, c⟩ := c
  refine ⟨ob, ho, ?_⟩
  cases m with
  | lst ds => obtain ⟨vs, h, r⟩ := c; exact ⟨vs, h, ClrL.rep cr hs st r q⟩
  | dK ds => obtain ⟨vs, h, r⟩ := c; exact ⟨vs, h, ClrK.rep cr hs st r q⟩
  | ins C ds => obtain ⟨dx, vs, h, r⟩ := c; exact ⟨dx, vs, h, ClrF.rep cr hs st r q⟩
  | tbl qn =>
    obtain ⟨ps, h, h2, h3⟩ := c
    refine ⟨ps, h, h2, fun pos cv e => ?_⟩
    obtain ⟨a, e1, n, e2⟩ := h3 pos cv e
    refine ⟨a, e1, cr.apart hs st n fun m hm ob hob => ?_, e2⟩
    rw [e2] at hob
    cases hob
    exact not_cell_code (hs.fn _ hm)
  | fn f L ds => exact q.elim
/-- back from seeing -/
theorem Core.unseen (cr : Core K S (B ++ lent) H) (hs : Still l o B) (c2 : Core K S M2 H') (st : PL.Step lent M2 H H') (hc : ∀ p ∈ M2, p.2.clr l o) : Core K S (B ++ M2) H' ∧ PL.Step (B ++ lent) (B ++ M2) H H' := by
  have nd := cr.nod
  rw [dom_app] at nd
  obtain ⟨n1, n2, n3⟩ := List.nodup_append.mp nd
  have st' : PL.Step (B ++ lent) (B ++ M2) H H' := by
    refine ⟨fun b ob n h => st.keep b ob (fun z => n (by rw [dom_app]; exact List.mem_append_right _ z)) h, st.grow, fun b hb => ?_⟩
    rw [dom_app] at hb ⊢
    rcases List.mem_append.mp hb with z | z
    · exact .inl (List.mem_append_left _ z)
    · rcases st.fresh b z with q | q
      · exact .inl (List.mem_append_right _ q)
      · exact .inr q
  refine ⟨⟨c2.known, ?_, fun a ha z => ?_, fun p hp => ?_⟩, st'⟩
  · rw [dom_app]
    refine List.nodup_append.mpr ⟨n1, c2.nod, fun a h1 b h2 e => ?_⟩
    subst e
    obtain ⟨p, hp, rfl⟩ := List.mem_map.mp h1
    rcases st.fresh _ h2 with q | q
    · exact n3 _ h1 _ q rfl
    · exact (cr.cellB (p := p.1) (m := p.2) hp).ne q
  · rw [dom_app] at ha
    rcases List.mem_append.mp ha with q | q
    · exact cr.dis a (by rw [dom_app]; exact List.mem_append_left _ q) z
    · exact c2.dis a q z
  · rcases List.mem_append.mp hp with q | q
    · refine CellAt.to st'.to (fun ob e => st.keep _ ob (fun z => ?_) e) (cr.cells p (List.mem_append_left _ q))
      exact n3 p.1 (List.mem_map.mpr ⟨p, q, rfl⟩) p.1 z rfl
    · exact MO.clr.rep cr hs st (c2.cells p q) (hc p q)
theorem Core.seen (cr : Core K S (B ++ lent) H) : Core K S lent H := by
  have nd := cr.nod
  rw [dom_app] at nd
  exact ⟨cr.known, (List.nodup_append.mp nd).2.1, fun a ha => cr.dis a (by rw [dom_app]; exact List.mem_append_right _ ha), fun p hp => CellAt.to (To.of_iff fun b z => av_sub z) (fun _ e => e) (cr.cells p (List.mem_append_right _ hp))⟩
/-- slots, seen otherwise -/
inductive SeesG (B : Cells) : Gam → Gam → Prop
  | nil : SeesG B [] []
  | same {x Γ Γ'} : SeesG B Γ Γ' → SeesG B (x :: Γ) (x :: Γ')
  | put {d e Γ Γ'} : Sees B d e → SeesG B Γ Γ' → SeesG B (some d :: Γ) (some e :: Γ')
theorem SeesG.len {Γ Γ' : Gam} (h : SeesG B Γ Γ') : Γ'.length = Γ.length := by
  induction h with
  | nil => rfl
  | same _ ih => rw [List.length_cons, List.length_cons, ih]
  | put _ _ ih => rw [List.length_cons, List.length_cons, ih]
theorem SeesG.at_ {Γ Γ' : Gam} (h : SeesG B Γ Γ') : ∀ {i : Nat} {e : D}, Γ'[i]? = some (some e) → ∃ d, Γ[i]? = some (some d) ∧ Sees B d e := by
  induction h with
  | nil => intro i e h; simp at h
  | same _ ih =>
    intro i e h
    cases i with
    | zero => exact ⟨e, h, .self⟩
    | succ i => exact ih h
  | put s _ ih =>
    intro i e h
    cases i with
    | zero =>
      have h := Option.some.inj (Option.some.inj h)
      subst h
      exact ⟨_, rfl, s⟩
    | succ i => exact ih h
theorem SeesG.slots {Γ Γ' : Gam} {σ : L2.St} (cr : Core K S (B ++ lent) H) (h : SeesG B Γ Γ') (sl : Slots K (av S (B ++ lent)) H Γ σ) : Slots K (av S lent) H Γ' σ :=
  ⟨by rw [h.len]; exact sl.len, fun i e he => let ⟨d, hd, s⟩ := h.at_ he; let ⟨v, hv, r⟩ := sl.at_ i d hd; ⟨v, hv, Sees.rep cr r s⟩⟩
end
/-- nothing is raised -/
@[reducible] def Ctx.still (c : Ctx) : Ctx := { c with Z := fun _ _ _ _ => False }
theorem Ctx.Is.still {c : Ctx} {X : Cx} (i : c.Is X) : c.still.Is X := ⟨i.1, i.2, i.3, i.4, i.5, i.6, i.7, i.8, i.9, i.10, i.11, i.12, i.13, i.14, i.15⟩
section
variable {c : Ctx} {Γ Γ' : Gam} {M B lent : Cells} {e : Expr} {Q : D → Cells → Prop} {R : Bool → Cells → Prop} {l o : Bool}
theorem At.still {X : Cx} {S : AS} {σ : L2.St} {H : Hp} (at_ : At c X S Γ (B ++ lent) σ H) (hΓ : SeesG B Γ Γ') : At c.still X S Γ' lent σ H :=
  ⟨at_.is.still, at_.core.seen, hΓ.slots at_.core at_.slots, let ⟨W, tk, _⟩ := at_.land; ⟨W, tk, fun _ _ _ _ _ _ _ _ _ _ _ _ _ z => z.elim⟩⟩
theorem we_still (l o : Bool) (hM : M = B ++ lent) (hΓ : SeesG B Γ Γ') (hs : Still l o B) (h : WE c.still e Γ' lent fun d M2 => Clr l o d ∧ (∀ p ∈ M2, p.2.clr l o) ∧ Q d (B ++ M2)) : WE c e Γ M Q := .mk fun X S σ H at_ Q' hq => by
  subst hM
  refine h.run X S σ H (at_.still hΓ) Q' fun v H' d M2 c2 st r ⟨q1, q2, q3⟩ => ?_
  obtain ⟨c3, st3⟩ := at_.core.unseen hs c2 st q2
  exact hq v H' d _ c3 st3 (Clr.rep at_.core hs st r q1) q3
theorem wt_still (l o : Bool) (hM : M = B ++ lent) (hΓ : SeesG B Γ Γ') (hs : Still l o B) (h : WT c.still e Γ' lent fun b M2 => (∀ p ∈ M2, p.2.clr l o) ∧ R b (B ++ M2)) : WT c e Γ M R := .mk fun X S σ H at_ Q' hq => by
  subst hM
  refine h.run X S σ H (at_.still hΓ) Q' fun b H' M2 c2 st ⟨q2, q3⟩ => ?_
  obtain ⟨c3, st3⟩ := at_.core.unseen hs c2 st q2
  exact hq b H' _ c3 st3 q3
/-- what is seen only, and the other cells as they were -/
theorem we_stay (l o : Bool) (hM : M.Perm (B ++ lent)) (hΓ : SeesG B Γ Γ') (hs : Still l o B) (hc : ∀ p ∈ lent, p.2.clr l o) (h : WE c.still e Γ' lent fun d M2 => M2 = lent ∧ Clr l o d ∧ Q d M) : WE c e Γ M Q := .mk fun X S σ H at_ Q' hq => by
  obtain ⟨c1, s1⟩ := at_.core.perm hM
  have at2 : At c X S Γ (B ++ lent) σ H := at_.step c1 s1
  refine h.run X S σ H (at2.still hΓ) Q' fun v H' d M2 c2 st r ⟨e1, q1, q3⟩ => ?_
  subst e1
  obtain ⟨c3, st3⟩ := c1.unseen hs c2 st hc
  have r3 := Clr.rep c1 hs st r q1
  obtain ⟨c4, s4⟩ := c3.perm hM.symm
  exact hq v H' d _ c4 ((s1.trans st3).trans s4) (r3.to s4.to) q3
theorem wt_stay (l o : Bool) (hM : M.Perm (B ++ lent)) (hΓ : SeesG B Γ Γ') (hs : Still l o B) (hc : ∀ p ∈ lent, p.2.clr l o) (h : WT c.still e Γ' lent fun b M2 => M2 = lent ∧ R b M) : WT c e Γ M R := .mk fun X S σ H at_ Q' hq => by
  obtain ⟨c1, s1⟩ := at_.core.perm hM
  have at2 : At c X S Γ (B ++ lent) σ H := at_.step c1 s1
  refine h.run X S σ H (at2.still hΓ) Q' fun b H' M2 c2 st ⟨e1, q3⟩ => ?_
  subst e1
  obtain ⟨c3, st3⟩ := c1.unseen hs c2 st hc
  obtain ⟨c4, s4⟩ := c3.perm hM.symm
  exact hq b H' _ c4 ((s1.trans st3).trans s4) q3
theorem Still.all {B : Cells} (h : ∀ p ∈ B, ∃ C fs, p.2 = .ins C fs) : Still true false B :=
  ⟨fun p hp f L ds e => (by obtain ⟨C, fs, e2⟩ := h p hp; rw [e2] at e; cases e), fun _ p hp ds e => (by obtain ⟨C, fs, e2⟩ := h p hp; rw [e2] at e; cases e), fun z => (by cases z)⟩
end
end PL
/-! xs += ys of lists -/
namespace PL
open PySem PySem.Spec PyProof.Rows L2
section
variable {X : Cx}
def ipL : TIp := fun x y H Q => ∃ l b xs zs, x = .ref l ∧ y = .ref b ∧ H l = some (.lst xs) ∧ H b = some (.lst zs) ∧ xs.length + zs.length ≤ sizeLine ∧ Q (.ref l) (upd H l (.lst (xs ++ zs)))
theorem fillI_list : fillsInplaceSlot (.type "list") "add" (Operator.Add == .Add) = pure false := by
  unfold fillsInplaceSlot
  show (typeLookup (.type "list") (dunderI "add") >>= fun fi => pure (fi.isSome && !isSeqSlot fi)) = pure false
  rw [PySem.F.slot_list_iadd.lookup]
  rfl
theorem seqI_list : seqSlot? (.type "list") (dunderI "add") = pure (some (.builtin "list.__iadd__")) := by
  unfold seqSlot?
  rw [PySem.F.slot_list_iadd.lookup]
  rfl
theorem ip_addL : PIp X .Add ipL := by
  intro pins s σ H x y v u Q I rx ry h
  obtain ⟨l, b, xs, zs, rfl, rfl, hH, hB, hz, q⟩ := h
  cases rx
  cases ry
  obtain ⟨z, its, n, r, hl, e⟩ := I.lstM hH
  obtain ⟨z2, its2, n2, r2, hl2, e2⟩ := I.lstM hB
  have hsz : its.toArray.size + its2.toArray.size ≤ sizeLine := by rw [List.size_toArray, List.size_toArray]; omega
  have hlong : ¬ (!its.toArray.isEmpty && Builtin.List.listTooLong (its.toArray.size + its2.toArray.size)) = true := by
    rw [notLongL hsz, Bool.and_false]
    exact Bool.false_ne_true
  unfold inplaceOp
  refine wpAny_holding ?_
  have ta : s.TypeIs (.ref l) "list" := ⟨_, e, rfl⟩
  have tb : s.TypeIs (.ref b) "list" := ⟨_, e2, rfl⟩
  refine wpAny_bind (wpAny_typeOf ta (wpAny_bind (wpAny_of_eq fillI_list ?_)))
  show wpAny _ _ (if false = true then _ else _) _ _ s
  rw [if_neg Bool.false_ne_true]
  refine wpAny_bind (wpAny_binaryOp1_none (nm := "add") ta tb noFill_list_add ?_)
  refine wpAny_bind (wpAny_of_eq seqI_list ?_)
  refine wpAny_bind (wpAny_rule ?_)
  refine call_meets PySem.F.slot_list_iadd ta PySem.F.entry_list_iadd (PySem.F.args_list_iadd_2 _ _)
    (AutoSeq1.list___iadd___list_list_0 l its.toArray n b its2.toArray n2 hlong (by rw [List.size_toArray]; omega) (by omega)) ⟨e, e2, ?_⟩
  refine ⟨.ref l, _, I.lset (its' := its ++ its2) hH e (by simp) (r.append r2) ?_, rfl, q⟩
  rw [List.length_append]
  omega
end
section
variable {c : Ctx} {Γ : Gam} {M : Cells} {e : Expr} {x : Str} {E : PEnds} {pos pos' : Pos}
theorem ws_addL {i : Nat} {p : Addr} (hN : c.N[i]? = some x) (hl : LocC c x) (hΓ : Γ[i]? = some (some (.ptr p))) (h : WE c e Γ M fun d M1 => ∃ (q : Addr) (j j2 : Nat) (ds zs : List D), d = .ptr q ∧ M1[j]? = some (p, .lst ds) ∧ M1[j2]? = some (q, .lst zs) ∧ ds.length + zs.length ≤ sizeLine ∧ E.nx Γ (M1.set j (p, .lst (ds ++ zs)))) :
    WS c (.AugAssign (.Name x pos') .Add e pos) E Γ M := .mk fun X S σ H at_ Ds l => by
  obtain ⟨v, hv, r⟩ := at_.slots.at_ i _ hΓ
  cases r
  refine PS.to (ps_aug at_.is.nd (at_.is.nm hN) (at_.is.loc hl) wE.pe ip_addL (at_.is.st hl)) ⟨_, hv, h.run X S σ H at_ _ fun v H1 d M1 c1 s1 r1 ⟨q, j, j2, ds, zs, e1, hj, hj2, hz, qn⟩ => ?_⟩
  subst e1
  cases r1
  obtain ⟨o1, ho1, vs1, e1, rs1⟩ := c1.at_ hj
  obtain ⟨o2, ho2, vs2, e2, rs2⟩ := c1.at_ hj2
  subst e1 e2
  have kp := c1.put (m' := .lst (ds ++ zs)) (o := .lst (vs1 ++ vs2)) hj ⟨_, rfl, rs1.append rs2⟩
  have e : σ.set i (some (V.ref p)) = σ := by
    obtain ⟨h1, g1⟩ := List.getElem?_eq_some_iff.mp hv
    rw [← g1, List.set_getElem_self]
  exact ⟨p, q, vs1, vs2, rfl, rfl, ho1, ho2, by rw [rs1.length, rs2.length]; exact hz, by show Ds.nx (σ.set i (some (V.ref p))) _; rw [e]; exact l.nx _ _ _ _ kp.1 (at_.slots.to (s1.trans kp.2).to) (s1.trans kp.2) qn⟩
end
end PL
/-! lists that hold the same things: == by what they are -/
namespace PL
open PySem PySem.Spec PyProof.Rows L2 PySem.SeqAt
/-- equal, things by where they lie -/
inductive EqV (K : PySem.W.Frag) (H : Hp) : Nat → V → V → Prop
  | same {n a} : EqV K H n (.ref a) (.ref a)
  | data {n x y d e} : Dp K H x d → Dp K H y e → d.plain = true → e.plain = true → PyData.eqv d e = true → d.depth ≤ n → EqV K H n x y
  | lst {n a b vs ws} : SqL K H a vs → SqL K H b ws → vs.length = ws.length → (∀ (i : Nat) (v w : V), vs[i]? = some v → ws[i]? = some w → EqV K H n v w) → EqV K H (n + 1) (.ref a) (.ref b)
  | tup {n a b vs ws} : SqT K H a vs → SqT K H b ws → vs.length = ws.length → (∀ (i : Nat) (v w : V), vs[i]? = some v → ws[i]? = some w → EqV K H n v w) → EqV K H (n + 1) (.ref a) (.ref b)
section
variable {X : Cx} {pins : List (Addr × Obj)} {s : Shared} {σ : L2.St} {H : Hp}
theorem Vals.at_ : ∀ {xs : List V} {vs : List Value}, Vals xs vs → ∀ {i : Nat} {v : Value}, vs[i]? = some v → ∃ x, xs[i]? = some x ∧ RelV x v
  | _, _, .nil, _, _, h => by simp at h
  | _, _, .cons r rs, 0, _, h => by
    have h := Option.some.inj h
    subst h
    exact ⟨_, rfl, r⟩
  | _, _, .cons r rs, i + 1, _, h => Vals.at_ rs (i := i) h
theorem all_true {n : Nat} : (List.range n).all (fun _ => true) = true := List.all_eq_true.mpr fun _ _ => rfl
theorem EqV.eqAt (I : Inv X pins σ H s) {n : Nat} {x y : V} (h : EqV X.K H n x y) : ∀ {A : Around} {v u : Value}, RelV x v → RelV y u → A.units + n < cLine → EqAt A s v u true := by
  induction h with
  | same =>
    intro A v u r1 r2 hu
    cases r1
    cases r2
    exact EqAt.same _
  | data h1 h2 p1 p2 e d =>
    intro A v u r1 r2 hu
    obtain ⟨as, q1⟩ := Dp.reads I _ _ v h1 r1
    obtain ⟨bs, q2⟩ := Dp.reads I _ _ u h2 r2
    have := eqAt_plain _ _ A s _ _ _ _ q1 q2 p1 p2 (by omega)
    rw [e] at this
    exact this
  | @lst n a b vs ws hH hB hl hi ih =>
    intro A v u r1 r2 hu
    cases r1
    cases r2
    obtain ⟨its, q1, hl1, _⟩ := I.list hH
    obtain ⟨its2, q2, hl2, _⟩ := I.list hB
    by_cases hab : a = b
    · subst hab
      exact EqAt.same _
    · have hsz : its.toArray.size = its2.toArray.size := by rw [List.size_toArray, List.size_toArray, ← q1.length, ← q2.length]; exact hl
      have := RcAt.lists (A := A) (e := fun _ => true) hl1.isList hl2.isList hsz (by omega) fun j j1 j2 => by
        obtain ⟨x1, e1, w1⟩ := Vals.at_ q1 (i := j) (v := its.toArray[j]) (by simp at j1 ⊢)
        obtain ⟨x2, e2, w2⟩ := Vals.at_ q2 (i := j) (v := its2.toArray[j]) (by simp at j2 ⊢)
        exact ih j x1 x2 e1 e2 w1 w2 (show A.in1.units + n < cLine from by show A.units + 1 + n < cLine; omega)
      rw [all_true] at this
      exact EqAt.of_refs hab this
  | @tup n a b vs ws hH hB hl hi ih =>
    intro A v u r1 r2 hu
    cases r1
    cases r2
    obtain ⟨its, q1, hl1, _⟩ := I.tuple hH
    obtain ⟨its2, q2, hl2, _⟩ := I.tuple hB
    by_cases hab : a = b
    · subst hab
      exact EqAt.same _
    · have hsz : its.toArray.size = its2.toArray.size := by rw [List.size_toArray, List.size_toArray, ← q1.length, ← q2.length]; exact hl
      have := RcAt.tuples (A := A) (e := fun _ => true) hl1 hl2 (by omega) fun j j1 j2 => by
        obtain ⟨x1, e1, w1⟩ := Vals.at_ q1 (i := j) (v := its.toArray[j]) (by simp at j1 ⊢)
        obtain ⟨x2, e2, w2⟩ := Vals.at_ q2 (i := j) (v := its2.toArray[j]) (by simp at j2 ⊢)
        exact ih j x1 x2 e1 e2 w1 w2 (show A.in1.units + n < cLine from by show A.units + 1 + n < cLine; omega)
      rw [all_true, hsz] at this
      simp at this
      exact EqAt.of_refs hab (by simpa using this)
end
mutual
/-- equal, cells by where they lie -/
inductive EqD : Nat → D → D → Prop
  | ptr {n a} : EqD n (.ptr a) (.ptr a)
  | data {n x y} : x.okd n = true → y.okd n = true → x.eqv y = true → EqD n x y
  | lst {n xs ys} : EqDL n xs ys → EqD (n + 1) (.lst xs) (.lst ys)
  | tup {n xs ys} : EqDL n xs ys → EqD (n + 1) (.tup xs) (.tup ys)
inductive EqDL : Nat → List D → List D → Prop
  | nil {n} : EqDL n [] []
  | cons {n x y xs ys} : EqD n x y → EqDL n xs ys → EqDL n (x :: xs) (y :: ys)
end
theorem EqDL.map {α : Type} {n : Nat} {f g : α → D} : ∀ xs : List α, (∀ x ∈ xs, EqD n (f x) (g x)) → EqDL n (xs.map f) (xs.map g)
  | [], _ => .nil
  | x :: xs, h => .cons (h x List.mem_cons_self) (EqDL.map xs fun y hy => h y (List.mem_cons_of_mem _ hy))
section
variable {K : PySem.W.Frag} {S : AS} {H : Hp}
theorem EqDL.lens {n : Nat} : ∀ {xs ys : List D}, EqDL n xs ys → xs.length = ys.length
  | _, _, .nil => rfl
  | _, _, .cons _ h => by rw [List.length_cons, List.length_cons, h.lens]
mutual
theorem EqD.v : ∀ {n : Nat} {x y : D} {v u : V}, Rep K S H v x → Rep K S H u y → EqD n x y → EqV K H n v u
  | _, _, _, _, _, .ptr, .ptr, .ptr => .same
  | _, _, _, _, _, r1, r2, .data h1 h2 e =>
    have p1 := D.plain_ok _ _ h1
    have p2 := D.plain_ok _ _ h2
    .data (Rep.dp _ _ r1 h1) (Rep.dp _ _ r2 h2) p1.1 p2.1 e p1.2
  | _, _, _, _, _, .lst a1 b1, .lst a2 b2, .lst h => .lst a1.sq a2.sq (by rw [b1.length, b2.length, h.lens]) (EqDL.v b1 b2 h)
  | _, _, _, _, _, .tup a1 b1, .tup a2 b2, .tup h => .tup a1.sq a2.sq (by rw [b1.length, b2.length, h.lens]) (EqDL.v b1 b2 h)
theorem EqDL.v : ∀ {n : Nat} {xs ys : List D} {vs us : List V}, Reps K S H vs xs → Reps K S H us ys → EqDL n xs ys → ∀ (i : Nat) (v w : V), vs[i]? = some v → us[i]? = some w → EqV K H n v w
  | _, _, _, _, _, .nil, .nil, .nil, _, _, _, h, _ => by simp at h
  | _, _, _, _, _, .cons r1 _, .cons r2 _, .cons h _, 0, v, w, e1, e2 => by
    have e1 := Option.some.inj e1
    have e2 := Option.some.inj e2
    subst e1 e2
    exact EqD.v r1 r2 h
  | _, _, _, _, _, .cons _ r1, .cons _ r2, .cons _ h, i + 1, v, w, e1, e2 => EqDL.v r1 r2 h i v w e1 e2
end
end
section
variable {X : Cx}
def rEqS (K : PySem.W.Frag) (k : Bool) : R2 := fun x y H Q => ∃ a b vs ws, x = .ref a ∧ y = .ref b ∧ SqL K H a vs ∧ SqL K H b ws ∧ vs.length = ws.length ∧ (∀ (i : Nat) (v w : V), vs[i]? = some v → ws[i]? = some w → EqV K H 50 v w) ∧ Q (.bl k) H
theorem op_eqS (hu : X.A.units + 64 < cLine) : OpR X (compareOp .Eq) (rEqS X.K true) := by
  intro pins s σ H x y v u Q I rx ry h
  obtain ⟨a, b, vs, ws, rfl, rfl, hH, hB, hl, hi, q⟩ := h
  cases rx
  cases ry
  obtain ⟨its, q1, hl1, _⟩ := I.list hH
  obtain ⟨its2, q2, hl2, _⟩ := I.list hB
  have hsz : its.toArray.size = its2.toArray.size := by rw [List.size_toArray, List.size_toArray, ← q1.length, ← q2.length]; exact hl
  have := RcAt.lists (A := X.A) (e := fun _ => true) hl1.isList hl2.isList hsz (by omega) fun j j1 j2 => by
    obtain ⟨x1, e1, w1⟩ := Vals.at_ q1 (i := j) (v := its.toArray[j]) (by simp at j1 ⊢)
    obtain ⟨x2, e2, w2⟩ := Vals.at_ q2 (i := j) (v := its2.toArray[j]) (by simp at j2 ⊢)
    exact (hi j x1 x2 e1 e2).eqAt I w1 w2 (show X.A.in1.units + 50 < cLine from by show X.A.units + 1 + 50 < cLine; omega)
  rw [all_true] at this
  exact this _ _ _ _ ⟨.bl _, H, I, rfl, q⟩
theorem op_neS (hu : X.A.units + 64 < cLine) : OpR X (compareOp .NotEq) (rEqS X.K false) := by
  intro pins s σ H x y v u Q I rx ry h
  obtain ⟨a, b, vs, ws, rfl, rfl, hH, hB, hl, hi, q⟩ := h
  cases rx
  cases ry
  obtain ⟨its, q1, hl1, _⟩ := I.list hH
  obtain ⟨its2, q2, hl2, _⟩ := I.list hB
  have hsz : its.toArray.size = its2.toArray.size := by rw [List.size_toArray, List.size_toArray, ← q1.length, ← q2.length]; exact hl
  have := RcNeAt.lists (A := X.A) (e := fun _ => true) hl1.isList hl2.isList hsz (by omega) fun j j1 j2 => by
    obtain ⟨x1, e1, w1⟩ := Vals.at_ q1 (i := j) (v := its.toArray[j]) (by simp at j1 ⊢)
    obtain ⟨x2, e2, w2⟩ := Vals.at_ q2 (i := j) (v := its2.toArray[j]) (by simp at j2 ⊢)
    exact (hi j x1 x2 e1 e2).eqAt I w1 w2 (show X.A.in1.units + 50 < cLine from by show X.A.units + 1 + 50 < cLine; omega)
  rw [all_true] at this
  exact this _ _ _ _ ⟨.bl _, H, I, rfl, q⟩
end
section
variable {c : Ctx} {Γ : Gam} {M : Cells} {a b : Expr} {pos : Pos} {R : Bool → Cells → Prop}
theorem wt_cmpS {op : CmpOp} {k : Bool} (ho : ∀ X : Cx, X.A.units + 64 < cLine → OpR X (compareOp op) (rEqS X.K k)) (hm : behindInMarks op b = false)
    (h : WE c a Γ M fun x M1 => WE c b Γ M1 fun y M2 => ∃ xs ys, View M2 x (.lst xs) ∧ View M2 y (.lst ys) ∧ EqDL 50 xs ys ∧ R k M2) : WT c (.Compare a [op] [b] pos) Γ M R := .mk fun X S σ H at_ Q' hq =>
  PT.to (pt_cmpR (ho X at_.is.hu) wE.pe wE.pe hm) (two h at_ fun v1 v2 H2 d1 d2 M2 c2 s2 r1 r2 ⟨xs, ys, w1, w2, e, q⟩ => by
    have q1 := w1.rep c2 r1
    have q2 := w2.rep c2 r2
    cases q1 with
    | lst a1 b1 =>
      cases q2 with
      | lst a2 b2 =>
        rw [at_.is.K]
        exact ⟨_, _, _, _, rfl, rfl, a1.sq, a2.sq, by rw [b1.length, b2.length, e.lens], EqDL.v b1 b2 e, _, rfl, hq _ _ _ c2 s2 q⟩)
theorem wt_eqS (h : WE c a Γ M fun x M1 => WE c b Γ M1 fun y M2 => ∃ xs ys, View M2 x (.lst xs) ∧ View M2 y (.lst ys) ∧ EqDL 50 xs ys ∧ R true M2) : WT c (.Compare a [.Eq] [b] pos) Γ M R := wt_cmpS (fun X => op_eqS) (nomark _) h
theorem wt_neS (h : WE c a Γ M fun x M1 => WE c b Γ M1 fun y M2 => ∃ xs ys, View M2 x (.lst xs) ∧ View M2 y (.lst ys) ∧ EqDL 50 xs ys ∧ R false M2) : WT c (.Compare a [.NotEq] [b] pos) Γ M R := wt_cmpS (fun X => op_neS) (nomark _) h
end
end PL
/-! an instance that was made within an expression, done -/
namespace PL
open PySem PySem.Spec PyProof.Rows L2
section
variable {c : Ctx} {Γ : Gam} {M : Cells} {e : Expr} {Q : D → Cells → Prop}
theorem we_frz (h : WE c e Γ M fun d M1 => ∃ (p C : Addr) (i : Nat) (fs : List (Str × D)) (M3 : Cells), d = .ptr p ∧ M1[i]? = some (p, .ins C fs) ∧ M1.eraseIdx i = M3 ∧ Q (.obj C fs) M3) : WE c e Γ M Q := .mk fun X S σ H at_ Q' hq =>
  h.run X S σ H at_ Q' fun v H' d M' c1 s1 r1 ⟨p, C, i, fs, M3, e1, hi, e3, q⟩ => by
    subst e1 e3
    cases r1
    obtain ⟨c2, r2, s2⟩ := c1.freezeO hi
    exact hq _ _ _ _ c2 (s1.trans s2) r2 q
theorem at_endC {M : Cells} {x : Addr × MO} : (M ++ [x])[M.length]? = some x := by
  rw [List.getElem?_append_right (Nat.le_refl _), Nat.sub_self]
  rfl
theorem erase_endC {M : Cells} {x : Addr × MO} : (M ++ [x]).eraseIdx M.length = M := by
  rw [List.eraseIdx_append_of_length_le (Nat.le_refl _), Nat.sub_self]
  simp
/-- cells that are looked at no more -/
theorem wss_sub {rest : List Stmt} {E : PEnds} {M3 : Cells} (sub : M3.Sublist M) (h : WSs c rest E Γ M3) : WSs c rest E Γ M := .mk fun X S σ H at_ Ds l => by
  have subd : (dom M3).Sublist (dom M) := sub.map _
  have st : Step M M3 H H := ⟨fun _ _ _ h => h, fun _ h => h, fun b hb => .inl (subd.subset hb)⟩
  have cr := at_.core
  have c1 : Core c.K S M3 H := ⟨cr.known, cr.nod.sublist subd, fun a ha => cr.dis a (subd.subset ha), fun q hq => CellAt.to st.to (fun _ e => e) (cr.cells q (sub.subset hq))⟩
  exact h.run X S σ H (at_.step c1 st) Ds (l.step st)
end
end PL
/-! texts -/
namespace PL
open PySem PySem.Spec PyProof.Rows L2
section
variable {c : Ctx} {Γ : Gam} {M : Cells} {a b e : Expr} {pos pos' p apos : Pos} {Q : D → Cells → Prop} {R : Bool → Cells → Prop} {x : Str}
theorem we_catS (h : WE c a Γ M fun x M1 => WE c b Γ M1 fun y M2 => ∃ s t : Str, x = .str s ∧ y = .str t ∧ s.length + t.length ≤ sizeLine ∧ Q (.str (s ++ t)) M2) : WE c (.BinOp a .Add b pos) Γ M Q := .mk fun X S σ H at_ Q' hq =>
  PE.to (pe_op op_add_str wE.pe wE.pe) (two h at_ fun v1 v2 H2 d1 d2 M2 c2 s2 r1 r2 ⟨s, t, e1, e2, hz, q⟩ => by
    subst e1 e2
    cases r1
    cases r2
    exact ⟨s, t, rfl, rfl, hz, hq _ _ _ _ c2 s2 .str q⟩)
/-- str(e), an int or a text -/
theorem we_strI (hg : GlC c.sc "str") (hm : c.mg "str" = none) (h : WE c e Γ M fun d M1 => ∃ i : Int, d = .int i ∧ i.natAbs.log2 < 1920 ∧ Q (.str (toString i)) M1)
    (he : ∀ env, starEach [e] env = (false, eval e env) :: starEach [] env := by intro _; rfl) : WE c (.Call (.Name "str" p) [e] [] pos) Γ M Q :=
  we_callT1 (fun X i => call_str_int) hg hm (by decide +kernel) (h.imp fun d M1 ⟨i, e1, hi, q⟩ S H v c1 r1 Q' hq => by
    subst e1; cases r1
    exact ⟨i, rfl, hi, hq _ _ _ _ c1 .refl .str q⟩) (he := he)
/-- int(e) of a text -/
theorem we_intT (hg : GlC c.sc "int") (hm : c.mg "int" = none) (h : WE c e Γ M fun d M1 => ∃ (s : Str) (n : Int), d = .str s ∧ PySem.intText? s = some n ∧ s.length ≤ 640 ∧ Q (.int n) M1)
    (he : ∀ env, starEach [e] env = (false, eval e env) :: starEach [] env := by intro _; rfl) : WE c (.Call (.Name "int" p) [e] [] pos) Γ M Q :=
  we_callT1 (fun X i => call_int_str) hg hm (by decide +kernel) (h.imp fun d M1 ⟨s, n, e1, hn, hl, q⟩ S H v c1 r1 Q' hq => by
    subst e1; cases r1
    exact ⟨s, n, rfl, hn, hl, hq _ _ _ _ c1 .refl .int q⟩) (he := he)
theorem we_lenS (hg : GlC c.sc "len") (hm : c.mg "len" = none) (h : WE c e Γ M fun d M1 => ∃ s : Str, d = .str s ∧ s.length ≤ sizeLine ∧ Q (.int (s.length : Int)) M1)
    (he : ∀ env, starEach [e] env = (false, eval e env) :: starEach [] env := by intro _; rfl) : WE c (.Call (.Name "len" p) [e] [] pos) Γ M Q :=
  we_callB1 (fun X i => call_len_str) hg hm (by decide +kernel) (h.imp fun d M1 ⟨s, e1, hl, q⟩ S H v c1 r1 Q' hq => by
    subst e1; cases r1
    exact ⟨s, rfl, hl, hq _ _ _ _ c1 .refl .int q⟩) (he := he)
/-- s.startswith(t) -/
theorem we_starts (h : WE c a Γ M fun x M1 => ∃ s : Str, x = .str s ∧ WE c e Γ M1 fun y M2 => ∃ t : Str, y = .str t ∧ Q (.bl (Txt.startswith s t)) M2)
    (hs : ∀ env, starEach [e] env = [(false, eval e env)] := by intro _; rfl) (hbase : ∀ env, attributeBase a "startswith" env (eval a env) = eval a env := by intro _; rfl) (hline : (apos.endLine == pos.line) = true := by rfl) :
    WE c (.Call (.Attribute a "startswith" apos) [e] [] pos) Γ M Q := .mk fun X S σ H at_ Q' hq =>
  PE.to (pe_m1 PySem.F.slot_str_startswith PySem.F.type_str_startswith mt_startswith wE.pe wE.pe (hs _) (hbase _) hline) (h.run X S σ H at_ _ fun v1 H1 d1 M1 c1 s1 r1 ⟨s, e1, h2⟩ => by
    subst e1; cases r1
    exact ⟨⟨s, rfl⟩, h2.run X S σ H1 (at_.step c1 s1) _ fun v2 H2 d2 M2 c2 s2 r2 ⟨t, e2, q⟩ => by
      subst e2; cases r2
      exact ⟨s, t, rfl, rfl, hq _ _ _ _ c2 (s1.trans s2) .bl q⟩⟩)
theorem reps_strsT {K : PySem.W.Frag} {A : AS} {H : Hp} : ∀ ys : List Str, Reps K A H (ys.map V.str) (ys.map D.str)
  | [] => .nil
  | _ :: ys => .cons .str (reps_strsT ys)
theorem strs_reps {K : PySem.W.Frag} {A : AS} {H : Hp} : ∀ {vs : List V} {ys : List Str}, Reps K A H vs (ys.map D.str) → vs = ys.map V.str
  | _, [], .nil => rfl
  | _, _ :: _, .cons r rs => by
    cases r
    rw [List.map_cons, strs_reps rs]
/-- s.split(t) -/
theorem we_split (h : WE c a Γ M fun x M1 => ∃ s : Str, x = .str s ∧ WE c e Γ M1 fun y M2 => ∃ t : Str, y = .str t ∧ (t.length == 0) = false ∧ s.length + 2 ≤ sizeLine ∧ Q (.lst ((Txt.split s t).map D.str)) M2)
    (hs : ∀ env, starEach [e] env = [(false, eval e env)] := by intro _; rfl) (hbase : ∀ env, attributeBase a "split" env (eval a env) = eval a env := by intro _; rfl) (hline : (apos.endLine == pos.line) = true := by rfl) :
    WE c (.Call (.Attribute a "split" apos) [e] [] pos) Γ M Q := .mk fun X S σ H at_ Q' hq =>
  PE.to (pe_split wE.pe wE.pe (hs _) (hbase _) hline) (h.run X S σ H at_ _ fun v1 H1 d1 M1 c1 s1 r1 ⟨s, e1, h2⟩ => by
    subst e1; cases r1
    exact ⟨⟨s, rfl⟩, h2.run X S σ H1 (at_.step c1 s1) _ fun v2 H2 d2 M2 c2 s2 r2 ⟨t, e2, ht, hz, q⟩ => by
      subst e2; cases r2
      exact ⟨s, t, rfl, rfl, ht, hz, fun q1 np => by
        obtain ⟨k1, k2, k3⟩ := fresh_lst (K := c.K) c2 np (reps_strsT (Txt.split s t))
        exact hq _ _ _ _ k1 ((s1.trans s2).trans k2) k3 q⟩⟩)
/-- s.partition(t) -/
theorem we_partition (h : WE c a Γ M fun x M1 => ∃ s : Str, x = .str s ∧ WE c e Γ M1 fun y M2 => ∃ t : Str, y = .str t ∧ (t.length == 0) = false ∧ s.length ≤ sizeLine ∧ Q (.tup [.str (Txt.partition s t).1, .str (Txt.partition s t).2.1, .str (Txt.partition s t).2.2]) M2)
    (hs : ∀ env, starEach [e] env = [(false, eval e env)] := by intro _; rfl) (hbase : ∀ env, attributeBase a "partition" env (eval a env) = eval a env := by intro _; rfl) (hline : (apos.endLine == pos.line) = true := by rfl) :
    WE c (.Call (.Attribute a "partition" apos) [e] [] pos) Γ M Q := .mk fun X S σ H at_ Q' hq =>
  PE.to (pe_partition wE.pe wE.pe (hs _) (hbase _) hline) (h.run X S σ H at_ _ fun v1 H1 d1 M1 c1 s1 r1 ⟨s, e1, h2⟩ => by
    subst e1; cases r1
    exact ⟨⟨s, rfl⟩, h2.run X S σ H1 (at_.step c1 s1) _ fun v2 H2 d2 M2 c2 s2 r2 ⟨t, e2, ht, hz, q⟩ => by
      subst e2; cases r2
      exact ⟨s, t, rfl, rfl, ht, hz, fun q1 np => by
        obtain ⟨k1, k2, k3⟩ := fresh_tup (K := c.K) (ds := [.str (Txt.partition s t).1, .str (Txt.partition s t).2.1, .str (Txt.partition s t).2.2]) c2 np (.cons .str (.cons .str (.cons .str .nil)))
        exact hq _ _ _ _ k1 ((s1.trans s2).trans k2) k3 q⟩⟩)
/-- s.join(xs) -/
theorem we_join (h : WE c a Γ M fun x M1 => ∃ s : Str, x = .str s ∧ WE c e Γ M1 fun y M2 => ∃ ys : List Str, View M2 y (.lst (ys.map D.str)) ∧ (ys.map (·.length)).sum + ys.length * s.length ≤ 16777216 ∧ Q (.str (Txt.join s ys)) M2)
    (hs : ∀ env, starEach [e] env = [(false, eval e env)] := by intro _; rfl) (hbase : ∀ env, attributeBase a "join" env (eval a env) = eval a env := by intro _; rfl) (hline : (apos.endLine == pos.line) = true := by rfl) :
    WE c (.Call (.Attribute a "join" apos) [e] [] pos) Γ M Q := .mk fun X S σ H at_ Q' hq =>
  PE.to (pe_join wE.pe wE.pe (hs _) (hbase _) hline) (h.run X S σ H at_ _ fun v1 H1 d1 M1 c1 s1 r1 ⟨s, e1, h2⟩ => by
    subst e1; cases r1
    exact ⟨⟨s, rfl⟩, h2.run X S σ H1 (at_.step c1 s1) _ fun v2 H2 d2 M2 c2 s2 r2 ⟨ys, w, hz, q⟩ => by
      have rr := w.rep c2 r2
      cases rr with
      | lst h1 h2 =>
        rw [at_.is.K]
        have e := strs_reps h2
        subst e
        exact ⟨s, _, ys, rfl, rfl, .inl h1.sq, hz, hq _ _ _ _ c2 (s1.trans s2) .str q⟩⟩)
/-- s[lo:] with a figure -/
theorem we_fromS {k : Int} {n : Nat} {p2 p3 : Pos} (h : WE c a Γ M fun x M1 => ∃ s : Str, x = .str s ∧ s.length ≤ sizeLine ∧ Q (.str (cutS s (some k) none)) M1) : WE c (.Subscript a (.Slice (some (.Constant (.int k) n p3)) none none p2) pos) Γ M Q := .mk fun X S σ H at_ Q' hq =>
  PE.to (pe_slice sl_str wE.pe (po_some pe_int) po_none) (h.run X S σ H at_ _ fun v1 H1 d1 M1 c1 s1 r1 ⟨s, e1, hl, q⟩ => by
    subst e1; cases r1
    exact ⟨k, rfl, s, rfl, hl, hq _ _ _ _ c1 s1 .str q⟩)
/-- s[i] -/
theorem we_ixS (h : WE c a Γ M fun x M1 => WE c b Γ M1 fun y M2 => ∃ (s : Str) (i : Int) (z : Nat), x = .str s ∧ y = .int i ∧ s.length ≤ sizeLine ∧ L2.atI s.cps.toList i = some z ∧ Q (.str ⟨#[z]⟩) M2)
    (hs : PlainIx b := by exact fun _ _ => rfl) : WE c (.Subscript a b pos) Γ M Q := .mk fun X S σ H at_ Q' hq =>
  PE.to (pe_ix ix_str wE.pe wE.pe hs) (two h at_ fun v1 v2 H2 d1 d2 M2 c2 s2 r1 r2 ⟨s, i, z, e1, e2, hz, hi, q⟩ => by
    subst e1 e2
    cases r1
    cases r2
    exact ⟨s, i, z, rfl, rfl, hz, hi, hq _ _ _ _ c2 s2 .str q⟩)
/-- s in t -/
theorem we_inS (h : WE c a Γ M fun x M1 => WE c b Γ M1 fun y M2 => ∃ s t : Str, x = .str s ∧ y = .str t ∧ Q (.bl (!(Builtin.Str.occurrences t s 0 t.length 1).isEmpty)) M2) (hm : behindInMarks .In b = false := by rfl) : WE c (.Compare a [.In] [b] pos) Γ M Q := .mk fun X S σ H at_ Q' hq =>
  PE.to (pe_cmpR op_in_str wE.pe wE.pe hm) (two h at_ fun v1 v2 H2 d1 d2 M2 c2 s2 r1 r2 ⟨s, t, e1, e2, q⟩ => by
    subst e1 e2
    cases r1
    cases r2
    exact ⟨s, t, rfl, rfl, hq _ _ _ _ c2 s2 .bl q⟩)
end
section
theorem lc_strS {x : Str} {g : TG} {tt : TT} {te : TE} {vs : List Nat} {σ : L2.St} {H1 : Hp} {D : Addr} {Qd : Hp → Prop} (Pv : Nat → Hp → Prop) (h0 : Pv 0 (upd H1 D (.lst [])))
    (hs : ∀ i z H, x.cps[i]? = some z → Pv i H → g (.str ⟨#[z]⟩) (wipe σ vs) H fun σ2 H2 => wipe σ2 vs = wipe σ vs ∧ tt σ2 H2 fun b H3 =>
      if b = true then te σ2 H3 fun y H4 => ∃ acc, H4 D = some (.lst acc) ∧ acc.length < sizeLine ∧ Pv (i + 1) (upd H4 D (.lst (acc ++ [y]))) else Pv (i + 1) H3) (hd : ∀ H, Pv x.cps.size H → Qd H) :
    ∃ W : Nat → Nat → Hp → Prop, (∃ m, W 0 m (upd H1 D (.lst []))) ∧ ∀ i m H, W i m H →
      ((Its x).stop i H ∧ Qd H) ∨ ((Its x).go i H ∧ ∃ Nx : Hp → Prop, (∀ H', Nx H' → ∃ m', m' < m ∧ W (i + 1) m' H') ∧ ∀ y H', (Its x).yld i H y H' → g y (wipe σ vs) H' fun σ2 H2 => wipe σ2 vs = wipe σ vs ∧ tt σ2 H2 fun b H3 =>
        if b = true then te σ2 H3 fun y H4 => ∃ acc, H4 D = some (.lst acc) ∧ acc.length < sizeLine ∧ Nx (upd H4 D (.lst (acc ++ [y]))) else Nx H3) := by
  refine ⟨fun i m H => m = x.cps.size - i ∧ i ≤ x.cps.size ∧ Pv i H, ⟨x.cps.size, by simp, Nat.zero_le _, h0⟩, ?_⟩
  rintro i m H ⟨rfl, hi, p⟩
  by_cases hlt : i < x.cps.size
  · refine .inr ⟨hlt, Pv (i + 1), fun H' p' => ⟨x.cps.size - (i + 1), by omega, rfl, hlt, p'⟩, fun y H' hy => ?_⟩
    obtain ⟨e, z, hz, e2⟩ := hy
    subst e e2
    exact hs i z _ hz p
  · have e : i = x.cps.size := by omega
    subst e
    exact .inl ⟨Nat.le_refl _, hd H p⟩
variable {c : Ctx} {X : Cx} {S : AS} {Γ : Gam} {σ : L2.St} {M : Cells} {iter tg elt : Expr} {ifs : List Expr} {scope : Scope} {pos : Pos} {own : List (Str × Nat)} {Q : D → Cells → Prop} {Inv : List Nat → List D → Cells → Prop}
/-- a text's signs, as texts -/
def sgD (z : Nat) : D := .str ⟨#[z]⟩
theorem lcS_core (is_ : c.Is X) (hcm : c.calm = true) {M1 : Cells} {H1 : Hp} {x : Str} (cr : Core c.K S M1 H1) (sl : Slots c.K (av S M1) H1 Γ σ)
    (h : LcQ c scope (own.map (·.2)) tg elt ifs Γ x.cps.toList sgD Inv M1 Q) {Q' : VK} (hq : ∀ v H' d M', Core c.K S M' H' → Step M1 M' H1 H' → Rep c.K (av S M') H' v d → Q d M' → Q' v H') :
    ∀ D, H1 D = none → ∃ W : Nat → Nat → Hp → Prop, (∃ m, W 0 m (upd H1 D (.lst []))) ∧ ∀ i m H, W i m H →
      ((Its x).stop i H ∧ Q' (.ref D) H) ∨ ((Its x).go i H ∧ ∃ Nx : Hp → Prop, (∀ H', Nx H' → ∃ m', m' < m ∧ W (i + 1) m' H') ∧ ∀ y H', (Its x).yld i H y H' → gB X scope tg y (wipe σ (own.map (·.2))) H' fun σ2 H2 => wipe σ2 (own.map (·.2)) = wipe σ (own.map (·.2)) ∧ ttB X scope ifs σ2 H2 fun b H3 =>
        if b = true then tB X scope elt σ2 H3 fun y H4 => ∃ acc, H4 D = some (.lst acc) ∧ acc.length < sizeLine ∧ Nx (upd H4 D (.lst (acc ++ [y]))) else Nx H3) := by
  intro D0 hn
  obtain ⟨hz, h0, hs, hd⟩ := h
  have hl : x.cps.size = x.cps.toList.length := by simp
  obtain ⟨Pv, p0, pst, pt, pd⟩ := lc_whole (Qd := Q') (D0 := D0) hn is_ hcm sl cr hz h0 hs fun acc M2 H2 l i c2 s2 r2 => hq _ _ _ _ c2 s2 r2 (hd acc M2 l i)
  refine lc_strS (x := x) (Qd := Q' (.ref D0)) Pv p0 (fun i z H hv p => ?_) (fun H p => pd H (by rw [← hl]; exact p))
  exact pt i z H (.str ⟨#[z]⟩) (by simpa using hv) p fun M2 _ s2 => .str
theorem we_lcS (own : List (Str × Nat)) (hb : blkC c.N c.sc scope own = true) (x : Str) (Inv : List Nat → List D → Cells → Prop) (h : WE c iter Γ M fun d M1 => d = .str x ∧ LcQ c scope (own.map (·.2)) tg elt ifs Γ x.cps.toList sgD Inv M1 Q)
    (hs : ∀ env x, foldedSetIterable iter env x = pure x := by intro _ _; rfl) (hcm : c.calm = true := by first | rfl | assumption) : WE c (.ListComp elt [⟨tg, iter, ifs, 0⟩] scope pos) Γ M Q := .mk fun X S σ H at_ Q' hq =>
  PE.to (pe_lc (at_.is.calm hcm) at_.is.nd (pi_str wE.pe) (at_.blkOk hb) (fun s H C cl fp => gB.pg s H C cl fp) (fun s H C cl fp => ttB.pts s H C cl fp) (fun s H C cl fp => tB.pe s H C cl fp) (hs _)) (h.run X S σ H at_ _ fun v1 H1 d1 M1 c1 s1 r1 ⟨e1, q⟩ => by
    subst e1
    cases r1
    exact ⟨_, rfl, lcS_core at_.is hcm c1 (at_.slots.to s1.to) q fun v H' d M' c2 s2 r2 q2 => hq v H' d M' c2 (s1.trans s2) r2 q2⟩)
end
end PL
/-! a, *b = a list -/
namespace PL
open PySem PySem.Spec PyProof.Rows L2 PySem.W
section
variable {prog : Program} {w : World} {A : Around} {E : Value → Shared → Prop} {s : Shared}
theorem star_items {l : Addr} {items : Array Value} {Q : List Value → Shared → Prop} (hh : A.handled = none) (hl : s.heap.IsList l items) (h0 : 0 < items.size) (hz : items.size ≤ sizeLine)
    (hQ : ∀ (h' : Heap) (tk : Nat), (∀ b o, s.heap.get? b = some o → h'.get? b = some o) → Q [items[0], .ref h'.objs.size] { s with heap := h'.push { cls := .type "list", data := .seq (items.toList.drop 1).toArray }, toks := tk }) : wpAny (model prog w) A (unpackItems (.ref l) 2 (some 1)) Q E s := by
  have hlt : l ≠ s.heap.objs.size := by obtain ⟨o, ho, _⟩ := hl; exact Nat.ne_of_lt (Heap.lt_size ho)
  unfold unpackItems
  refine wpAny_bind ?_
  unfold notIterableAtAll
  refine wpAny_bind (wpAny_specialOf hl.typeIs slot_list_iter.lookup ?_)
  refine wpAny_pure ?_
  simp only [Bool.false_eq_true, if_false]
  refine wpAny_bind (wpAny_holding (wpAny_pyIter_list hl ?_))
  refine wpAny_bind (wpAny_holding (kun_draw hlt 1 0 _ _ ⟨_, Heap.get?_push_size _ rfl, rfl, rfl⟩ (hl.push _) (by omega) fun h₁ hit₁ hs₁ => ?_))
  have hl₁ : h₁.IsList l items := (hl.push _).extBut hs₁.extBut hlt
  rw [Nat.zero_add] at hit₁
  have hit₁' := hit₁
  obtain ⟨oi, hoi, _⟩ := hit₁'
  have hl₁' := hl₁
  obtain ⟨ol, hol, _⟩ := hl₁'
  rw [List.drop_zero]
  have hfl : (items.toList.take 1).length = 1 := by rw [List.length_take, Array.length_toList]; omega
  rw [if_neg (show ¬ ((items.toList.take 1).length < 1) by rw [hfl]; omega)]
  refine wpAny_bind (wpAny_holding (kun_collect (s := { s with heap := h₁ }) (T := "list_iterator") (.inr (.inr (.inl rfl))) (Walks.list (A := A.in1) hh s.heap.objs.size l hlt items) (fun j u st => st.1.typeIs) (k := 1) (by omega) ⟨hit₁, hl₁⟩ (Heap.lt_size hoi) (Heap.lt_size hol) (fun h₂ tk hk => ?_) hz))
  have hrl : (items.toList.drop 1).length = items.size - 1 := by rw [List.length_drop, Array.length_toList]
  show wpAny _ _ (if (items.toList.drop 1).length < 2 - 1 - 1 then _ else _) _ _ _
  rw [if_neg (by omega)]
  show wpAny _ _ (newList ((items.toList.drop 1).take ((items.toList.drop 1).length - (2 - 1 - 1))) >>= fun d => pure (items.toList.take 1 ++ [d] ++ (items.toList.drop 1).drop ((items.toList.drop 1).length - (2 - 1 - 1)))) _ _ _
  have e1 : (items.toList.drop 1).length - (2 - 1 - 1) = (items.toList.drop 1).length := by omega
  rw [e1, List.take_length, List.drop_length]
  have hk2 : ∀ b o, s.heap.get? b = some o → h₂.get? b = some o := fun b o e => by
    have hb : b ≠ s.heap.objs.size := Nat.ne_of_lt (Heap.lt_size e)
    exact hk b o hb (hs₁.extBut b o hb (Heap.get?_push_of_some _ e))
  have et : items.toList.take 1 = [items[0]] := by
    rw [List.take_one]
    have : items.toList.head? = some items[0] := by
      rw [List.head?_eq_getElem?, Array.getElem?_toList, Array.getElem?_eq_getElem h0]
    rw [this]
    rfl
  refine wpAny_bind (wpAny_newList ?_ (by rw [hrl]; omega))
  refine wpAny_pure ?_
  rw [et]
  exact hQ h₂ tk hk2
end
end PL
namespace L2
open PySem PySem.Spec PyProof.Rows
section
variable {X : Cx} {pos : Pos}
/-- a, *b = a list -/
def gStar (K : PySem.W.Frag) (t : TGs) : TG := fun v σ H Q => ∃ a x xs, v = .ref a ∧ SqL K H a (x :: xs) ∧ ∀ p, H p = none → t [x, .ref p] σ (upd H p (.lst xs)) Q
theorem pg_star {es es' : List Expr} {k : Nat} {t : TGs} (hc : X.calm = true) (h : PGs X es' t)
    (hn : (assignEach es X.env).length = 2) (hst : (assignEach es X.env).findIdx? (·.1) = some 1) (he : (assignEach es X.env).map (·.2) = (assignEach es' X.env).map (·.2)) : PG X (.Tuple es k pos) (gStar X.K t) := by
  refine ⟨fun pins s σ H v u Q I r hw => ?_⟩
  obtain ⟨a, x, xs, e1, hq, hw⟩ := hw
  subst e1
  cases r
  obtain ⟨its, rv, pl, hz⟩ := I.list hq
  have hl' : s.heap.IsList a its.toArray := by
    obtain ⟨o, m, e, c, d, q⟩ := pl
    exact ⟨o, e, c, m, q⟩
  cases rv with
  | @cons _ u0 _ us r0 rr =>
    have hzl : (u0 :: us).toArray.size ≤ sizeLine := by
      have := rr.length
      simp only [List.length_cons, List.size_toArray] at hz ⊢
      omega
    rw [PyProof.Rows.assign_Tuple]
    refine wpAny_bind (wpAny_standAt ?_)
    unfold unpack
    rw [hn, hst, he]
    refine wpAny_bind (wpAny_holding (PL.star_items (I.ok.hd hc) hl' (by simp) hzl fun h' tk hk => ?_))
    have I1 : Inv X pins σ H { s with heap := h', toks := tk } := I.kept (t' := tk) hk
    have I2 := I1.laid (a := h'.objs.size) (o := .lst xs) (h' := h'.push { cls := .type "list", data := .seq us.toArray }) (t' := tk) (fun b u q => Heap.get?_push_of_some _ q) (Nat.le_refl _) ⟨by have := rr.length; simp only [List.length_cons] at hz; omega, us, _, rr, Heap.get?_push_size _ rfl⟩
    exact h.run pins _ σ _ [x, .ref h'.objs.size] _ Q I2 (.cons r0 (.cons rfl .nil)) (hw _ I1.fresh)
end
end L2
namespace PL
open PySem PySem.Spec PyProof.Rows L2
section
variable {c : Ctx} {Γ : Gam} {M : Cells} {tgs tgs' : List Expr} {d : D} {ds : List D} {pos : Pos} {G : Gam → Cells → Prop}
theorem PG.to' {X : Cx} {e : Expr} {t : TG} (h : PG X e t) {v : V} {σ : L2.St} {H : Hp} {Q : L2.St → Hp → Prop} (q : t v σ H Q) : wG X e v σ H Q := PG.to h q
/-- a, *b = a list; b a list of its own -/
theorem wg_star {k : Nat} (tgs' : List Expr) (h : WGs c tgs' [d, .lst ds] Γ M G) (hn : ∀ env, (assignEach tgs env).length = 2 := by intro _; rfl) (hst : ∀ env, (assignEach tgs env).findIdx? (·.1) = some 1 := by intro _; rfl) (he : ∀ env, (assignEach tgs env).map (·.2) = (assignEach tgs' env).map (·.2) := by intro _; rfl) (hcm : c.calm = true := by first | rfl | assumption) : WG c (.Tuple tgs k pos) (.lst (d :: ds)) Γ M G := .mk fun X S σ H at_ v r Q' hq => by
  cases r with
  | lst h1 h2 =>
    cases h2 with
    | cons r0 rs =>
      rename_i v0 vs0
      refine PG.to (pg_star (at_.is.calm hcm) wGs.pgs (hn _) (hst _) (he _)) ⟨_, _, _, rfl, (by rw [at_.is.K]; exact h1.sq), fun p np => ?_⟩
      · have c1 := at_.core.new (o := .lst vs0) np
        have st := Step.same (M := M) (same_new (o := .lst vs0) np)
        exact h.run X S σ _ (at_.step c1 st) _ (.cons (r0.to st.to) (.cons (.lst (.inl ⟨at_.core.free np, .inl upd_same⟩) (rs.to st.to)) .nil)) Q' fun σ2 H2 Γ2 M2 c2 sl2 st2 q2 => hq _ _ _ _ c2 sl2 (st.trans st2) q2
end
end PL
/-! a sign in a text; str of a text -/
namespace PL
open PySem PySem.Spec PyProof.Rows L2
section
variable {c : Ctx} {Γ : Gam} {M : Cells} {a b e : Expr} {pos p : Pos} {Q : D → Cells → Prop}
theorem we_inSg (h : WE c a Γ M fun x M1 => WE c b Γ M1 fun y M2 => ∃ (z : Nat) (t : Str), x = .str ⟨#[z]⟩ ∧ y = .str t ∧ Q (.bl (decide (z ∈ t.cps.toList))) M2) (hm : behindInMarks .In b = false := by rfl) : WE c (.Compare a [.In] [b] pos) Γ M Q := .mk fun X S σ H at_ Q' hq =>
  PE.to (pe_cmpR op_in_sign wE.pe wE.pe hm) (two h at_ fun v1 v2 H2 d1 d2 M2 c2 s2 r1 r2 ⟨s, t, e1, e2, q⟩ => by
    subst e1 e2
    cases r1
    cases r2
    exact ⟨s, t, rfl, rfl, hq _ _ _ _ c2 s2 .bl q⟩)
theorem we_strS (hg : GlC c.sc "str") (hm : c.mg "str" = none) (h : WE c e Γ M fun d M1 => ∃ s : Str, d = .str s ∧ Q (.str s) M1)
    (he : ∀ env, starEach [e] env = (false, eval e env) :: starEach [] env := by intro _; rfl) : WE c (.Call (.Name "str" p) [e] [] pos) Γ M Q :=
  we_callT1 (fun X i => SkE.call_str_str) hg hm (by decide +kernel) (h.imp fun d M1 ⟨s, e1, q⟩ S H v c1 r1 Q' hq => by
    subst e1; cases r1
    exact ⟨s, rfl, hq _ _ _ _ c1 .refl .str q⟩) (he := he)
end
end PL
namespace PL
open PySem PySem.Spec PyProof.Rows L2
section
variable {c : Ctx} {Γ : Gam} {M : Cells} {t1 t2 : Expr} {d : D} {ds : List D} {pos sp : Pos} {G : Gam → Cells → Prop}
theorem wg_star2 {k : Nat} (h : WGs c [t1, t2] [d, .lst ds] Γ M G) (hn : ∀ env, (assignEach [t1, .Starred t2 sp] env).length = 2 := by intro _; rfl) (hst : ∀ env, (assignEach [t1, .Starred t2 sp] env).findIdx? (·.1) = some 1 := by intro _; rfl) (he : ∀ env, (assignEach [t1, .Starred t2 sp] env).map (·.2) = (assignEach [t1, t2] env).map (·.2) := by intro _; rfl) (hcm : c.calm = true := by first | rfl | assumption) : WG c (.Tuple [t1, .Starred t2 sp] k pos) (.lst (d :: ds)) Γ M G := wg_star [t1, t2] h hn hst he hcm
end
end PL
namespace PL
open PySem PySem.Spec PyProof.Rows L2
section
variable {c : Ctx} {Γ : Gam} {M : Cells} {a e : Expr} {pos apos : Pos} {Q : D → Cells → Prop}
theorem we_splitE (h : WE c a Γ M fun x M1 => ∃ s : Str, x = .str s ∧ WE c e Γ M1 fun y M2 => ∃ (t : Str) (ws : List Str), y = .str t ∧ (t.length == 0) = false ∧ s.length + 2 ≤ sizeLine ∧ Txt.split s t = ws ∧ Q (.lst (ws.map D.str)) M2)
    (hs : ∀ env, starEach [e] env = [(false, eval e env)] := by intro _; rfl) (hbase : ∀ env, attributeBase a "split" env (eval a env) = eval a env := by intro _; rfl) (hline : (apos.endLine == pos.line) = true := by rfl) :
    WE c (.Call (.Attribute a "split" apos) [e] [] pos) Γ M Q :=
  we_split (h.imp fun x M1 ⟨s, e1, h2⟩ => ⟨s, e1, h2.imp fun y M2 ⟨t, ws, e2, hl, hz, e3, q⟩ => ⟨t, e2, hl, hz, by rw [e3]; exact q⟩⟩) hs hbase hline
theorem we_joinE (h : WE c a Γ M fun x M1 => ∃ s : Str, x = .str s ∧ WE c e Γ M1 fun y M2 => ∃ (ys : List Str) (z : Str), View M2 y (.lst (ys.map D.str)) ∧ (ys.map (·.length)).sum + ys.length * s.length ≤ 16777216 ∧ Txt.join s ys = z ∧ Q (.str z) M2)
    (hs : ∀ env, starEach [e] env = [(false, eval e env)] := by intro _; rfl) (hbase : ∀ env, attributeBase a "join" env (eval a env) = eval a env := by intro _; rfl) (hline : (apos.endLine == pos.line) = true := by rfl) :
    WE c (.Call (.Attribute a "join" apos) [e] [] pos) Γ M Q :=
  we_join (h.imp fun x M1 ⟨s, e1, h2⟩ => ⟨s, e1, h2.imp fun y M2 ⟨ys, z, v, hz, e3, q⟩ => ⟨ys, v, hz, by rw [e3]; exact q⟩⟩) hs hbase hline
end
end PL
/-! numbers and looks as texts -/
namespace TX
open PySem PySem.Spec PyProof.Rows L2 PL TL
open DK (Look)
/-- the signs of an int -/
def intL (n : Int) : List Nat := if n < 0 then 45 :: numL n.natAbs else numL n.natAbs
def iS (n : Int) : Str := Str.ofString (toString n)
theorem tl_iS (n : Int) : tl (iS n) = intL n := by
  unfold iS intL
  by_cases h : n < 0
  · rw [if_pos h, PyProof.Rows.toString_neg h, tl_ofString]
    have e : (0 - n) = ((n.natAbs : Nat) : Int) := by omega
    rw [e]
    have := tl_num n.natAbs
    rw [tl_ofString] at this
    rw [String.toList_append, List.map_append, this]
    rfl
  · rw [if_neg h]
    have e : n = ((n.natAbs : Nat) : Int) := by omega
    have := tl_num n.natAbs
    rw [← e] at this
    exact this
theorem numL_canon : ∀ {l : List Nat}, NumText.AllDigits l → l ≠ [] → (l.head? ≠ some 48 ∨ l = [48]) → l = numL (NumText.digitsVal l) := by
  have key : ∀ (k : Nat) (l : List Nat), l.length = k → NumText.AllDigits l → l ≠ [] → l.head? ≠ some 48 → l = numL (NumText.digitsVal l) ∧ 0 < NumText.digitsVal l := by
    intro k
    induction k with
    | zero => intro l hl _ hn _; exact absurd (List.length_eq_zero_iff.mp hl) hn
    | succ k ih =>
      intro l hl hd hn hh
      obtain ⟨r, c, rfl⟩ : ∃ r c, l = r ++ [c] := ⟨l.dropLast, l.getLast hn, (List.dropLast_concat_getLast hn).symm⟩
      have hc := hd c (by simp)
      have ev : NumText.digitsVal (r ++ [c]) = NumText.digitsVal r * 10 + (c - 48) := by
        unfold NumText.digitsVal
        rw [List.foldl_append]
        rfl
      cases r with
      | nil =>
        have h48 : c ≠ 48 := fun e => hh (by rw [e]; rfl)
        have e0 : NumText.digitsVal ([] ++ [c]) = c - 48 := by rw [ev]; show 0 * 10 + (c - 48) = _; omega
        rw [e0, numL_lt (by omega)]
        refine ⟨?_, by omega⟩
        show [c] = [48 + (c - 48)]
        rw [show 48 + (c - 48) = c by omega]
      | cons a r =>
        obtain ⟨e, hp⟩ := ih (a :: r) (by simp at hl ⊢; omega) (fun z hz => hd z (List.mem_append_left _ hz)) (by simp) hh
        rw [ev]
        have h10 : 10 ≤ NumText.digitsVal (a :: r) * 10 + (c - 48) := by omega
        rw [numL_step h10, show (NumText.digitsVal (a :: r) * 10 + (c - 48)) / 10 = NumText.digitsVal (a :: r) by omega, ← e, show 48 + (NumText.digitsVal (a :: r) * 10 + (c - 48)) % 10 = c by omega]
        exact ⟨rfl, by omega⟩
  intro l hd hn h
  rcases h with h | h
  · exact (key _ l rfl hd hn h).1
  · subst h
    rw [show NumText.digitsVal [48] = 0 by decide, numL_lt (by omega)]
theorem numL_head {n : Nat} (h : 0 < n) : (numL n).head? ≠ some 48 := by
  induction n using Nat.strongRecOn with
  | _ n ih =>
    by_cases h10 : n < 10
    · rw [numL_lt h10]
      simp
      omega
    · rw [numL_step (by omega), List.head?_append]
      have hne := numL_ne (n / 10)
      cases e : numL (n / 10) with
      | nil => exact absurd e hne
      | cons c r =>
        have := ih (n / 10) (by omega) (by omega)
        rw [e] at this
        exact this
def isDig (c : Nat) : Bool := decide (48 ≤ c ∧ c ≤ 57)
/-- a word behind its minus -/
def figs (w : List Nat) : List Nat := if w.head? = some 45 then w.drop 1 else w
/-- the number that a word writes -/
def numIn (w : List Nat) : Option Int :=
  if (0 < (figs w).length ∧ (figs w).length ≤ 60) ∧ (figs w).all isDig = true then
    if (figs w).head? ≠ some 48 ∨ w = [48] then some (if w.head? = some 45 then -((NumText.digitsVal (figs w) : Nat) : Int) else ((NumText.digitsVal (figs w) : Nat) : Int)) else none
  else none
theorem all_dig {l : List Nat} : l.all isDig = true ↔ NumText.AllDigits l := by
  rw [List.all_eq_true]
  constructor
  · intro h c hc
    exact of_decide_eq_true (h c hc)
  · intro h c hc
    exact decide_eq_true (h c hc)
theorem numL_no45 (n : Nat) : (numL n).head? ≠ some 45 := fun h => by
  have : 45 ∈ numL n := List.mem_of_mem_head? h
  exact numL_free (.inl (by decide)) this
theorem figs_int (n : Int) : figs (intL n) = numL n.natAbs := by
  unfold figs intL
  by_cases h : n < 0
  · rw [if_pos h]
    rfl
  · rw [if_neg h, if_neg (numL_no45 _)]
theorem head_int (n : Int) : (intL n).head? = some 45 ↔ n < 0 := by
  unfold intL
  by_cases h : n < 0
  · rw [if_pos h]
    simp [h]
  · rw [if_neg h]
    exact ⟨fun e => absurd e (numL_no45 _), fun e => absurd e h⟩
theorem numIn_int {n : Int} (h : n.natAbs < 10 ^ 60) : numIn (intL n) = some n := by
  unfold numIn
  rw [figs_int]
  have h1 : 0 < (numL n.natAbs).length := List.length_pos_iff.mpr (numL_ne _)
  have h2 := numL_len (n := n.natAbs) (k := 60) (by decide) h
  rw [if_pos ⟨⟨h1, h2⟩, all_dig.mpr (numL_digits _)⟩]
  have h3 : (numL n.natAbs).head? ≠ some 48 ∨ intL n = [48] := by
    rcases Nat.eq_zero_or_pos n.natAbs with e | e
    · right
      have : n = 0 := by omega
      subst this
      unfold intL
      rw [if_neg (by omega)]
      exact numL_lt (by decide)
    · exact .inl (numL_head e)
  rw [if_pos h3, numL_val]
  by_cases h0 : n < 0
  · rw [if_pos ((head_int n).mpr h0)]
    congr 1
    omega
  · rw [if_neg (fun e => h0 ((head_int n).mp e))]
    congr 1
    omega
/-- a word that writes a number is its writing -/
theorem numIn_some {w : List Nat} {n : Int} (h : numIn w = some n) : w = intL n ∧ n.natAbs < 10 ^ 60 := by
  unfold numIn at h
  split at h
  · rename_i h1
    split at h
    · rename_i h2
      obtain ⟨⟨h3, h4⟩, h5⟩ := h1
      have hd := all_dig.mp h5
      have hne := List.length_pos_iff.mp h3
      have hv := Option.some.inj h
      have lt : NumText.digitsVal (figs w) < 10 ^ 60 := by
        have key : ∀ (l : List Nat), NumText.AllDigits l → NumText.digitsVal l < 10 ^ l.length := by
          have key2 : ∀ (k : Nat) (l : List Nat), l.length = k → NumText.AllDigits l → NumText.digitsVal l < 10 ^ k := by
            intro k
            induction k with
            | zero => intro l hl _; rw [List.length_eq_zero_iff.mp hl]; decide
            | succ k ih =>
              intro l hl hd
              have hn : l ≠ [] := fun e => by rw [e] at hl; cases hl
              obtain ⟨r, c, rfl⟩ : ∃ r c, l = r ++ [c] := ⟨l.dropLast, l.getLast hn, (List.dropLast_concat_getLast hn).symm⟩
              have hc := hd c (by simp)
              have ev : NumText.digitsVal (r ++ [c]) = NumText.digitsVal r * 10 + (c - 48) := by
                unfold NumText.digitsVal
                rw [List.foldl_append]
                rfl
              have := ih r (by simp at hl; omega) fun z hz => hd z (List.mem_append_left _ hz)
              rw [ev, Nat.pow_succ]
              omega
          intro l hd
          exact key2 _ l rfl hd
        exact Nat.lt_of_lt_of_le (key _ hd) (Nat.pow_le_pow_right (by decide) h4)
      by_cases h6 : w.head? = some 45
      · rw [if_pos h6] at hv
        have ef : figs w = w.drop 1 := by unfold figs; rw [if_pos h6]
        have ew : w = 45 :: figs w := by
          rw [ef]
          cases w with
          | nil => cases h6
          | cons c r => cases h6; rfl
        have h7 : (figs w).head? ≠ some 48 := by
          rcases h2 with z | z
          · exact z
          · rw [z] at h6
            cases h6
        have ec := numL_canon hd hne (.inl h7)
        have hp : 0 < NumText.digitsVal (figs w) := by
          rcases Nat.eq_zero_or_pos (NumText.digitsVal (figs w)) with e | e
          · rw [e, numL_lt (by decide)] at ec
            rw [ec] at h7
            exact absurd rfl h7
          · exact e
        subst hv
        refine ⟨?_, by omega⟩
        unfold intL
        rw [if_pos (by omega), show (-((NumText.digitsVal (figs w) : Nat) : Int)).natAbs = NumText.digitsVal (figs w) by omega, ← ec]
        exact ew
      · rw [if_neg h6] at hv
        have ef : figs w = w := by unfold figs; rw [if_neg h6]
        rw [ef] at hv hd hne h2 lt
        have ec := numL_canon hd hne h2
        subst hv
        refine ⟨?_, by omega⟩
        unfold intL
        rw [if_neg (by omega), show (((NumText.digitsVal w : Nat) : Int)).natAbs = NumText.digitsVal w by omega]
        exact ec
    · cases h
  · cases h
/-- int(word) -/
theorem int_of {x : Str} {n : Int} (h : numIn (tl x) = some n) : intText? x = some n ∧ x.length ≤ 640 := by
  obtain ⟨e, hb⟩ := numIn_some h
  have hl : (numL n.natAbs).length ≤ 60 := numL_len (by decide) hb
  have ex : x.length ≤ 61 := by
    rw [len_tl, e]
    unfold intL
    split
    · rw [List.length_cons]; omega
    · omega
  refine ⟨?_, by omega⟩
  unfold intL at e
  by_cases h0 : n < 0
  · rw [if_pos h0] at e
    rw [intText_neg e (numL_digits _) (numL_ne _) (by omega), numL_val]
    congr 1
    omega
  · rw [if_neg h0] at e
    have e' : x.cps.toList = numL n.natAbs := e
    rw [intText_digits (by rw [e']; exact numL_digits _) (by rw [e']; exact numL_ne _) (by omega), e', numL_val]
    congr 1
    omega
theorem starts_pre (x y : Str) (hy : tl y ≠ []) : Txt.startswith x y = pre (tl y) (tl x) := by
  have h := at_iff (x := x) hy 0
  rw [List.drop_zero] at h
  have e : Txt.startswith x y = true ↔ PySem.StrLaws.At x y x.length 0 := by
    unfold Txt.startswith
    rw [Bool.and_eq_true, decide_eq_true_eq]
    exact Iff.rfl
  cases h1 : Txt.startswith x y with
  | true => exact (h.mp (e.mp h1)).symm
  | false =>
    cases h2 : pre (tl y) (tl x) with
    | false => rfl
    | true => exact absurd (e.mpr (h.mpr h2)) (by rw [h1]; simp)
theorem starts_one (x y : Str) {c : Nat} (hy : tl y = [c]) : Txt.startswith x y = decide ((tl x).head? = some c) := by
  rw [starts_pre x y (by rw [hy]; simp), hy]
  unfold pre
  cases tl x with
  | nil => rfl
  | cons z r =>
    show ((z :: r).take 1 == [c]) = decide (some z = some c)
    by_cases h : z = c
    · subst h; simp
    · simp [h]
theorem tl_cut1 (x : Str) : tl (cutS x (some 1) none) = (tl x).drop 1 := by
  unfold cutS
  rw [tl_mk]
  have e1 : HT.sIx x.length 0 (some ((1 : Nat) : Int)) = min 1 x.length := HT.sIx_nat _ _ _
  show ((tl x).drop (HT.sIx x.length 0 (some ((1 : Nat) : Int)))).take (HT.sIx x.length x.length none - HT.sIx x.length 0 (some ((1 : Nat) : Int))) = _
  rw [e1, HT.sIx_none, len_tl]
  rw [List.take_of_length_le (by rw [List.length_drop]; exact Nat.le_refl _)]
  rcases Nat.eq_zero_or_pos (tl x).length with h | h
  · rw [List.length_eq_zero_iff.mp h]; rfl
  · rw [Nat.min_eq_left h]
end TX
namespace TX
open PySem PySem.Spec PyProof.Rows L2 PL TL
open DK (Look)
theorem spl_ne (S : List Nat) : ∀ (l : List Nat) (k : Nat) (acc : List Nat), spl S k acc l ≠ []
  | [], k, acc => by rw [spl_nil]; simp
  | c :: r, 0, acc => by
    cases h : pre S (c :: r) with
    | true => rw [spl_hit h]; simp
    | false => rw [spl_miss h]; exact spl_ne S r 0 _
  | c :: r, k + 1, acc => by
    rw [spl_pass]
    cases e : (c :: r).drop (k + 1) with
    | nil => rw [spl_nil]; simp
    | cons z zs =>
      have hl : zs.length < (c :: r).length := by
        have := congrArg List.length e
        simp only [List.length_drop, List.length_cons] at this ⊢
        omega
      cases h : pre S (z :: zs) with
      | true => rw [spl_hit h]; simp
      | false => rw [spl_miss h]; exact spl_ne S zs 0 _
  termination_by l => l.length
theorem tl_blank : tl (" " : Str) = [32] := by rw [tl_ofString]; rfl
theorem split_ne (x : Str) : Txt.split x " " ≠ [] := fun e => by
  have h := split_spl x " " (by rw [tl_blank]; simp) (kind_ok (by decide +kernel))
  rw [e] at h
  exact spl_ne _ _ _ _ h.symm
def wordB (w : Str) : Bool := decide (w = "at" ∨ w = "from" ∨ w = "upto")
theorem word_no {w : Str} (h : wordB w = true) {c : Nat} (hc : c < 97) : c ∉ tl w := by
  have h := of_decide_eq_true h
  rcases h with rfl | rfl | rfl <;> rw [tl_ofString] <;> intro hm <;> simp at hm <;> omega
theorem intL_no {n : Int} {c : Nat} (h : c ≠ 45 ∧ (c < 48 ∨ 57 < c)) : c ∉ intL n := by
  unfold intL
  split
  · intro hm
    rcases List.mem_cons.mp hm with e | hm
    · exact h.1 e
    · exact numL_free h.2 hm
  · exact numL_free h.2
def numsO (ws : List Str) : List (Option Int) := ws.map fun w => numIn (tl w)
/-- the look that words write -/
def lookO : List Str → Option Look
  | [w, a, b] => if wordB w = true then (numIn (tl a)).bind fun x => (numIn (tl b)).map fun y => (w, x, y) else none
  | _ => none
def lookP (l : Look) : List Str := [l.1, iS l.2.1, iS l.2.2]
def showL (l : Look) : Str := Txt.join " " (lookP l)
theorem split_show {l : Look} (hw : wordB l.1 = true) : Txt.split (showL l) " " = lookP l := by
  refine split_join tl_blank (by decide +kernel) (by simp [lookP]) fun p hp => ?_
  simp only [lookP, List.mem_cons, List.not_mem_nil, or_false] at hp
  rcases hp with rfl | rfl | rfl
  · exact word_no hw (by decide)
  · rw [tl_iS]; exact intL_no (by decide)
  · rw [tl_iS]; exact intL_no (by decide)
theorem lookO_show {l : Look} (hw : wordB l.1 = true) (hx : l.2.1.natAbs < 10 ^ 60) (hy : l.2.2.natAbs < 10 ^ 60) : lookO (Txt.split (showL l) " ") = some l := by
  rw [split_show hw]
  unfold lookP lookO
  simp only
  rw [if_pos hw, tl_iS, tl_iS, numIn_int hx, numIn_int hy]
  rfl
theorem dig_mem (z : Nat) : decide (z ∈ ("0123456789" : Str).cps.toList) = isDig z := by
  have e : ("0123456789" : Str).cps.toList = [48, 49, 50, 51, 52, 53, 54, 55, 56, 57] := by
    have := tl_ofString "0123456789"
    exact this.trans (by rfl)
  rw [e]
  unfold isDig
  refine decide_eq_decide.mpr ⟨fun h => ?_, fun h => ?_⟩
  · simp at h
    omega
  · simp
    omega
end TX
namespace My
open PySem PySem.Spec PyProof.Rows L2 PL
def topS (i : Nat) : Stmt := PySem.Challenge.pw_darkpace_k50_looks_written.main.body.getD i (.Pass ⟨0, 0, 0, 0⟩)
def inClass (c : Stmt) (i : Nat) : Stmt := match c with
  | .ClassDef (body := body) .. => body.getD i (.Pass ⟨0, 0, 0, 0⟩)
  | _ => .Pass ⟨0, 0, 0, 0⟩
/-- no more than a hundred figures -/
abbrev Bg (i : Int) : Prop := -10000000000000000000000000000000000000000000000000000000000000000000000000000000000000000000000000000 < i ∧ i < 10000000000000000000000000000000000000000000000000000000000000000000000000000000000000000000000000000
theorem div_in {a n B : Int} (hn : 0 < n) (h : -B ≤ a ∧ a ≤ B) : -B ≤ a / n ∧ a / n ≤ B := by
  constructor
  · have h1 : 0 ≤ B := by omega
    rw [Int.le_ediv_iff_mul_le hn]
    have : -B * n ≤ -B * 1 := Int.mul_le_mul_of_nonpos_left (by omega) (by omega)
    omega
  · have h1 : 0 ≤ B := by omega
    refine Int.le_of_lt_add_one (Int.ediv_lt_of_lt_mul hn ?_)
    have : (B + 1) * 1 ≤ (B + 1) * n := Int.mul_le_mul_of_nonneg_left (by omega) (by omega)
    omega
theorem cmulDiv {a n : Int} (hn : 0 < n) (ha : Sm a) (hs : Sm n) : CMulW (a / n) n := by
  refine cmulB ?_ hs
  have ha' := ha
  unfold Sm at ha' ⊢
  have := div_in hn (B := if 0 ≤ a then a else -a) (a := a) (by split <;> omega)
  split at this <;> omega
/-- x // n * n is x, no more than n off -/
theorem floor_in {x n : Int} (hn : 0 < n) : x - n < x / n * n ∧ x / n * n ≤ x := by
  have h1 := Int.emod_add_mul_ediv x n
  have h2 := Int.emod_nonneg x (b := n) (by omega)
  have h3 := Int.emod_lt_of_pos x hn
  rw [Int.mul_comm] at h1
  omega
theorem seq0 {n : Nat} : seqIndex? 0 (n + 1) = some 0 := by
  simp [seqIndex?]
local macro_rules | `(tactic| walk_at "s_mul") => `(tactic| first | exact cmulDiv (by omega) (by walk_at "s_sm") (by walk_at "s_sm") | exact cmulB (by walk_at "s_sm") (by walk_at "s_sm"))
local macro_rules | `(tactic| walk_at "s_sm") => `(tactic| first | assumption | (simp only [Sm]; omega) | (simp only [Sm, Bg] at *; omega))
local macro_rules | `(tactic| walk_at "s_div") => `(tactic| exact cdivB (by omega) (by walk_at "s_sm"))
local macro_rules | `(tactic| walk_at "s_mod") => `(tactic| omega)
local macro_rules | `(tactic| walk_at "s_pow") => `(tactic| exact ⟨by omega, by omega, by omega⟩)
local macro_rules | `(tactic| walk_at "s_len") => `(tactic| first | decide | assumption | (simp only [List.length_map, List.length_append, List.length_cons, List.length_nil, List.length_range] at *; first | exact lenB (by omega) | exact lenB' (by omega)))
local macro_rules | `(tactic| walk_at "s_len2") => `(tactic| (simp only [List.length_map, List.length_append, List.length_cons, List.length_nil] at *; exact lenB' (by omega)))
local macro_rules | `(tactic| walk_at "s_look") => `(tactic| rfl)
local macro_rules | `(tactic| walk_at "s_at") => `(tactic| rfl)
local macro_rules | `(tactic| walk_at "s_ix") => `(tactic| first | rfl | exact seq0 | (simp [seqIndex?]; done) | (simp [seqIndex?]; omega))
local macro_rules | `(tactic| walk_at "s_pop") => `(tactic| rfl)
theorem okds_map {α : Type} {n : Nat} {f : α → D} (h : ∀ x, (f x).okd n = true) : ∀ xs : List α, D.okds n (xs.map f) = true
  | [] => rfl
  | x :: xs => by
    show ((f x).okd n && D.okds n (xs.map f)) = true
    rw [h x, okds_map h xs]
    rfl
theorem okd_map {α : Type} {f : α → D} (xs : List α) (h : ∀ x, (f x).okd 59 = true) : D.okd 60 (.lst (xs.map f)) = true := okds_map h xs
theorem okds_app {n : Nat} : ∀ {xs ys : List D}, D.okds n xs = true → D.okds n ys = true → D.okds n (xs ++ ys) = true
  | [], _, _, h => h
  | x :: xs, ys, h1, h2 => by
    have h1' : x.okd n = true ∧ D.okds n xs = true := by simpa [D.okds] using h1
    show (x.okd n && D.okds n (xs ++ ys)) = true
    rw [h1'.1, okds_app h1'.2 h2]
    rfl
local macro_rules | `(tactic| walk_at "s_okd") => `(tactic| first | rfl | exact okd_map _ (fun _ => rfl) | exact okds_map (fun _ => rfl) _ | exact okds_app (okds_map (fun _ => rfl) _) rfl)
local macro_rules | `(tactic| walk_at "s_mem") => `(tactic| (intro v hv; simp only [List.mem_cons, List.not_mem_nil, or_false] at hv; omega))
local macro_rules | `(tactic| walk_at "s_mg") => `(tactic| assumption)
local macro_rules | `(tactic| walk_at "s_kit") => `(tactic| first | exact kit_bb | exact kit_ib | exact kit_sb | exact kit_tb | exact kit_lb | exact kit_bi | exact kit_ii | exact kit_si | exact kit_ti | exact kit_li | exact kit_ss | exact kit_ts | exact kit_ls | exact kit_tl | exact kit_ll | exact kit_tt | exact kit_lt | exact kit_nb | exact kit_ni)
local macro_rules | `(tactic| walk_at "s_few") => `(tactic| (simp only [List.length_map, List.length_range] at *; omega))
local macro_rules | `(tactic| walk_at "s_pos") => `(tactic| first | assumption | exact Nat.succ_pos _ | (simp only [List.length_map, List.length_range] at *; omega))
local macro_rules | `(tactic| walk_at "s_rg") => `(tactic| first | omega | (simp only [List.length_map] at *; omega))


/-! ### draws -/
theorem mulTray {f t : Int} (hf : 0 ≤ f ∧ f < 2305843009213693951) (h : 0 ≤ t ∧ t ≤ 1000000000) : CMulW (f + 5) ((t + 2) ^ Int.toNat 3) := by
  have e : (t + 2) ^ Int.toNat 3 = (t + 2) * (t + 2) * (t + 2) := by
    show (t + 2) ^ 3 = _
    rw [Int.pow_succ, Int.pow_succ, Int.pow_succ, Int.pow_zero, Int.one_mul]
  rw [e]
  have h1 := mulB (a := t + 2) (b := t + 2) (A := 2000000000) (B := 2000000000) (by omega) (by omega)
  have h2 := mulB (a := (t + 2) * (t + 2)) (b := t + 2) (A := 2000000000 * 2000000000) (B := 2000000000) h1 (by omega)
  exact cmulB (by unfold Sm; omega) (by unfold Sm; omega)
def trayM (a g : Addr) (gr : List Int) (l f t : Int) : Cells := [(a, .lst [.ptr g, .int l, .int f, .int t]), (g, .lst (gr.map D.int))]
def IsTray (T : Int) (a : Addr) (M : Cells) : Prop := ∃ g gr l f t, M = trayM a g gr l f t ∧ gr.length ≤ 63 ∧ 0 ≤ l ∧ (∀ x ∈ gr, 0 ≤ x) ∧ (0 ≤ t ∧ t ≤ T) ∧ (0 ≤ f ∧ f < 2305843009213693951)
theorem IsTray.mono {T T' : Int} {a : Addr} {M : Cells} (h : IsTray T a M) (k : T ≤ T') : IsTray T' a M := by
  obtain ⟨g, gr, l, f, t, e, h1, h2, h3, h4, h5⟩ := h
  exact ⟨g, gr, l, f, t, e, h1, h2, h3, by omega, h5⟩
abbrev s_tray : Stmt := topS 20
theorem sc_tray : FnScope ["script", "fold", "great", "cell", "much"] ["script"] (defScope s_tray) := ⟨rfl, rfl, rfl, by decide +kernel, rfl, by decide +kernel, by decide +kernel⟩
abbrev s_draw : Stmt := topS 21
theorem sc_draw : FnScope ["tray", "many", "found", "mixed"] ["tray", "many"] (defScope s_draw) := ⟨rfl, rfl, rfl, by decide +kernel, rfl, by decide +kernel, by decide +kernel⟩

section
variable {P : Program} {w : World} {K : PySem.W.Frag} {mg : Str → Option Value} {base : Heap}
def pfTray : PF := fun ds M R _ => ∃ ns : List Int, ds = [.lst (ns.map D.int)] ∧ ns.length ≤ 63 ∧ M = [] ∧ ∀ a M', IsTray 0 a M' → R (.ptr a) M'
theorem ok_tray {f fd k} (F : Fun K "_law_tray" "_law_tray" s_tray f fd) (m_max : mg "max" = none) : FnOk P w K mg base (L2.CX P w) (k + 1) f fd ["script"] (liftF K pfTray) := by
  refine fn_mk F sc_tray (fun ds M R Z ⟨ns, e, _⟩ => by subst e; rfl) ?_
  rintro ds M R Z ⟨ns, rfl, hl, rfl, q⟩
  refine wss_cons (ws_asg (i := 1) rfl (.inl rfl) (we_int (?_)))
  refine wss_cons (ws_asg (i := 2) rfl (.inl rfl) (we_lstC (wa_nil (⟨Nat.le_of_ble_eq_true rfl, fun p1 => ?_⟩))))
  refine wss_cons (ws_forL ns D.int (fun pre Γ2 M2 => ∃ (fo : Int) (c0 c1 : Option D) (gr : List Int), Γ2 = [some (.lst (ns.map D.int)), some (.int fo), some (.ptr p1), c0, c1] ∧ M2 = [(p1, .lst (gr.map D.int))] ∧ (0 ≤ fo ∧ fo < 2305843009213693951) ∧ gr.length ≤ pre.length ∧ ∀ x ∈ gr, 0 ≤ x)
    (we_var (i := 0) rfl (.inl rfl) rfl (?_)))
  refine ⟨rfl, ⟨_, _, _, [], rfl, rfl, by decide, by simp, by simp⟩, ?_, ?_⟩
  · rintro pre y post Γ2 M2 e ⟨fo, c0, c1, gr, rfl, rfl, hf, hg, hp⟩
    have hlen : pre.length < 63 := by rw [e] at hl; simp at hl; omega
    refine wg_name (i := 3) rfl (.inl rfl) (?_)
    refine wss_cons (ws_asg (i := 1) rfl (.inl rfl) (we_mod (we_add (we_mul (we_var (i := 1) rfl (.inl rfl) rfl (we_int (⟨_, _, rfl, rfl, (by walk_at "s_mul"), we_var (i := 3) rfl (.inl rfl) rfl (⟨_, _, rfl, rfl, we_sub (we_powK (v := 2305843009213693952) ⟨by decide, by decide, by decide⟩ (by decide +kernel) (we_int (⟨_, _, rfl, rfl, ⟨_, _, rfl, rfl, (by walk_at "s_mod"), ?_⟩⟩)))⟩)⟩)))))))
    refine wss_cons (ws_asg (i := 4) rfl (.inl rfl) (we_max2 rfl (by walk_at "s_mg") (we_var (i := 3) rfl (.inl rfl) rfl (we_sub (we_int (we_var (i := 3) rfl (.inl rfl) rfl (⟨_, _, rfl, rfl, ⟨_, _, rfl, rfl, ?_⟩⟩)))))))
    refine wss_cons (ws_if (wt_ge (we_var (i := 4) rfl (.inl rfl) rfl (we_powK (v := 1000000000000000000) ⟨by decide, by decide, by decide⟩ (by decide +kernel) (⟨_, _, rfl, rfl, br_dec (fun h46 => ?_) (fun h46 => ?_)⟩)))))
    · refine wss_cons (ws_expr (we_append (we_var (i := 2) rfl (.inl rfl) rfl (⟨_, 0, _, rfl, rfl, we_sub (we_var (i := 4) rfl (.inl rfl) rfl (we_powK (v := 1000000000000000000) ⟨by decide, by decide, by decide⟩ (by decide +kernel) (⟨_, _, rfl, rfl, ⟨0, _, rfl, by walk_at "s_len", ?_⟩⟩)))⟩))))
      refine wss_nil <| wss_nil ⟨_, _, _, gr ++ [(if 0 - y > y then 0 - y else y) - 1000000000000000000], rfl, by simp, ?_, ?_, ?_⟩
      · omega
      · simp; omega
      · intro x hx
        rcases List.mem_append.mp hx with hx | hx
        · exact hp x hx
        · simp only [List.mem_singleton] at hx; subst hx; omega
    · refine wss_nil <| wss_nil ⟨_, _, _, gr, rfl, rfl, ?_, ?_, hp⟩
      · omega
      · simp; omega
  · rintro Γ2 M2 ⟨fo, c0, c1, gr, rfl, rfl, hf, hg, hp⟩
    refine wss_cons (ws_ret (we_lstC (wa_cons (we_var (i := 2) rfl (.inl rfl) rfl (wa_cons (we_int (wa_cons (we_var (i := 1) rfl (.inl rfl) rfl (wa_cons (we_int (wa_nil (⟨Nat.le_of_ble_eq_true rfl, fun p2 => ?_⟩))))))))))))
    exact q _ _ ⟨p1, gr, 0, fo, 0, rfl, Nat.le_trans hg hl, Int.le_refl _, hp, ⟨Int.le_refl _, Int.le_refl _⟩, hf⟩
/-- a draw: some number below many -/
def pfDraw : PF := fun ds M R _ => ∃ a many T, ds = [.ptr a, .int many] ∧ IsTray T a M ∧ (0 < many ∧ Sm many) ∧ T < 1000000000 ∧ ∀ r M', 0 ≤ r → r < many → IsTray (T + 1) a M' → R (.int r) M'
theorem ok_draw {f fd k} (F : Fun K "_law_draw" "_law_draw" s_draw f fd) : FnOk P w K mg base (L2.CX P w) (k + 1) f fd ["tray", "many"] (liftF K pfDraw) := by
  refine fn_mk F sc_draw (fun ds M R Z ⟨a, many, T, e, _⟩ => by subst e; rfl) ?_
  rintro ds M R Z ⟨a, many, T, rfl, ⟨g, gr, left, fold, turn, rfl, h1, h2, h3, h4, h5⟩, ⟨hm, hm'⟩, hT, q⟩
  refine wss_cut (fun Γ1 M1 => ∃ gr left turn fold, Γ1 = [some (.ptr a), some (.int many), none, none] ∧ M1 = trayM a g gr left fold turn ∧ gr.length ≤ 63 ∧ 0 ≤ left ∧ (∀ x ∈ gr, 0 ≤ x) ∧ (0 ≤ turn ∧ turn ≤ T) ∧ (0 ≤ fold ∧ fold < 2305843009213693951))
    (ws_while (fun m Γ1 M1 => ∃ gr left turn fold, m = gr.length ∧ Γ1 = [some (.ptr a), some (.int many), none, none] ∧ M1 = trayM a g gr left fold turn ∧ gr.length ≤ 63 ∧ 0 ≤ left ∧ (∀ x ∈ gr, 0 ≤ x) ∧ (0 ≤ turn ∧ turn ≤ T) ∧ (0 ≤ fold ∧ fold < 2305843009213693951)) _ ⟨gr, left, turn, fold, rfl, rfl, rfl, h1, h2, h3, h4, h5⟩ ?_) ?_
  · clear h1 h2 h3 h4 h5
    rintro m Γ1 M1 ⟨gr, left, turn, fold, rfl, rfl, rfl, h1, h2, h3, h4, h5⟩
    refine wt_ww (ww_and (wt_lt (we_ix (we_var (i := 0) rfl (.inl rfl) rfl (we_int (⟨_, _, _, .inr (.inr ⟨0, _, rfl, rfl⟩), rfl, by walk_at "s_at", we_int (⟨_, _, rfl, rfl, br_dec (fun h50b => ww_and1 (wt_ne (we_ix (we_var (i := 0) rfl (.inl rfl) rfl (we_int (⟨_, _, _, .inr (.inr ⟨0, _, rfl, rfl⟩), rfl, by walk_at "s_at", we_lst (wa_nil (⟨Nat.le_of_ble_eq_true rfl, ⟨_, _, .cell (i := 1) rfl, .self, by walk_at "s_okd", by walk_at "s_okd", br_nk (fun h50 => ?_) (fun h50 => ?_)⟩⟩))⟩)))))) (fun h50b => br_f (?_))⟩)⟩))))))
    · match gr, h1, h3 with
      | x :: gr, h1, h3 =>
        refine wss_cons (ws_lput (we_popAt (we_ix (we_var (i := 0) rfl (.inl rfl) rfl (we_int (⟨_, _, _, .inr (.inr ⟨0, _, rfl, rfl⟩), rfl, by walk_at "s_at", ⟨_, 1, _, rfl, rfl, we_int (⟨1, _, _, 0, _, rfl, rfl, by decide, by decide, by walk_at "s_ix", by walk_at "s_pop", we_var (i := 0) rfl (.inl rfl) rfl (we_int (⟨_, 0, _, _, _, rfl, rfl, rfl, by walk_at "s_ix", ?_⟩))⟩)⟩⟩))))))
        exact wss_nil ⟨gr.length, by simp, gr, x, turn, fold, rfl, rfl, rfl, by simp at h1; omega, h3 x (by simp), fun y hy => h3 y (by simp [hy]), h4, h5⟩
      | [], _, _ => exact absurd ‹_› (by simp [D.eqv, D.py, D.pys, PyData.eqv, PyData.eqvAll])
    · exact ⟨gr, left, turn, fold, rfl, rfl, h1, h2, h3, h4, h5⟩
    · exact ⟨gr, left, turn, fold, rfl, rfl, h1, h2, h3, h4, h5⟩
  clear h1 h2 h3 h4 h5
  rintro Γ1 M1 ⟨gr, left, turn, fold, rfl, rfl, h1, h2, h3, h4, h5⟩
  refine wss_cons (ws_if (wt_ge (we_ix (we_var (i := 0) rfl (.inl rfl) rfl (we_int (⟨_, _, _, .inr (.inr ⟨0, _, rfl, rfl⟩), rfl, by walk_at "s_at", we_int (⟨_, _, rfl, rfl, br_dec (fun h52 => ?_) (fun h52 => ?_)⟩)⟩))))))
  · refine wss_cons (ws_asg (i := 2) rfl (.inl rfl) (we_mod (we_ix (we_var (i := 0) rfl (.inl rfl) rfl (we_int (⟨_, _, _, .inr (.inr ⟨0, _, rfl, rfl⟩), rfl, by walk_at "s_at", we_var (i := 1) rfl (.inl rfl) rfl (⟨_, _, rfl, rfl, (by walk_at "s_mod"), ?_⟩)⟩))))))
    refine wss_cons (ws_lput (we_div (we_ix (we_var (i := 0) rfl (.inl rfl) rfl (we_int (⟨_, _, _, .inr (.inr ⟨0, _, rfl, rfl⟩), rfl, by walk_at "s_at", we_var (i := 1) rfl (.inl rfl) rfl (⟨_, _, rfl, rfl, (by walk_at "s_div"), we_var (i := 0) rfl (.inl rfl) rfl (we_int (⟨_, 0, _, _, _, rfl, rfl, rfl, by walk_at "s_ix", ?_⟩))⟩)⟩))))))
    refine wss_cons (ws_ret (we_var (i := 2) rfl (.inl rfl) rfl (?_)))
    refine q _ _ ?_ ?_ ⟨g, gr, left / many, fold, turn, rfl, h1, Int.ediv_nonneg h2 (by omega), h3, by omega, h5⟩
    · exact Int.emod_nonneg _ (by omega)
    · exact Int.emod_lt_of_pos _ hm
  · refine wss_nil ?_
    refine wss_cons (ws_lput (we_add (we_ix (we_var (i := 0) rfl (.inl rfl) rfl (we_int (⟨_, _, _, .inr (.inr ⟨0, _, rfl, rfl⟩), rfl, by walk_at "s_at", we_int (⟨_, _, rfl, rfl, we_var (i := 0) rfl (.inl rfl) rfl (we_int (⟨_, 0, _, _, _, rfl, rfl, rfl, by walk_at "s_ix", ?_⟩))⟩)⟩))))))
    refine wss_cons (ws_asg (i := 3) rfl (.inl rfl) (we_mod (we_add (we_mul (we_add (we_ix (we_var (i := 0) rfl (.inl rfl) rfl (we_int (⟨_, _, _, .inr (.inr ⟨0, _, rfl, rfl⟩), rfl, by walk_at "s_at", we_int (⟨_, _, rfl, rfl, we_pow (we_add (we_ix (we_var (i := 0) rfl (.inl rfl) rfl (we_int (⟨_, _, _, .inr (.inr ⟨0, _, rfl, rfl⟩), rfl, by walk_at "s_at", we_int (⟨_, _, rfl, rfl, we_int (⟨_, _, rfl, rfl, (by walk_at "s_pow"), ⟨_, _, rfl, rfl, (mulTray (by omega) (by omega)), we_mul (we_int (we_ix (we_var (i := 0) rfl (.inl rfl) rfl (we_int (⟨_, _, _, .inr (.inr ⟨0, _, rfl, rfl⟩), rfl, by walk_at "s_at", ⟨_, _, rfl, rfl, (by walk_at "s_mul"), ⟨_, _, rfl, rfl, we_sub (we_powK (v := 2305843009213693952) ⟨by decide, by decide, by decide⟩ (by decide +kernel) (we_int (⟨_, _, rfl, rfl, ⟨_, _, rfl, rfl, (by walk_at "s_mod"), ?_⟩⟩)))⟩⟩⟩)))))⟩⟩)⟩)⟩)))))⟩)⟩)))))))))
    have hst : ∀ z : Int, 0 ≤ z % 2305843009213693951 ∧ z % 2305843009213693951 < 2305843009213693951 := fun z => ⟨Int.emod_nonneg _ (by decide), Int.emod_lt_of_pos _ (by decide)⟩
    have hst' := hst ((fold + 5) * (turn + 1 + 2) ^ Int.toNat 3 + 1000003 * (turn + 1))
    refine wss_cons (ws_ret (we_mod (we_div (we_mod (we_pow (we_var (i := 3) rfl (.inl rfl) rfl (we_int (⟨_, _, rfl, rfl, (by walk_at "s_pow"), we_add (we_powK (v := 1000000000000000000) ⟨by decide, by decide, by decide⟩ (by decide +kernel) (we_int (⟨_, _, rfl, rfl, ⟨_, _, rfl, rfl, (by walk_at "s_mod"), we_int (⟨_, _, rfl, rfl, (by walk_at "s_div"), we_var (i := 1) rfl (.inl rfl) rfl (⟨_, _, rfl, rfl, (by walk_at "s_mod"), ?_⟩)⟩)⟩⟩)))⟩))))))))
    refine q _ _ ?_ ?_ ⟨g, gr, left, fold, turn + 1, rfl, h1, h2, h3, by omega, h5⟩
    · exact Int.emod_nonneg _ (by omega)
    · exact Int.emod_lt_of_pos _ hm
theorem callDraw {c : PL.Ctx} {Γ : Gam} {a : Addr} {many T : Int} {kept M : Cells} {Q : D → Cells → Prop} (hB : IsTray T a M) (hm : 0 < many) (hs : Sm many) (hT : T < 1000000000)
    (h : ∀ r M', 0 ≤ r → r < many → IsTray (T + 1) a M' → Q (.int r) (kept ++ M')) : Callee c pfDraw Γ [.ptr a, .int many] (kept ++ M) Q :=
  ⟨kept, M, rfl, fun R Z hR _ => ⟨a, many, T, rfl, hB, ⟨hm, hs⟩, hT, fun r M' h1 h2 h3 => hR _ _ (h r M' h1 h2 h3)⟩⟩
end

abbrev s_great : Stmt := topS 22
theorem sc_great : FnScope ["tray", "found", "k"] ["tray"] (defScope s_great) := ⟨rfl, rfl, rfl, by decide +kernel, rfl, by decide +kernel, by decide +kernel⟩

section
variable {P : Program} {w : World} {K : PySem.W.Frag} {mg : Str → Option Value} {base : Heap}
/-- fifty-nine figures -/
def pfGreat : PF := fun ds M R _ => ∃ a T, ds = [.ptr a] ∧ IsTray T a M ∧ T < 900000000 ∧ ∀ r M', 0 ≤ r → r < 100000000000000000000000000000000000000000000000000000000000 → IsTray (T + 4) a M' → R (.int r) M'
theorem ok_great {f fd f1 fd1} (F : Fun K "_law_great" "_law_great" s_great f fd) (m_range : mg "range" = none) (D_draw : Def P w K mg base "_law_draw" f1 fd1 ["tray", "many"] 1 pfDraw) : FnOk P w K mg base (L2.CX P w) 2 f fd ["tray"] (liftF K pfGreat) := by
  refine fn_mk F sc_great (fun ds M R Z ⟨a, T, e, _⟩ => by subst e; rfl) ?_
  rintro ds M R Z ⟨a, T, rfl, hB0, hT, q⟩
  refine wss_cons (ws_asg (i := 1) rfl (.inl rfl) (we_call D_draw (Nat.le_of_ble_eq_true rfl) rfl (wa_cons (we_var (i := 0) rfl (.inl rfl) rfl (wa_cons (we_powK (v := 100000000000000) ⟨by decide, by decide, by decide⟩ (by decide +kernel) (wa_nil ((callDraw (kept := []) hB0 (by omega) (by walk_at "s_sm") (by first | omega | (have eyl := congrArg List.length ey; simp only [List.length_append, List.length_cons, List.length_range, List.length_map] at *; omega)) fun r1 M1 hr1 hs1 hB1 => ?_)))))))))
  refine wss_cons (ws_forR (i := 2) rfl m_range rfl (.inl rfl) (fun k Γ1 M1 => ∃ (c2 : Option D) (fo : Int), Γ1 = [some (.ptr a), some (.int fo), c2] ∧ IsTray (T + 1 + k) a M1 ∧ (k = 0 ∧ 0 ≤ fo ∧ fo < 100000000000000 ∨ k = 1 ∧ 0 ≤ fo ∧ fo < 100000000000000000000000000000 ∨ k = 2 ∧ 0 ≤ fo ∧ fo < 100000000000000000000000000000000000000000000 ∨ k = 3 ∧ 0 ≤ fo ∧ fo < 100000000000000000000000000000000000000000000000000000000000))
    (we_int (⟨_, rfl, ?_⟩)))
  refine ⟨by omega, by omega, ⟨_, _, rfl, hB1.mono (by omega), .inl ⟨rfl, hr1, hs1⟩⟩, ?_, ?_⟩
  · rintro k Γ2 M2 hk ⟨c2, fo, rfl, hB1, hf⟩
    refine wss_cons (ws_asg (i := 1) rfl (.inl rfl) (we_add (we_mul (we_var (i := 1) rfl (.inl rfl) rfl (we_powK (v := 1000000000000000) ⟨by decide, by decide, by decide⟩ (by decide +kernel) (⟨_, _, rfl, rfl, (by walk_at "s_mul"), we_call D_draw (Nat.le_of_ble_eq_true rfl) rfl (wa_cons (we_var (i := 0) rfl (.inl rfl) rfl (wa_cons (we_powK (v := 1000000000000000) ⟨by decide, by decide, by decide⟩ (by decide +kernel) (wa_nil ((callDraw (kept := []) hB1 (by omega) (by walk_at "s_sm") (by first | omega | (have eyl := congrArg List.length ey; simp only [List.length_append, List.length_cons, List.length_range, List.length_map] at *; omega)) fun r2 M2 hr2 hs2 hB2 => ⟨_, _, rfl, rfl, ?_⟩)))))))⟩))))))
    exact wss_nil ⟨_, _, rfl, hB2.mono (by omega), by omega⟩
  · rintro Γ2 M2 ⟨c2, fo, rfl, hB1, hf⟩
    refine wss_cons (ws_ret (we_var (i := 1) rfl (.inl rfl) rfl (?_)))
    exact q _ _ (by omega) (by omega) (hB1.mono (by omega))
theorem callGreat {c : PL.Ctx} {Γ : Gam} {a : Addr} {T : Int} {kept M : Cells} {Q : D → Cells → Prop} (hB : IsTray T a M) (hT : T < 900000000)
    (h : ∀ r M', 0 ≤ r → r < 100000000000000000000000000000000000000000000000000000000000 → IsTray (T + 4) a M' → Q (.int r) (kept ++ M')) : Callee c pfGreat Γ [.ptr a] (kept ++ M) Q :=
  ⟨kept, M, rfl, fun R Z hR _ => ⟨a, T, rfl, hB, hT, fun r M' h1 h2 h3 => hR _ _ (h r M' h1 h2 h3)⟩⟩
end



/-! ### found as due -/
theorem eqv_b (b : Bool) : (D.bl b).eqv (.bl b) = true := by cases b <;> rfl
theorem eqv_i (b : Int) : (D.int b).eqv (.int b) = true := by simp [D.eqv, D.py, PyData.eqv]
theorem eqv_s (b : Str) : (D.str b).eqv (.str b) = true := by simp [D.eqv, D.py, PyData.eqv]
abbrev s_alike : Stmt := topS 23
theorem sc_alike : FnScope ["found", "due", "k"] ["found", "due"] (defScope s_alike) := ⟨rfl, rfl, rfl, by decide +kernel, rfl, by decide +kernel, by decide +kernel⟩

section
variable {P : Program} {w : World} {K : PySem.W.Frag} {mg : Str → Option Value} {base : Heap}
def pfAlike (n : Nat) : PF := fun ds M R _ => ∃ d, ds = [d, d] ∧ d.sm n = true ∧ R (.bl true) M
theorem callAlike {c : PL.Ctx} {Γ : Gam} {n : Nat} {x y : D} {M : Cells} {Q : D → Cells → Prop} (h : x = y ∧ y.sm n = true) (q : Q (.bl true) M) : Callee c (pfAlike n) Γ [x, y] M Q :=
  callee0 fun R Z hR _ => ⟨y, by rw [h.1], h.2, hR _ _ q⟩
theorem ok_alike {f fd} (F : Fun K "_law_alike" "_law_alike" s_alike f fd) (mgx : mg "_law_alike" = some (.ref f)) (kp : PySem.W.keepIn K (.ref f) = true) (bi : Binds K fd ["found", "due"] [])
    (m_isinstance : mg "isinstance" = none) (m_bool : mg "bool" = none) (m_int : mg "int" = none) (m_str : mg "str" = none) (m_list : mg "list" = none) (m_tuple : mg "tuple" = none) (m_len : mg "len" = none) (m_range : mg "range" = none) :
    ∀ n : Nat, FnOk P w K mg base (L2.CX P w) (n + 1) f fd ["found", "due"] (liftF K (pfAlike n)) := by
  have go : ∀ n : Nat, (∀ m, n = m + 1 → FnOk P w K mg base (L2.CX P w) (m + 1) f fd ["found", "due"] (liftF K (pfAlike m))) → FnOk P w K mg base (L2.CX P w) (n + 1) f fd ["found", "due"] (liftF K (pfAlike n)) := by
    intro n ih
    refine fn_mk F sc_alike (fun ds M R Z ⟨d, e, _⟩ => by subst e; rfl) ?_
    rintro ds M R Z ⟨d, rfl, hd, q⟩
    cases d with
    | non =>
      refine wss_cons (ws_if (wt_isN (we_var (i := 1) rfl (.inl rfl) rfl (br_t (?_)))))
      refine wss_cons (ws_ret (we_isN (we_var (i := 0) rfl (.inl rfl) rfl (?_))))
      exact q
    | bl b =>
      refine wss_cons (ws_if (wt_isN (we_var (i := 1) rfl (.inl rfl) rfl (br_f (?_)))))
      refine wss_nil ?_
      refine wss_cons (ws_if (wt_val (we_isi (T := "bool") rfl (by walk_at "s_mg") rfl (by walk_at "s_mg") (by decide +kernel) (we_var (i := 1) rfl (.inl rfl) rfl (⟨_, _, _, .self, rfl, by walk_at "s_kit", ⟨_, rfl, br_t (?_)⟩⟩)))))
      refine wss_cons (ws_ret (we_and (we_isi (T := "bool") rfl (by walk_at "s_mg") rfl (by walk_at "s_mg") (by decide +kernel) (we_var (i := 0) rfl (.inl rfl) rfl (⟨_, _, _, .self, rfl, by walk_at "s_kit", ⟨_, rfl, br_t (we_one (we_eq (we_var (i := 0) rfl (.inl rfl) rfl (we_var (i := 1) rfl (.inl rfl) rfl (⟨_, _, .self, .self, by walk_at "s_okd", by walk_at "s_okd", ?_⟩)))))⟩⟩)))))
      rw [eqv_b]
      exact q
    | int i =>
      refine wss_cons (ws_if (wt_isN (we_var (i := 1) rfl (.inl rfl) rfl (br_f (?_)))))
      refine wss_nil ?_
      refine wss_cons (ws_if (wt_val (we_isi (T := "bool") rfl (by walk_at "s_mg") rfl (by walk_at "s_mg") (by decide +kernel) (we_var (i := 1) rfl (.inl rfl) rfl (⟨_, _, _, .self, rfl, by walk_at "s_kit", ⟨_, rfl, br_f (?_)⟩⟩)))))
      refine wss_nil ?_
      refine wss_cons (ws_if (wt_val (we_isi (T := "int") rfl (by walk_at "s_mg") rfl (by walk_at "s_mg") (by decide +kernel) (we_var (i := 1) rfl (.inl rfl) rfl (⟨_, _, _, .self, rfl, by walk_at "s_kit", ⟨_, rfl, br_t (?_)⟩⟩)))))
      refine wss_cons (ws_ret (we_and (we_isi (T := "int") rfl (by walk_at "s_mg") rfl (by walk_at "s_mg") (by decide +kernel) (we_var (i := 0) rfl (.inl rfl) rfl (⟨_, _, _, .self, rfl, by walk_at "s_kit", ⟨_, rfl, br_t (we_and (we_not (we_isi (T := "bool") rfl (by walk_at "s_mg") rfl (by walk_at "s_mg") (by decide +kernel) (we_var (i := 0) rfl (.inl rfl) rfl (⟨_, _, _, .self, rfl, by walk_at "s_kit", ⟨_, rfl, ⟨_, rfl, br_not (br_f (we_one (we_eq (we_var (i := 0) rfl (.inl rfl) rfl (we_var (i := 1) rfl (.inl rfl) rfl (⟨_, _, .self, .self, by walk_at "s_okd", by walk_at "s_okd", ?_⟩))))))⟩⟩⟩)))))⟩⟩)))))
      rw [eqv_i]
      exact q
    | str x =>
      refine wss_cons (ws_if (wt_isN (we_var (i := 1) rfl (.inl rfl) rfl (br_f (?_)))))
      refine wss_nil ?_
      refine wss_cons (ws_if (wt_val (we_isi (T := "bool") rfl (by walk_at "s_mg") rfl (by walk_at "s_mg") (by decide +kernel) (we_var (i := 1) rfl (.inl rfl) rfl (⟨_, _, _, .self, rfl, by walk_at "s_kit", ⟨_, rfl, br_f (?_)⟩⟩)))))
      refine wss_nil ?_
      refine wss_cons (ws_if (wt_val (we_isi (T := "int") rfl (by walk_at "s_mg") rfl (by walk_at "s_mg") (by decide +kernel) (we_var (i := 1) rfl (.inl rfl) rfl (⟨_, _, _, .self, rfl, by walk_at "s_kit", ⟨_, rfl, br_f (?_)⟩⟩)))))
      refine wss_nil ?_
      refine wss_cons (ws_if (wt_val (we_isi (T := "str") rfl (by walk_at "s_mg") rfl (by walk_at "s_mg") (by decide +kernel) (we_var (i := 1) rfl (.inl rfl) rfl (⟨_, _, _, .self, rfl, by walk_at "s_kit", ⟨_, rfl, br_t (?_)⟩⟩)))))
      refine wss_cons (ws_ret (we_and (we_isi (T := "str") rfl (by walk_at "s_mg") rfl (by walk_at "s_mg") (by decide +kernel) (we_var (i := 0) rfl (.inl rfl) rfl (⟨_, _, _, .self, rfl, by walk_at "s_kit", ⟨_, rfl, br_t (we_one (we_eq (we_var (i := 0) rfl (.inl rfl) rfl (we_var (i := 1) rfl (.inl rfl) rfl (⟨_, _, .self, .self, by walk_at "s_okd", by walk_at "s_okd", ?_⟩)))))⟩⟩)))))
      rw [eqv_s]
      exact q
    | tup xs =>
      cases n with
      | zero => cases hd
      | succ n =>
        have hd' : xs.length < 1000000 ∧ D.sms n xs = true := by simpa [D.sm] using hd
        obtain ⟨hl, hs⟩ := hd'
        have D_alike : Def P w K mg base "_law_alike" f fd ["found", "due"] (n + 1) (pfAlike n) := ⟨mgx, kp, bi, ih n rfl⟩
        refine wss_cons (ws_if (wt_isN (we_var (i := 1) rfl (.inl rfl) rfl (br_f (?_)))))
        refine wss_nil ?_
        refine wss_cons (ws_if (wt_val (we_isi (T := "bool") rfl (by walk_at "s_mg") rfl (by walk_at "s_mg") (by decide +kernel) (we_var (i := 1) rfl (.inl rfl) rfl (⟨_, _, _, .self, rfl, by walk_at "s_kit", ⟨_, rfl, br_f (?_)⟩⟩)))))
        refine wss_nil ?_
        refine wss_cons (ws_if (wt_val (we_isi (T := "int") rfl (by walk_at "s_mg") rfl (by walk_at "s_mg") (by decide +kernel) (we_var (i := 1) rfl (.inl rfl) rfl (⟨_, _, _, .self, rfl, by walk_at "s_kit", ⟨_, rfl, br_f (?_)⟩⟩)))))
        refine wss_nil ?_
        refine wss_cons (ws_if (wt_val (we_isi (T := "str") rfl (by walk_at "s_mg") rfl (by walk_at "s_mg") (by decide +kernel) (we_var (i := 1) rfl (.inl rfl) rfl (⟨_, _, _, .self, rfl, by walk_at "s_kit", ⟨_, rfl, br_f (?_)⟩⟩)))))
        refine wss_nil ?_
        refine wss_cons (ws_if (wt_ww (ww_or (wt_ne (we_isi (T := "list") rfl (by walk_at "s_mg") rfl (by walk_at "s_mg") (by decide +kernel) (we_var (i := 0) rfl (.inl rfl) rfl (⟨_, _, _, .self, rfl, by walk_at "s_kit", we_isi (T := "list") rfl (by walk_at "s_mg") rfl (by walk_at "s_mg") (by decide +kernel) (we_var (i := 1) rfl (.inl rfl) rfl (⟨_, _, _, .self, rfl, by walk_at "s_kit", ⟨_, _, .self, .self, by walk_at "s_okd", by walk_at "s_okd", br_nkF (eqv_b _) (ww_or1 (wt_ne (we_isi (T := "tuple") rfl (by walk_at "s_mg") rfl (by walk_at "s_mg") (by decide +kernel) (we_var (i := 0) rfl (.inl rfl) rfl (⟨_, _, _, .self, rfl, by walk_at "s_kit", we_isi (T := "tuple") rfl (by walk_at "s_mg") rfl (by walk_at "s_mg") (by decide +kernel) (we_var (i := 1) rfl (.inl rfl) rfl (⟨_, _, _, .self, rfl, by walk_at "s_kit", ⟨_, _, .self, .self, by walk_at "s_okd", by walk_at "s_okd", br_nkF (eqv_b _) (?_)⟩⟩))⟩)))))⟩⟩))⟩)))))))
        refine wss_nil ?_
        refine wss_cons (ws_if (wt_neI (we_len rfl (by walk_at "s_mg") (we_var (i := 0) rfl (.inl rfl) rfl (⟨_, .inr .self, we_len rfl (by walk_at "s_mg") (we_var (i := 1) rfl (.inl rfl) rfl (⟨_, .inr .self, ⟨_, _, rfl, rfl, br_nkF (decide_eq_true rfl) (?_)⟩⟩))⟩)))))
        refine wss_nil ?_
        refine wss_cons (ws_forR (i := 2) rfl m_range rfl (.inl rfl) (fun k Γ1 M1 => ∃ c2 : Option D, Γ1 = [some (.tup xs), some (.tup xs), c2] ∧ M1 = M) (we_len rfl (by walk_at "s_mg") (we_var (i := 1) rfl (.inl rfl) rfl (⟨_, .inr .self, ⟨_, rfl, ?_⟩⟩))))
        refine ⟨by omega, by omega, ⟨_, rfl, rfl⟩, ?_, ?_⟩
        · rintro k Γ2 M2 hk ⟨c2, rfl, rfl⟩
          refine wss_cons (ws_if (wt_not (wt_val (we_call D_alike (by first | exact Nat.le_refl _ | exact Nat.le_of_ble_eq_true rfl) rfl (wa_cons (we_ixX (we_var (i := 0) rfl (.inl rfl) rfl (we_var (i := 2) rfl (.inl rfl) rfl (⟨_, _, .inr rfl, rfl, (by omega), fun z3 hgz3 => wa_cons (we_ixX (we_var (i := 1) rfl (.inl rfl) rfl (we_var (i := 2) rfl (.inl rfl) rfl (⟨_, _, .inr rfl, rfl, (by omega), fun z4 hgz4 => wa_nil ((callAlike (⟨Option.some.inj (hgz3.symm.trans hgz4), sms_get hs hgz4⟩) (⟨_, rfl, br_not (br_t (?_))⟩)))⟩))))⟩)))))))))
          exact wss_nil (wss_nil ⟨_, rfl, rfl⟩)
        · rintro Γ2 M2 ⟨c2, rfl, rfl⟩
          refine wss_cons (ws_ret (we_bl (?_)))
          exact q
    | lst xs =>
      cases n with
      | zero => cases hd
      | succ n =>
        have hd' : xs.length < 1000000 ∧ D.sms n xs = true := by simpa [D.sm] using hd
        obtain ⟨hl, hs⟩ := hd'
        have D_alike : Def P w K mg base "_law_alike" f fd ["found", "due"] (n + 1) (pfAlike n) := ⟨mgx, kp, bi, ih n rfl⟩
        refine wss_cons (ws_if (wt_isN (we_var (i := 1) rfl (.inl rfl) rfl (br_f (?_)))))
        refine wss_nil ?_
        refine wss_cons (ws_if (wt_val (we_isi (T := "bool") rfl (by walk_at "s_mg") rfl (by walk_at "s_mg") (by decide +kernel) (we_var (i := 1) rfl (.inl rfl) rfl (⟨_, _, _, .self, rfl, by walk_at "s_kit", ⟨_, rfl, br_f (?_)⟩⟩)))))
        refine wss_nil ?_
        refine wss_cons (ws_if (wt_val (we_isi (T := "int") rfl (by walk_at "s_mg") rfl (by walk_at "s_mg") (by decide +kernel) (we_var (i := 1) rfl (.inl rfl) rfl (⟨_, _, _, .self, rfl, by walk_at "s_kit", ⟨_, rfl, br_f (?_)⟩⟩)))))
        refine wss_nil ?_
        refine wss_cons (ws_if (wt_val (we_isi (T := "str") rfl (by walk_at "s_mg") rfl (by walk_at "s_mg") (by decide +kernel) (we_var (i := 1) rfl (.inl rfl) rfl (⟨_, _, _, .self, rfl, by walk_at "s_kit", ⟨_, rfl, br_f (?_)⟩⟩)))))
        refine wss_nil ?_
        refine wss_cons (ws_if (wt_ww (ww_or (wt_ne (we_isi (T := "list") rfl (by walk_at "s_mg") rfl (by walk_at "s_mg") (by decide +kernel) (we_var (i := 0) rfl (.inl rfl) rfl (⟨_, _, _, .self, rfl, by walk_at "s_kit", we_isi (T := "list") rfl (by walk_at "s_mg") rfl (by walk_at "s_mg") (by decide +kernel) (we_var (i := 1) rfl (.inl rfl) rfl (⟨_, _, _, .self, rfl, by walk_at "s_kit", ⟨_, _, .self, .self, by walk_at "s_okd", by walk_at "s_okd", br_nkF (eqv_b _) (ww_or1 (wt_ne (we_isi (T := "tuple") rfl (by walk_at "s_mg") rfl (by walk_at "s_mg") (by decide +kernel) (we_var (i := 0) rfl (.inl rfl) rfl (⟨_, _, _, .self, rfl, by walk_at "s_kit", we_isi (T := "tuple") rfl (by walk_at "s_mg") rfl (by walk_at "s_mg") (by decide +kernel) (we_var (i := 1) rfl (.inl rfl) rfl (⟨_, _, _, .self, rfl, by walk_at "s_kit", ⟨_, _, .self, .self, by walk_at "s_okd", by walk_at "s_okd", br_nkF (eqv_b _) (?_)⟩⟩))⟩)))))⟩⟩))⟩)))))))
        refine wss_nil ?_
        refine wss_cons (ws_if (wt_neI (we_len rfl (by walk_at "s_mg") (we_var (i := 0) rfl (.inl rfl) rfl (⟨_, .inl .self, we_len rfl (by walk_at "s_mg") (we_var (i := 1) rfl (.inl rfl) rfl (⟨_, .inl .self, ⟨_, _, rfl, rfl, br_nkF (decide_eq_true rfl) (?_)⟩⟩))⟩)))))
        refine wss_nil ?_
        refine wss_cons (ws_forR (i := 2) rfl m_range rfl (.inl rfl) (fun k Γ1 M1 => ∃ c2 : Option D, Γ1 = [some (.lst xs), some (.lst xs), c2] ∧ M1 = M) (we_len rfl (by walk_at "s_mg") (we_var (i := 1) rfl (.inl rfl) rfl (⟨_, .inl .self, ⟨_, rfl, ?_⟩⟩))))
        refine ⟨by omega, by omega, ⟨_, rfl, rfl⟩, ?_, ?_⟩
        · rintro k Γ2 M2 hk ⟨c2, rfl, rfl⟩
          refine wss_cons (ws_if (wt_not (wt_val (we_call D_alike (by first | exact Nat.le_refl _ | exact Nat.le_of_ble_eq_true rfl) rfl (wa_cons (we_ixX (we_var (i := 0) rfl (.inl rfl) rfl (we_var (i := 2) rfl (.inl rfl) rfl (⟨_, _, .inl rfl, rfl, (by omega), fun z5 hgz5 => wa_cons (we_ixX (we_var (i := 1) rfl (.inl rfl) rfl (we_var (i := 2) rfl (.inl rfl) rfl (⟨_, _, .inl rfl, rfl, (by omega), fun z6 hgz6 => wa_nil ((callAlike (⟨Option.some.inj (hgz5.symm.trans hgz6), sms_get hs hgz6⟩) (⟨_, rfl, br_not (br_t (?_))⟩)))⟩))))⟩)))))))))
          exact wss_nil (wss_nil ⟨_, rfl, rfl⟩)
        · rintro Γ2 M2 ⟨c2, rfl, rfl⟩
          refine wss_cons (ws_ret (we_bl (?_)))
          exact q
    | ptr a => cases n <;> cases hd
    | obj C fs => cases n <;> cases hd
    | exc C w => cases n <;> cases hd
  intro n
  induction n with
  | zero => exact go 0 fun m e => (by cases e)
  | succ n ih =>
    refine go (n + 1) fun m e => ?_
    cases e
    exact ih
end


open TX DK
abbrev s_wj : Stmt := topS 2
theorem sc_wj : FnScope ["things", "thing"] ["things"] (defScope s_wj) := ⟨rfl, rfl, rfl, by decide +kernel, rfl, by decide +kernel, by decide +kernel⟩
abbrev s_shl : Stmt := topS 3
theorem sc_shl : FnScope ["look"] ["look"] (defScope s_shl) := ⟨rfl, rfl, rfl, by decide +kernel, rfl, by decide +kernel, by decide +kernel⟩
abbrev s_nin : Stmt := topS 15
theorem sc_nin : FnScope ["word", "figures", "sign"] ["word"] (defScope s_nin) := ⟨rfl, rfl, rfl, by decide +kernel, rfl, by decide +kernel, by decide +kernel⟩
abbrev s_nsin : Stmt := topS 16
theorem sc_nsin : FnScope ["words", "many", "found", "word"] ["words", "many"] (defScope s_nsin) := ⟨rfl, rfl, rfl, by decide +kernel, rfl, by decide +kernel, by decide +kernel⟩
abbrev s_lin : Stmt := topS 17
theorem sc_lin : FnScope ["text", "word", "rest", "found"] ["text"] (defScope s_lin) := ⟨rfl, rfl, rfl, by decide +kernel, rfl, by decide +kernel, by decide +kernel⟩
abbrev s_rdl : Stmt := topS 18
theorem sc_rdl : FnScope ["text", "found"] ["text"] (defScope s_rdl) := ⟨rfl, rfl, rfl, by decide +kernel, rfl, by decide +kernel, by decide +kernel⟩
abbrev s_xNoText : Stmt := inClass (topS 6) 0
theorem sc_xNoText : FnScope ["self", "what"] ["self", "what"] (defScope s_xNoText) := ⟨rfl, rfl, rfl, by decide +kernel, rfl, by decide +kernel, by decide +kernel⟩

section
variable {P : Program} {w : World} {K : PySem.W.Frag} {mg : Str → Option Value} {base : Heap} {CN : Addr}
/-- a text or an int -/
abbrev Th := Str ⊕ Int
def thD : Th → D
  | .inl s => .str s
  | .inr i => .int i
def thS : Th → Str
  | .inl s => s
  | .inr i => iS i
def thOk : Th → Prop
  | .inl s => s.length ≤ 1000
  | .inr i => i.natAbs < 10 ^ 70
theorem log_lt {i : Int} (h : i.natAbs < 10 ^ 70) : i.natAbs.log2 < 1920 := by
  rcases Nat.eq_zero_or_pos i.natAbs with e | e
  · rw [e]; decide
  · rw [Nat.log2_lt (by omega)]
    exact Nat.lt_trans h (by decide +kernel)
theorem len_iS {i : Int} (h : i.natAbs < 10 ^ 70) : (iS i).length ≤ 71 := by
  rw [TL.len_tl, tl_iS]
  have := TL.numL_len (n := i.natAbs) (k := 70) (by decide) h
  unfold intL
  split
  · rw [List.length_cons]; omega
  · omega
theorem thS_len {t : Th} (h : thOk t) : (thS t).length ≤ 1000 := by
  cases t with
  | inl s => exact h
  | inr i => have := len_iS h; show (iS i).length ≤ 1000; omega
theorem sum_le {α : Type} {f : α → Nat} {k : Nat} : ∀ {xs : List α}, (∀ x ∈ xs, f x ≤ k) → (xs.map f).sum ≤ xs.length * k
  | [], _ => by simp
  | x :: xs, h => by
    have := sum_le (f := f) (k := k) (xs := xs) fun y hy => h y (List.mem_cons_of_mem _ hy)
    have := h x List.mem_cons_self
    rw [List.map_cons, List.sum_cons, List.length_cons, Nat.succ_mul]
    omega
/-- a look that can be written -/
structure LkW (l : Look) : Prop where
  word : wordB l.1 = true
  x : l.2.1.natAbs < 10 ^ 60
  y : l.2.2.natAbs < 10 ^ 60
theorem th_look {l : Look} (h : LkW l) : ∀ t ∈ ([.inl l.1, .inr l.2.1, .inr l.2.2] : List Th), thOk t := fun t ht => by
  simp only [List.mem_cons, List.not_mem_nil, or_false] at ht
  have hx := h.x
  have hy := h.y
  rcases ht with rfl | rfl | rfl
  · have := of_decide_eq_true h.word
    rcases this with e | e | e <;> rw [e] <;> show _ ≤ _ <;> rw [TL.len_tl, TL.tl_ofString] <;> decide
  · show _ < _; omega
  · show _ < _; omega
def pfWj : PF := fun ds M R _ => ∃ ts : List Th, ds = [.tup (ts.map thD)] ∧ ts.length ≤ 10 ∧ (∀ t ∈ ts, thOk t) ∧ R (.str (Txt.join " " (ts.map thS))) M
theorem ok_wj {f fd k} (F : Fun K "words_joined" "words_joined" s_wj f fd) (G_BLANK : PGlob K mg "BLANK" (.str " ")) (m_str : mg "str" = none) : FnOk P w K mg base (L2.CX P w) (k + 1) f fd ["things"] (liftF K pfWj) := by
  refine fn_mk F sc_wj (fun ds M R Z ⟨ts, e, _⟩ => by subst e; rfl) ?_
  rintro ds M R Z ⟨ts, rfl, hl, hts, q⟩
  have hjl : ((ts.map thS).map (·.length)).sum + (ts.map thS).length * (" " : Str).length ≤ 16777216 := by
    have h1 := sum_le (f := fun s : Str => s.length) (k := 1000) (xs := ts.map thS) fun s hs => by
      obtain ⟨t, ht, rfl⟩ := List.mem_map.mp hs
      exact thS_len (hts t ht)
    rw [List.length_map] at h1 ⊢
    have h2 : (" " : Str).length = 1 := by decide +kernel
    rw [h2]
    have : ts.length * 1000 ≤ 10 * 1000 := Nat.mul_le_mul_right _ hl
    omega
  have hlg : ∀ {i : Int}, Sum.inr i ∈ ts → i.natAbs.log2 < 1920 := fun h => log_lt (hts _ h)
  refine wss_cons (ws_ret (we_joinE (we_glob rfl G_BLANK (⟨_, rfl, we_lcT [("thing", 1)] rfl (ts) (thD) _ (we_var (i := 0) rfl (.inl rfl) rfl (⟨rfl, lcq_map (fun t => D.str (thS t)) (lenB' (by omega)) (fun y hy => (by cases y with | inl s => exact ⟨_, _, .name (i := 1) rfl (.inl rfl), rfl, wis_nil (br_t (we_strS rfl (by walk_at "s_mg") (we_var (i := 1) rfl (.inl rfl) rfl (⟨_, rfl, ⟨rfl, rfl⟩⟩))))⟩ | inr i => exact ⟨_, _, .name (i := 1) rfl (.inl rfl), rfl, wis_nil (br_t (we_strI rfl (by walk_at "s_mg") (we_var (i := 1) rfl (.inl rfl) rfl (⟨_, rfl, (hlg hy), ⟨rfl, rfl⟩⟩))))⟩)) (⟨ts.map thS, _, (by rw [List.map_map]; exact .self), hjl, rfl, ?_⟩)⟩))⟩))))
  exact q
def pfShl : PF := fun ds M R _ => ∃ l : Look, ds = [lkD l] ∧ LkW l ∧ R (.str (showL l)) M
theorem ok_shl {f fd f1 fd1} (F : Fun K "show_look" "show_look" s_shl f fd) (D_wj : Def P w K mg base "words_joined" f1 fd1 ["things"] 1 pfWj) : FnOk P w K mg base (L2.CX P w) 2 f fd ["look"] (liftF K pfShl) := by
  refine fn_mk F sc_shl (fun ds M R Z ⟨l, e, _⟩ => by subst e; rfl) ?_
  rintro ds M R Z ⟨l, rfl, hl, q⟩
  refine wss_cons (ws_ret (we_call D_wj (Nat.le_of_ble_eq_true rfl) rfl (wa_cons (we_var (i := 0) rfl (.inl rfl) rfl (wa_nil ((callee0 fun R Z hR hZ => ⟨[.inl l.1, .inr l.2.1, .inr l.2.2], rfl, by simp, th_look hl, hR _ _ (?_)⟩)))))))
  exact q
end
section
variable {P : Program} {w : World} {K : PySem.W.Frag} {mg : Str → Option Value} {base : Heap} {CN : Addr}
theorem head_at {fg : Str} {c : Nat} {r : List Nat} (h : TL.tl fg = c :: r) : L2.atI fg.cps.toList 0 = some c := by
  have h : fg.cps.toList = c :: r := h
  rw [h]
  unfold L2.atI L2.ixN
  rw [if_pos (by decide), if_pos (by simp)]
  rfl
theorem sg_eqv {c : Nat} : (D.str ⟨#[c]⟩).eqv (.str "0") = decide (c = 48) := by
  rw [eqv_str]
  refine decide_eq_decide.mpr ⟨fun h => ?_, fun h => ?_⟩
  · have := congrArg TL.tl h
    rw [TL.tl_ofString] at this
    have h2 : [c] = [48] := this
    exact List.cons.inj h2 |>.1
  · subst h
    exact TL.ext_tl (by rw [TL.tl_ofString]; rfl)
theorem w0_eqv {x : Str} : (D.str x).eqv (.str "0") = decide (TL.tl x = [48]) := by
  rw [eqv_str]
  refine decide_eq_decide.mpr ⟨fun h => ?_, fun h => ?_⟩
  · rw [h, TL.tl_ofString]; rfl
  · exact TL.ext_tl (by rw [h, TL.tl_ofString]; rfl)
def pfNin : PF := fun ds M R _ => ∃ x : Str, ds = [.str x] ∧ x.length ≤ 1000000 ∧ R (optD (numIn (TL.tl x))) M
theorem ok_nin {f fd k} (F : Fun K "number_in" "number_in" s_nin f fd) (G_MINUS : PGlob K mg "MINUS" (.str "-")) (G_FIGURES : PGlob K mg "FIGURES" (.str "0123456789")) (G_MOST_FIGURES : PGlob K mg "MOST_FIGURES" (.int 60)) (m_len : mg "len" = none) (m_all : mg "all" = none) (m_int : mg "int" = none) : FnOk P w K mg base (L2.CX P w) (k + 1) f fd ["word"] (liftF K pfNin) := by
  refine fn_mk F sc_nin (fun ds M R Z ⟨x, e, _⟩ => by subst e; rfl) ?_
  rintro ds M R Z ⟨x, rfl, hx, q⟩
  have hm1 : TL.tl ("-" : Str) = [45] := by rw [TL.tl_ofString]; rfl
  refine wss_cut (fun Γ1 M1 => ∃ fg : Str, TL.tl fg = figs (TL.tl x) ∧ fg.length ≤ 1000000 ∧ Γ1 = [some (.str x), some (.str fg), none] ∧ M1 = M) ?_ ?_
  · by_cases hm : (TL.tl x).head? = some 45
    · refine ws_asg (i := 1) rfl (.inl rfl) (we_ifE (wt_val (we_starts (we_var (i := 0) rfl (.inl rfl) rfl (⟨_, rfl, we_glob rfl G_MINUS (⟨_, rfl, ⟨_, rfl, br_kT (by rw [starts_one _ _ hm1]; exact decide_eq_true hm) (we_fromS (we_var (i := 0) rfl (.inl rfl) rfl (⟨_, rfl, (by rw [sizeLine_eq]; omega), ?_⟩)))⟩⟩)⟩)))))
      refine ⟨_, by rw [tl_cut1]; unfold figs; rw [if_pos hm], by rw [TL.len_tl, tl_cut1, List.length_drop]; have := TL.len_tl x; omega, rfl, rfl⟩
    · refine ws_asg (i := 1) rfl (.inl rfl) (we_ifE (wt_val (we_starts (we_var (i := 0) rfl (.inl rfl) rfl (⟨_, rfl, we_glob rfl G_MINUS (⟨_, rfl, ⟨_, rfl, br_kF (by rw [starts_one _ _ hm1]; exact decide_eq_false hm) (we_var (i := 0) rfl (.inl rfl) rfl (?_))⟩⟩)⟩)))))
      exact ⟨_, by unfold figs; rw [if_neg hm], hx, rfl, rfl⟩
  rintro Γ1 M1 ⟨fg, hfg, hfl, rfl, rfl⟩
  have hfn : fg.length = (figs (TL.tl x)).length := by rw [TL.len_tl, hfg]
  have hfl2 : fg.cps.toList.length ≤ 1000000 := by rw [TL.len_tl] at hfl; exact hfl
  have hal : (fg.cps.toList.map fun z => decide (z ∈ ("0123456789" : Str).cps.toList)).all id = (figs (TL.tl x)).all isDig := by
    have e : fg.cps.toList = figs (TL.tl x) := hfg
    rw [e, List.all_map]
    congr 1
    funext z
    exact dig_mem z
  unfold numIn at q
  by_cases h0 : 0 < (figs (TL.tl x)).length
  · by_cases h60 : (figs (TL.tl x)).length ≤ 60
    · by_cases hd : (figs (TL.tl x)).all isDig = true
      · rw [if_pos ⟨⟨h0, h60⟩, hd⟩] at q
        refine wss_cons (ws_if (wt_ww (ww_or (wt_not (wt_ltLe (we_int (we_lenS rfl (by walk_at "s_mg") (we_var (i := 1) rfl (.inl rfl) rfl (⟨_, rfl, (by rw [sizeLine_eq]; omega), ⟨_, _, rfl, rfl, fun hn1 => absurd (by omega) hn1, fun _ => we_glob rfl G_MOST_FIGURES (⟨_, rfl, br_not (br_decT (by omega) (ww_or1 (wt_not (wt_val (we_allB rfl (by walk_at "s_mg") (we_lcS [("sign", 2)] rfl (fg) _ (we_var (i := 1) rfl (.inl rfl) rfl (⟨rfl, lcq_map (fun z => D.bl (decide (z ∈ ("0123456789" : Str).cps.toList))) (lenB' (by omega)) (fun y hy => ⟨_, _, .name (i := 2) rfl (.inl rfl), rfl, wis_nil (br_t (we_inSg (we_var (i := 2) rfl (.inl rfl) rfl (we_glob rfl G_FIGURES (⟨_, _, rfl, rfl, ⟨rfl, rfl⟩⟩)))))⟩) (⟨fg.cps.toList.map fun z => decide (z ∈ ("0123456789" : Str).cps.toList), by rw [List.map_map]; rfl, ⟨_, rfl, br_not (br_kT (by rw [hal]; exact hd) (?_))⟩⟩)⟩))))))))⟩)⟩⟩)))))))))
        refine wss_nil ?_
        obtain ⟨c, r, ec⟩ : ∃ c r, figs (TL.tl x) = c :: r := by
          cases e : figs (TL.tl x) with
          | nil => rw [e] at h0; simp at h0
          | cons c r => exact ⟨c, r, rfl⟩
        have hat0 := head_at (hfg.trans ec)
        by_cases h48 : c = 48
        · by_cases hw0 : TL.tl x = [48]
          · rw [if_pos (.inr hw0)] at q
            have hin := int_of (x := x) (by unfold numIn; rw [if_pos ⟨⟨h0, h60⟩, hd⟩, if_pos (.inr hw0)])
            refine wss_cons (ws_ret (we_ifE (wt_ww (ww_or (wt_ne (we_ixS (we_var (i := 1) rfl (.inl rfl) rfl (we_int (⟨_, _, c, rfl, rfl, (by rw [sizeLine_eq]; omega), hat0, we_str (⟨_, _, .self, .self, by walk_at "s_okd", by walk_at "s_okd", br_nkF (by rw [sg_eqv]; exact decide_eq_true h48) (ww_or1 (wt_eq (we_var (i := 0) rfl (.inl rfl) rfl (we_str (⟨_, _, .self, .self, by walk_at "s_okd", by walk_at "s_okd", br_decT (TL.ext_tl (by rw [hw0, TL.tl_ofString]; rfl)) (we_intT rfl (by walk_at "s_mg") (we_var (i := 0) rfl (.inl rfl) rfl (⟨_, _, rfl, hin.1, hin.2, ?_⟩)))⟩)))))⟩)⟩)))))))))
            exact q
          · rw [if_neg (fun e => e.elim (fun z => z (by rw [ec, h48]; rfl)) hw0)] at q
            refine wss_cons (ws_ret (we_ifE (wt_ww (ww_or (wt_ne (we_ixS (we_var (i := 1) rfl (.inl rfl) rfl (we_int (⟨_, _, c, rfl, rfl, (by rw [sizeLine_eq]; omega), hat0, we_str (⟨_, _, .self, .self, by walk_at "s_okd", by walk_at "s_okd", br_nkF (by rw [sg_eqv]; exact decide_eq_true h48) (ww_or1 (wt_eq (we_var (i := 0) rfl (.inl rfl) rfl (we_str (⟨_, _, .self, .self, by walk_at "s_okd", by walk_at "s_okd", br_decF (fun e => hw0 (by rw [e, TL.tl_ofString]; rfl)) (we_non (?_))⟩)))))⟩)⟩)))))))))
            exact q
        · have h3 : (figs (TL.tl x)).head? ≠ some 48 ∨ TL.tl x = [48] := .inl (by rw [ec]; intro e; exact h48 (Option.some.inj e))
          rw [if_pos h3] at q
          have hin := int_of (x := x) (by unfold numIn; rw [if_pos ⟨⟨h0, h60⟩, hd⟩, if_pos h3])
          refine wss_cons (ws_ret (we_ifE (wt_ww (ww_or (wt_ne (we_ixS (we_var (i := 1) rfl (.inl rfl) rfl (we_int (⟨_, _, c, rfl, rfl, (by rw [sizeLine_eq]; omega), hat0, we_str (⟨_, _, .self, .self, by walk_at "s_okd", by walk_at "s_okd", br_nkT (by rw [sg_eqv]; exact decide_eq_false h48) (br_t (we_intT rfl (by walk_at "s_mg") (we_var (i := 0) rfl (.inl rfl) rfl (⟨_, _, rfl, hin.1, hin.2, ?_⟩))))⟩)⟩)))))))))
          exact q
      · rw [if_neg (fun e => hd e.2)] at q
        refine wss_cons (ws_if (wt_ww (ww_or (wt_not (wt_ltLe (we_int (we_lenS rfl (by walk_at "s_mg") (we_var (i := 1) rfl (.inl rfl) rfl (⟨_, rfl, (by rw [sizeLine_eq]; omega), ⟨_, _, rfl, rfl, fun hn2 => absurd (by omega) hn2, fun _ => we_glob rfl G_MOST_FIGURES (⟨_, rfl, br_not (br_decT (by omega) (ww_or1 (wt_not (wt_val (we_allB rfl (by walk_at "s_mg") (we_lcS [("sign", 2)] rfl (fg) _ (we_var (i := 1) rfl (.inl rfl) rfl (⟨rfl, lcq_map (fun z => D.bl (decide (z ∈ ("0123456789" : Str).cps.toList))) (lenB' (by omega)) (fun y hy => ⟨_, _, .name (i := 2) rfl (.inl rfl), rfl, wis_nil (br_t (we_inSg (we_var (i := 2) rfl (.inl rfl) rfl (we_glob rfl G_FIGURES (⟨_, _, rfl, rfl, ⟨rfl, rfl⟩⟩)))))⟩) (⟨fg.cps.toList.map fun z => decide (z ∈ ("0123456789" : Str).cps.toList), by rw [List.map_map]; rfl, ⟨_, rfl, br_not (br_kF (by rw [hal]; exact Bool.not_eq_true _ ▸ hd) (?_))⟩⟩)⟩))))))))⟩)⟩⟩)))))))))
        refine wss_cons (ws_ret (we_non (?_)))
        exact q
    · rw [if_neg (fun e => h60 e.1.2)] at q
      refine wss_cons (ws_if (wt_ww (ww_or (wt_not (wt_ltLe (we_int (we_lenS rfl (by walk_at "s_mg") (we_var (i := 1) rfl (.inl rfl) rfl (⟨_, rfl, (by rw [sizeLine_eq]; omega), ⟨_, _, rfl, rfl, fun hn3 => absurd (by omega) hn3, fun _ => we_glob rfl G_MOST_FIGURES (⟨_, rfl, br_not (br_decF (by omega) (br_t (?_)))⟩)⟩⟩)))))))))
      refine wss_cons (ws_ret (we_non (?_)))
      exact q
  · rw [if_neg (fun e => h0 e.1.1)] at q
    refine wss_cons (ws_if (wt_ww (ww_or (wt_not (wt_ltLe (we_int (we_lenS rfl (by walk_at "s_mg") (we_var (i := 1) rfl (.inl rfl) rfl (⟨_, rfl, (by rw [sizeLine_eq]; omega), ⟨_, _, rfl, rfl, fun _ => br_not (br_f (br_t (?_))), fun hn4 => absurd hn4 (by omega)⟩⟩)))))))))
    refine wss_cons (ws_ret (we_non (?_)))
    exact q
def pfNsin : PF := fun ds M R _ => ∃ (ws : List Str) (k : Nat), ds = [.lst (ws.map D.str), .int (k : Int)] ∧ (∀ y ∈ ws, y.length ≤ 1000000) ∧ ws.length ≤ 1000000 ∧ R (if ws.length = k ∧ none ∉ numsO ws then .tup ((numsO ws).map optD) else .non) M
theorem okd_opts (os : List (Option Int)) : D.okds 60 (os.map optD) = true := okds_map (f := optD) (n := 60) (fun o => by cases o <;> rfl) os
theorem none_any (os : List (Option Int)) : ((os.map optD).any fun z => z.eqv .non) = decide (none ∈ os) := by
  induction os with
  | nil => rfl
  | cons o os ih =>
    rw [List.map_cons, List.any_cons, ih]
    cases o with
    | none => simp [optD, D.eqv, D.py, PyData.eqv]
    | some v => simp [optD, D.eqv, D.py, PyData.eqv]
local macro_rules | `(tactic| walk_at "s_okd") => `(tactic| first | rfl | exact okd_opts _)
theorem ok_nsin {f fd f1 fd1} (F : Fun K "numbers_in" "numbers_in" s_nsin f fd) (m_len : mg "len" = none) (m_tuple : mg "tuple" = none) (D_nin : Def P w K mg base "number_in" f1 fd1 ["word"] 1 pfNin) : FnOk P w K mg base (L2.CX P w) 2 f fd ["words", "many"] (liftF K pfNsin) := by
  refine fn_mk F sc_nsin (fun ds M R Z ⟨ws, k, e, _⟩ => by subst e; rfl) ?_
  rintro ds M R Z ⟨ws, k, rfl, hws, hwl, q⟩
  refine wss_cons (ws_asg (i := 2) rfl (.inl rfl) (we_tupOf rfl (by walk_at "s_mg") (we_lcL [("word", 3)] rfl (ws) (D.str) _ (we_var (i := 0) rfl (.inl rfl) rfl (⟨rfl, lcq_map (fun w => optD (numIn (TL.tl w))) (lenB' (by omega)) (fun y hy => ⟨_, _, .name (i := 3) rfl (.inl rfl), rfl, wis_nil (br_t (we_call D_nin (Nat.le_of_ble_eq_true rfl) rfl (wa_cons (we_var (i := 3) rfl (.inl rfl) rfl (wa_nil ((callee0 fun R Z hR hZ => ⟨y, rfl, hws y hy, hR _ _ (⟨rfl, rfl⟩)⟩)))))))⟩) (⟨_, .self, ?_⟩)⟩)))))
  have e1 : ws.map (fun w => optD (numIn (TL.tl w))) = (numsO ws).map optD := by unfold numsO; rw [List.map_map]; rfl
  rw [e1]
  have hnl : ((numsO ws).map optD).length = ws.length := by unfold numsO; rw [List.length_map, List.length_map]
  by_cases hk : ws.length = k
  · by_cases hn : none ∈ numsO ws
    · rw [if_neg (fun e => e.2 hn)] at q
      refine wss_cons (ws_ret (we_ifE (wt_ww (ww_and (wt_eqI (we_len rfl (by walk_at "s_mg") (we_var (i := 2) rfl (.inl rfl) rfl (⟨_, .inr .self, we_var (i := 1) rfl (.inl rfl) rfl (⟨_, _, rfl, rfl, br_decT (by omega) (ww_and1 (wt_nin (we_non (we_var (i := 2) rfl (.inl rfl) rfl (⟨_, _, .self, .inr .self, by walk_at "s_okd", by walk_at "s_okd", br_nkF (by rw [none_any]; exact decide_eq_true hn) (we_non (?_))⟩)))))⟩)⟩))))))))
      exact q
    · rw [if_pos ⟨hk, hn⟩] at q
      refine wss_cons (ws_ret (we_ifE (wt_ww (ww_and (wt_eqI (we_len rfl (by walk_at "s_mg") (we_var (i := 2) rfl (.inl rfl) rfl (⟨_, .inr .self, we_var (i := 1) rfl (.inl rfl) rfl (⟨_, _, rfl, rfl, br_decT (by omega) (ww_and1 (wt_nin (we_non (we_var (i := 2) rfl (.inl rfl) rfl (⟨_, _, .self, .inr .self, by walk_at "s_okd", by walk_at "s_okd", br_nkT (by rw [none_any]; exact decide_eq_false hn) (we_var (i := 2) rfl (.inl rfl) rfl (?_))⟩)))))⟩)⟩))))))))
      exact q
  · rw [if_neg (fun e => hk e.1)] at q
    refine wss_cons (ws_ret (we_ifE (wt_ww (ww_and (wt_eqI (we_len rfl (by walk_at "s_mg") (we_var (i := 2) rfl (.inl rfl) rfl (⟨_, .inr .self, we_var (i := 1) rfl (.inl rfl) rfl (⟨_, _, rfl, rfl, br_decF (by omega) (br_f (we_non (?_)))⟩)⟩))))))))
    exact q
end
section
variable {P : Program} {w : World} {K : PySem.W.Frag} {mg : Str → Option Value} {base : Heap} {CN : Addr}
def lkO : Option Look → D
  | none => .non
  | some l => lkD l
theorem word_any {w : Str} : (([("at" : Str), "from", "upto"].map D.str).any fun z => z.eqv (.str w)) = wordB w := by
  simp only [List.map_cons, List.map_nil, List.any_cons, List.any_nil, eqv_str, Bool.or_false, wordB]
  refine Bool.eq_iff_iff.mpr ?_
  simp only [Bool.or_eq_true, decide_eq_true_eq]
  constructor
  · rintro (h | h | h)
    · exact .inl h.symm
    · exact .inr (.inl h.symm)
    · exact .inr (.inr h.symm)
  · rintro (h | h | h)
    · exact .inl h.symm
    · exact .inr (.inl h.symm)
    · exact .inr (.inr h.symm)
theorem split_len (x : Str) {p : Str} (h : p ∈ Txt.split x " ") : p.length ≤ x.length := by
  have e := TL.split_spl x " " (by rw [tl_blank]; simp) (TL.kind_ok (by decide +kernel))
  have hm : TL.tl p ∈ TL.spl (TL.tl " ") 0 [] (TL.tl x) := by rw [← e]; exact List.mem_map_of_mem h
  have key : ∀ (l : List Nat) (S : List Nat) (k : Nat) (acc q : List Nat), q ∈ TL.spl S k acc l → q.length ≤ acc.length + l.length := by
    intro l
    induction l with
    | nil => intro S k acc q hq; rw [TL.spl_nil] at hq; rw [List.mem_singleton.mp hq]; simp
    | cons c r ih =>
      intro S k acc q hq
      cases k with
      | zero =>
        cases hp : TL.pre S (c :: r) with
        | true =>
          rw [TL.spl_hit hp] at hq
          rcases List.mem_cons.mp hq with rfl | hq
          · omega
          · have := ih S _ [] q hq
            simp only [List.length_nil, List.length_cons] at this ⊢
            omega
        | false =>
          rw [TL.spl_miss hp] at hq
          have := ih S 0 _ q hq
          simp only [List.length_append, List.length_cons, List.length_nil] at this ⊢
          omega
      | succ k =>
        have hq : q ∈ TL.spl S k acc r := hq
        have := ih S k acc q hq
        simp only [List.length_cons]
        omega
  have := key _ _ _ _ _ hm
  rw [TL.len_tl, TL.len_tl x]
  simpa using this
theorem split_many (x : Str) : (Txt.split x " ").length ≤ x.length + 1 := by
  have e := TL.split_spl x " " (by rw [tl_blank]; simp) (TL.kind_ok (by decide +kernel))
  have key : ∀ (l : List Nat) (S : List Nat) (k : Nat) (acc : List Nat), (TL.spl S k acc l).length ≤ l.length + 1 := by
    intro l
    induction l with
    | nil => intro S k acc; rw [TL.spl_nil]; simp
    | cons c r ih =>
      intro S k acc
      cases k with
      | zero =>
        cases hp : TL.pre S (c :: r) with
        | true =>
          rw [TL.spl_hit hp, List.length_cons, List.length_cons]
          have := ih S (S.length - 1) []
          omega
        | false =>
          rw [TL.spl_miss hp, List.length_cons]
          have := ih S 0 (acc ++ [c])
          omega
      | succ k =>
        have := ih S k acc
        show (TL.spl S k acc r).length ≤ _
        rw [List.length_cons]
        omega
  have := key (TL.tl x) (TL.tl " ") 0 []
  rw [← e, List.length_map] at this
  rw [TL.len_tl]
  exact this
def pfLin : PF := fun ds M R _ => ∃ x : Str, ds = [.str x] ∧ x.length ≤ 100000 ∧ R (lkO (lookO (Txt.split x " "))) M
local macro_rules | `(tactic| walk_at "s_okd") => `(tactic| rfl)
theorem ok_lin {f fd f1 fd1} (F : Fun K "look_in" "look_in" s_lin f fd) (G_BLANK : PGlob K mg "BLANK" (.str " ")) (G_WORDS : PGlob K mg "WORDS" (.tup ([("at" : Str), "from", "upto"].map D.str))) (D_nsin : Def P w K mg base "numbers_in" f1 fd1 ["words", "many"] 2 pfNsin) : FnOk P w K mg base (L2.CX P w) 3 f fd ["text"] (liftF K pfLin) := by
  refine fn_mk F sc_lin (fun ds M R Z ⟨x, e, _⟩ => by subst e; rfl) ?_
  rintro ds M R Z ⟨x, rfl, hx, q⟩
  obtain ⟨w0, ws, hsp⟩ : ∃ w0 ws, Txt.split x " " = w0 :: ws := by
    cases e : Txt.split x " " with
    | nil => exact absurd e (split_ne x)
    | cons a b => exact ⟨a, b, rfl⟩
  have hws : ∀ y ∈ ws, y.length ≤ 1000000 := fun y hy => by have := split_len x (p := y) (by rw [hsp]; exact List.mem_cons_of_mem _ hy); omega
  have hwl : ws.length ≤ 1000000 := by have := split_many x; rw [hsp, List.length_cons] at this; omega
  refine wss_cons (ws_asgG (we_splitE (we_var (i := 0) rfl (.inl rfl) rfl (⟨_, rfl, we_glob rfl G_BLANK (⟨_, _, rfl, (by decide +kernel), (by rw [sizeLine_eq]; omega), hsp, wg_star2 (wgs_cons (wg_name (i := 1) rfl (.inl rfl) (wgs_cons (wg_name (i := 2) rfl (.inl rfl) (wgs_nil (?_))))))⟩)⟩))))
  refine wss_cons (ws_asg (i := 3) rfl (.inl rfl) (we_call D_nsin (Nat.le_of_ble_eq_true rfl) rfl (wa_cons (we_var (i := 2) rfl (.inl rfl) rfl (wa_cons (we_int (wa_nil ((callee0 fun R Z hR hZ => ⟨ws, 2, rfl, hws, hwl, hR _ _ (?_)⟩)))))))))
  rw [hsp] at q
  by_cases hw : wordB w0 = true
  · by_cases h2 : ws.length = 2 ∧ none ∉ numsO ws
    · rw [if_pos h2]
      obtain ⟨h2, h3⟩ := h2
      match ws, h2 with
      | [a, b], _ =>
        have ha : ∃ u, numIn (TL.tl a) = some u := by
          cases e : numIn (TL.tl a) with
          | none => exact absurd (by simp [numsO, e]) h3
          | some u => exact ⟨u, rfl⟩
        have hb : ∃ u, numIn (TL.tl b) = some u := by
          cases e : numIn (TL.tl b) with
          | none => exact absurd (by simp [numsO, e]) h3
          | some u => exact ⟨u, rfl⟩
        obtain ⟨u, hu⟩ := ha
        obtain ⟨v, hv⟩ := hb
        have eq : lookO [w0, a, b] = some (w0, u, v) := by
          unfold lookO
          simp only
          rw [if_pos hw, hu, hv]
          rfl
        rw [eq] at q
        have en : (numsO [a, b]).map optD = [.int u, .int v] := by simp [numsO, hu, hv, optD]
        rw [en]
        refine wss_cons (ws_ret (we_ifE (wt_ww (ww_or (wt_nin (we_var (i := 1) rfl (.inl rfl) rfl (we_glob rfl G_WORDS (⟨_, _, .self, .inr .self, by walk_at "s_okd", by walk_at "s_okd", br_nkF (by rw [word_any]; exact hw) (ww_or1 (wt_isN (we_var (i := 3) rfl (.inl rfl) rfl (br_f (we_addT (we_tup (wa_cons (we_var (i := 1) rfl (.inl rfl) rfl (wa_nil (⟨Nat.le_of_ble_eq_true rfl, we_var (i := 3) rfl (.inl rfl) rfl (⟨_, _, rfl, rfl, by simp, by walk_at "s_len2", ?_⟩)⟩))))))))))⟩))))))))
        exact q
    · rw [if_neg h2]
      have eq : lookO (w0 :: ws) = none := by
        unfold lookO
        split
        · rename_i w a b e
          cases e
          rw [if_pos hw]
          cases ha : numIn (TL.tl a) with
          | none => rfl
          | some u =>
            cases hb : numIn (TL.tl b) with
            | none => rfl
            | some v => exact absurd ⟨rfl, by simp [numsO, ha, hb]⟩ h2
        · rfl
      rw [eq] at q
      refine wss_cons (ws_ret (we_ifE (wt_ww (ww_or (wt_nin (we_var (i := 1) rfl (.inl rfl) rfl (we_glob rfl G_WORDS (⟨_, _, .self, .inr .self, by walk_at "s_okd", by walk_at "s_okd", br_nkF (by rw [word_any]; exact hw) (ww_or1 (wt_isN (we_var (i := 3) rfl (.inl rfl) rfl (br_t (we_non (?_))))))⟩))))))))
      exact q
  · have eq : lookO (w0 :: ws) = none := by
      unfold lookO
      split
      · rename_i w a b e
        cases e
        rw [if_neg hw]
      · rfl
    rw [eq] at q
    refine wss_cons (ws_ret (we_ifE (wt_ww (ww_or (wt_nin (we_var (i := 1) rfl (.inl rfl) rfl (we_glob rfl G_WORDS (⟨_, _, .self, .inr .self, by walk_at "s_okd", by walk_at "s_okd", br_nkT (by rw [word_any]; exact Bool.not_eq_true _ ▸ hw) (br_t (we_non (?_)))⟩))))))))
    exact q
def pfRdl (CN : Addr) : PF := fun ds M R Z => ∃ x : Str, ds = [.str x] ∧ x.length ≤ 100000 ∧ (∀ l, lookO (Txt.split x " ") = some l → R (lkD l) M) ∧ (lookO (Txt.split x " ") = none → Z CN (.str x) M)
theorem ok_rdl {f fd f1 fd1} (F : Fun K "read_look" "read_look" s_rdl f fd) (X_NoText : XDef P w K mg base "NoText" CN) (D_lin : Def P w K mg base "look_in" f1 fd1 ["text"] 3 pfLin) : FnOk P w K mg base (L2.CX P w) 4 f fd ["text"] (liftF K (pfRdl CN)) := by
  refine fn_mk F sc_rdl (fun ds M R Z ⟨x, e, _⟩ => by subst e; rfl) ?_
  rintro ds M R Z ⟨x, rfl, hx, q, qz⟩
  refine wss_cons (ws_asg (i := 1) rfl (.inl rfl) (we_call D_lin (Nat.le_of_ble_eq_true rfl) rfl (wa_cons (we_var (i := 0) rfl (.inl rfl) rfl (wa_nil ((callee0 fun R Z hR hZ => ⟨x, rfl, hx, hR _ _ (?_)⟩)))))))
  cases e : lookO (Txt.split x " ") with
  | none =>
    refine wss_cons (ws_if (wt_isN (we_var (i := 1) rfl (.inl rfl) rfl (br_t (?_)))))
    refine wss_cons (ws_raise X_NoText (Nat.le_of_ble_eq_true rfl) rfl (we_var (i := 0) rfl (.inl rfl) rfl (?_)))
    exact qz e
  | some l =>
    refine wss_cons (ws_if (wt_isN (we_var (i := 1) rfl (.inl rfl) rfl (br_f (?_)))))
    refine wss_nil ?_
    refine wss_cons (ws_ret (we_var (i := 1) rfl (.inl rfl) rfl (?_)))
    exact q l e
end

abbrev s_far : Stmt := topS 24
theorem sc_far : FnScope ["tray", "lot"] ["tray"] (defScope s_far) := ⟨rfl, rfl, rfl, by decide +kernel, rfl, by decide +kernel, by decide +kernel⟩

section
variable {P : Program} {w : World} {K : PySem.W.Frag} {mg : Str → Option Value} {base : Heap}
def pfFar : PF := fun ds M R _ => ∃ (a : Addr) (T : Int), ds = [.ptr a] ∧ IsTray T a M ∧ (0 ≤ T ∧ T < 800000000) ∧ ∀ (r : Int) M', r.natAbs < 10 ^ 60 → IsTray (T + 10) a M' → R (.int r) M'
theorem ok_far {f fd f1 fd1 f2 fd2} (F : Fun K "_law_far_number" "_law_far_number" s_far f fd) (D_draw : Def P w K mg base "_law_draw" f1 fd1 ["tray", "many"] 1 pfDraw) (D_great : Def P w K mg base "_law_great" f2 fd2 ["tray"] 2 pfGreat) : FnOk P w K mg base (L2.CX P w) 3 f fd ["tray"] (liftF K pfFar) := by
  refine fn_mk F sc_far (fun ds M R Z ⟨a, T, e, _⟩ => by subst e; rfl) ?_
  rintro ds M R Z ⟨a, T, rfl, hB0, hT, q⟩
  refine wss_cons (ws_asg (i := 1) rfl (.inl rfl) (we_call D_draw (Nat.le_of_ble_eq_true rfl) rfl (wa_cons (we_var (i := 0) rfl (.inl rfl) rfl (wa_cons (we_int (wa_nil ((callDraw (kept := []) hB0 (by omega) (by walk_at "s_sm") (by first | omega | (have eyl := congrArg List.length ey; simp only [List.length_append, List.length_cons, List.length_range, List.length_map] at *; omega)) fun r1 M1 hr1 hs1 hB1 => ?_)))))))))
  refine wss_cons (ws_if (wt_eqI (we_var (i := 1) rfl (.inl rfl) rfl (we_int (⟨_, _, rfl, rfl, br_dec (fun h83 => ?_) (fun h83 => ?_)⟩)))))
  · refine wss_cons (ws_ret (we_mul (we_add (we_mul (we_call D_great (Nat.le_of_ble_eq_true rfl) rfl (wa_cons (we_var (i := 0) rfl (.inl rfl) rfl (wa_nil ((callGreat (kept := []) hB1 (by first | omega | (have eyl := congrArg List.length ey; simp only [List.length_append, List.length_cons, List.length_range, List.length_map] at *; omega)) fun r2 M2 hr2 hs2 hB2 => we_int (⟨_, _, rfl, rfl, (cmulB (by simp only [Sm]; omega) (by simp only [Sm]; omega)), we_call D_draw (Nat.le_of_ble_eq_true rfl) rfl (wa_cons (we_var (i := 0) rfl (.inl rfl) rfl (wa_cons (we_int (wa_nil ((callDraw (kept := []) hB2 (by omega) (by walk_at "s_sm") (by first | omega | (have eyl := congrArg List.length ey; simp only [List.length_append, List.length_cons, List.length_range, List.length_map] at *; omega)) fun r3 M3 hr3 hs3 hB3 => ⟨_, _, rfl, rfl, we_ixJ (P := fun v => -1 ≤ v ∧ v ≤ 1) (we_lst (wa_cons (we_int (wa_cons (we_neg (we_int (⟨_, rfl, wa_nil (⟨Nat.le_of_ble_eq_true rfl, we_call D_draw (Nat.le_of_ble_eq_true rfl) rfl (wa_cons (we_var (i := 0) rfl (.inl rfl) rfl (wa_cons (we_int (wa_nil ((callDraw (kept := []) hB3 (by omega) (by walk_at "s_sm") (by first | omega | (have eyl := congrArg List.length ey; simp only [List.length_append, List.length_cons, List.length_range, List.length_map] at *; omega)) fun r4 M4 hr4 hs4 hB4 => ⟨[_, _], _, rfl, rfl, by simp only [List.length_cons, List.length_nil]; omega, by walk_at "s_mem", fun v901 hv901 => ⟨_, _, rfl, rfl, (cmulB (by simp only [Sm]; omega) (by simp only [Sm]; omega)), ?_⟩⟩)))))))⟩)⟩)))))))⟩)))))))⟩)))))))))))
    have b := mulB (a := r2 * 10 + r3) (b := v901) (A := 10 ^ 60 - 1) (B := 1) (by omega) (by omega)
    refine q _ _ (by omega) (hB4.mono (by omega))
  · refine wss_nil ?_
    refine wss_cons (ws_ret (we_sub (we_call D_draw (Nat.le_of_ble_eq_true rfl) rfl (wa_cons (we_var (i := 0) rfl (.inl rfl) rfl (wa_cons (we_ixJ (P := fun v => 0 < v ∧ v ≤ 20001) (we_lst (wa_cons (we_int (wa_cons (we_int (wa_cons (we_int (wa_nil (⟨Nat.le_of_ble_eq_true rfl, we_var (i := 1) rfl (.inl rfl) rfl (⟨[_, _, _], _, rfl, rfl, by simp only [List.length_cons, List.length_nil]; omega, by walk_at "s_mem", fun v911 hv911 => wa_nil ((callDraw (kept := []) hB1 (by omega) (by walk_at "s_sm") (by first | omega | (have eyl := congrArg List.length ey; simp only [List.length_append, List.length_cons, List.length_range, List.length_map] at *; omega)) fun r2 M2 hr2 hs2 hB2 => we_ixJ (P := fun v => 0 ≤ v ∧ v ≤ 10000) (we_lst (wa_cons (we_int (wa_cons (we_int (wa_cons (we_int (wa_nil (⟨Nat.le_of_ble_eq_true rfl, we_var (i := 1) rfl (.inl rfl) rfl (⟨[_, _, _], _, rfl, rfl, by simp only [List.length_cons, List.length_nil]; omega, by walk_at "s_mem", fun v912 hv912 => ⟨_, _, rfl, rfl, ?_⟩⟩)⟩)))))))))))⟩)⟩))))))))))))))))
    exact q _ _ (by omega) (hB2.mono (by omega))
theorem callFar {c : PL.Ctx} {Γ : Gam} {a : Addr} {T : Int} {kept M : Cells} {Q : D → Cells → Prop} (hB : IsTray T a M) (hT : 0 ≤ T ∧ T < 800000000)
    (h : ∀ (r : Int) M', r.natAbs < 10 ^ 60 → IsTray (T + 10) a M' → Q (.int r) (kept ++ M')) : Callee c pfFar Γ [.ptr a] (kept ++ M) Q :=
  ⟨kept, M, rfl, fun R Z hR _ => ⟨a, T, rfl, hB, hT, fun r M' h1 h2 => hR _ _ (h r M' h1 h2)⟩⟩
end

abbrev s_law : Stmt := topS 25
theorem sc_law : FnScope ["script", "tray", "k", "one", "due", "told"] ["script"] (defScope s_law) := ⟨rfl, rfl, rfl, by decide +kernel, rfl, by decide +kernel, by decide +kernel⟩

section
variable {P : Program} {w : World} {K : PySem.W.Frag} {mg : Str → Option Value} {base : Heap} {CN : Addr}
theorem callShl {c : PL.Ctx} {Γ : Gam} {l : Look} {M : Cells} {Q : D → Cells → Prop} (hl : LkW l) (q : Q (.str (showL l)) M) : Callee c pfShl Γ [lkD l] M Q :=
  callee0 fun R Z hR _ => ⟨l, rfl, hl, hR _ _ q⟩
theorem callRdl {c : PL.Ctx} {Γ : Gam} {l : Look} {x : Str} {M : Cells} {Q : D → Cells → Prop} (hx : x.length ≤ 100000) (hl : lookO (Txt.split x " ") = some l) (q : Q (lkD l) M) : Callee c (pfRdl CN) Γ [.str x] M Q :=
  callee0 fun R Z hR _ => ⟨x, rfl, hx, fun l2 e => by rw [hl] at e; cases e; exact hR _ _ q, fun e => by rw [hl] at e; cases e⟩
/-- a look's writing, put together -/
theorem show_cat (l : Look) : l.1 ++ " " ++ iS l.2.1 ++ " " ++ iS l.2.2 = showL l := by
  refine TL.ext_tl ?_
  unfold showL
  rw [TL.join_eq, TL.tl_join]
  simp only [TL.tl_append, lookP, List.map_cons, List.map_nil]
  simp [TL.joinL, List.append_assoc]
theorem show_len {l : Look} (h : LkW l) : (showL l).length ≤ 1000 := by
  have h1 := len_iS (i := l.2.1) (by have := h.x; omega)
  have h2 := len_iS (i := l.2.2) (by have := h.y; omega)
  have h3 := th_look h _ List.mem_cons_self
  have h3 : l.1.length ≤ 1000 := h3
  have h4 : l.1.length ≤ 4 := by
    have := of_decide_eq_true h.word
    rcases this with e | e | e <;> rw [e, TL.len_tl, TL.tl_ofString] <;> decide
  rw [← show_cat, TL.len_tl]
  simp only [TL.tl_append, List.length_append, ← TL.len_tl]
  have h5 : (" " : Str).length = 1 := by decide +kernel
  omega
theorem add_len (s t : Str) : (s ++ t).length = s.length + t.length := by
  rw [TL.len_tl, TL.tl_append, List.length_append, ← TL.len_tl, ← TL.len_tl]
def pfLaw : PF := fun ds M R _ => ∃ ns : List Int, ds = [.lst (ns.map D.int)] ∧ ns.length ≤ 63 ∧ M = [] ∧ ∀ M', R (.bl true) M'
set_option maxHeartbeats 0 in
theorem ok_law {f fd f1 fd1 f2 fd2 f3 fd3 f4 fd4 f5 fd5 f6 fd6} (F : Fun K "law" "law" s_law f fd) (m_range : mg "range" = none) (m_len : mg "len" = none) (m_str : mg "str" = none)
    (D_tray : Def P w K mg base "_law_tray" f1 fd1 ["script"] 1 pfTray) (D_draw : Def P w K mg base "_law_draw" f2 fd2 ["tray", "many"] 1 pfDraw) (D_far : Def P w K mg base "_law_far_number" f3 fd3 ["tray"] 3 pfFar)
    (D_shl : Def P w K mg base "show_look" f4 fd4 ["look"] 2 pfShl) (B_shl : KwB K fd4 ["look"] ["look"] [0]) (D_rdl : Def P w K mg base "read_look" f5 fd5 ["text"] 4 (pfRdl CN)) (B_rdl : KwB K fd5 ["text"] ["text"] [0])
    (D_alike : Def P w K mg base "_law_alike" f6 fd6 ["found", "due"] 5 (pfAlike 4)) :
    FnOk P w K mg base (L2.CX P w) 6 f fd ["script"] (liftF K pfLaw) := by
  refine fn_mk F sc_law (fun ds M R Z ⟨ns, e, _⟩ => by subst e; rfl) ?_
  rintro ds M R Z ⟨ns, rfl, hl, rfl, q⟩
  refine wss_cons (ws_asg (i := 1) rfl (.inl rfl) (we_call D_tray (Nat.le_of_ble_eq_true rfl) rfl (wa_cons (we_var (i := 0) rfl (.inl rfl) rfl (wa_nil (?_))))))
  refine callee0 fun R Z hR hZ => ⟨ns, rfl, hl, rfl, fun a M' hB => hR _ _ ?_⟩
  have ht : ((ns.map D.int).take (12 : Int).toNat).length ≤ 12 := by rw [List.length_take]; exact Nat.min_le_left _ _
  refine wss_cons (ws_forR (i := 2) rfl m_range rfl (.inl rfl) (fun k Γ1 M1 => ∃ (c2 c3 c4 c5 : Option D), Γ1 = [some (.lst (ns.map D.int)), some (.ptr a), c2, c3, c4, c5] ∧ IsTray (30 * k) a M1) (we_add (we_int (we_mul (we_int (we_len rfl (by walk_at "s_mg") (we_takeL (we_var (i := 0) rfl (.inl rfl) rfl (⟨_, rfl, by decide, ⟨_, .inl .self, ⟨_, _, rfl, rfl, (by walk_at "s_mul"), ⟨_, _, rfl, rfl, ⟨_, rfl, ?_⟩⟩⟩⟩⟩)))))))))
  refine ⟨by omega, by omega, ⟨_, _, _, _, rfl, hB.mono (by omega)⟩, ?_, ?_⟩
  · rintro k Γ2 M2 hk ⟨c2, c3, c4, c5, rfl, hB0⟩
    have hk' : (k : Int) < 43 := by omega
    refine wss_cons (ws_asg (i := 3) rfl (.inl rfl) (we_tup (wa_cons (we_ixA (["at", "from", "upto"] : List Str) D.str (we_lst (wa_cons (we_str (wa_cons (we_str (wa_cons (we_str (wa_nil (⟨Nat.le_of_ble_eq_true rfl, we_call D_draw (Nat.le_of_ble_eq_true rfl) rfl (wa_cons (we_var (i := 1) rfl (.inl rfl) rfl (wa_cons (we_int (wa_nil ((callDraw (kept := []) hB0 (by omega) (by walk_at "s_sm") (by first | omega | (have eyl := congrArg List.length ey; simp only [List.length_append, List.length_cons, List.length_range, List.length_map] at *; omega)) fun r1 M1 hr1 hs1 hB1 => ⟨_, .inl rfl, rfl, by simp only [List.length_cons, List.length_nil]; omega, fun z901 hzz901 hgz901 => wa_cons (we_call D_far (Nat.le_of_ble_eq_true rfl) rfl (wa_cons (we_var (i := 1) rfl (.inl rfl) rfl (wa_nil ((callFar (kept := []) hB1 (by omega) fun r2 M2 hr2 hB2 => wa_cons (we_call D_far (Nat.le_of_ble_eq_true rfl) rfl (wa_cons (we_var (i := 1) rfl (.inl rfl) rfl (wa_nil ((callFar (kept := []) hB2 (by omega) fun r3 M3 hr3 hB3 => wa_nil (⟨Nat.le_of_ble_eq_true rfl, ?_⟩)))))))))))))⟩)))))))⟩)))))))))))))
    obtain ⟨l, el⟩ : ∃ l : Look, l = (z901, r2, r3) := ⟨_, rfl⟩
    have hlk : LkW l := by
      rw [el]
      exact ⟨decide_eq_true (by simpa using hzz901), hr2, hr3⟩
    have hz4 : z901.length ≤ 1000 := by
      have := th_look hlk _ List.mem_cons_self
      rw [el] at this
      exact this
    have hx71 : (Str.ofString (toString r2)).length ≤ 71 := len_iS (by omega)
    have hy71 : (Str.ofString (toString r3)).length ≤ 71 := len_iS (by omega)
    have hbl : (" " : Str).length = 1 := by decide +kernel
    refine wss_cons (ws_asg (i := 4) rfl (.inl rfl) (we_addS (we_addS (we_addS (we_addS (we_ix (we_var (i := 3) rfl (.inl rfl) rfl (we_int (⟨_, _, _, .inl rfl, rfl, by walk_at "s_at", we_str (⟨_, _, rfl, rfl, (by rw [sizeLine_eq]; first | omega | (simp only [add_len]; omega)), we_strI rfl (by walk_at "s_mg") (we_ix (we_var (i := 3) rfl (.inl rfl) rfl (we_int (⟨_, _, _, .inl rfl, rfl, by walk_at "s_at", ⟨_, rfl, (log_lt (by omega)), ⟨_, _, rfl, rfl, (by rw [sizeLine_eq]; first | omega | (simp only [add_len]; omega)), we_str (⟨_, _, rfl, rfl, (by rw [sizeLine_eq]; first | omega | (simp only [add_len]; omega)), we_strI rfl (by walk_at "s_mg") (we_ix (we_var (i := 3) rfl (.inl rfl) rfl (we_int (⟨_, _, _, .inl rfl, rfl, by walk_at "s_at", ⟨_, rfl, (log_lt (by omega)), ⟨_, _, rfl, rfl, (by rw [sizeLine_eq]; first | omega | (simp only [add_len]; omega)), ?_⟩⟩⟩))))⟩)⟩⟩⟩))))⟩)⟩)))))))))
    have hsl : (showL l).length ≤ 100000 := by have := show_len hlk; omega
    have hro := lookO_show hlk.word hlk.x hlk.y
    have hcat : z901 ++ " " ++ Str.ofString (toString r2) ++ " " ++ Str.ofString (toString r3) = showL l := by
      rw [← show_cat, el]
      rfl
    refine wss_norm (Γ' := [some (.lst (ns.map D.int)), some (.ptr a), some (.int k), some (lkD l), some (.str (showL l)), c5]) (M' := M3) (by rw [← hcat, el]; rfl) rfl ?_
    refine wss_cons (ws_asg (i := 5) rfl (.inl rfl) (we_lst (wa_cons (we_call D_shl (Nat.le_of_ble_eq_true rfl) rfl (wa_cons (we_var (i := 3) rfl (.inl rfl) rfl (wa_nil ((callShl hlk (wa_cons (we_callK0 D_shl B_shl (Nat.le_of_ble_eq_true rfl) rfl rfl (wk_cons (we_var (i := 3) rfl (.inl rfl) rfl (wk_nil (⟨rfl, (callShl hlk (wa_cons (we_call D_rdl (Nat.le_of_ble_eq_true rfl) rfl (wa_cons (we_var (i := 4) rfl (.inl rfl) rfl (wa_nil ((callRdl hsl hro (wa_cons (we_callK0 D_rdl B_rdl (Nat.le_of_ble_eq_true rfl) rfl rfl (wk_cons (we_var (i := 4) rfl (.inl rfl) rfl (wk_nil (⟨rfl, (callRdl hsl hro (wa_nil (⟨Nat.le_of_ble_eq_true rfl, ?_⟩)))⟩))))))))))))))⟩)))))))))))))))
    refine wss_cons (ws_if (wt_not (wt_val (we_call D_alike (by first | exact Nat.le_refl _ | exact Nat.le_of_ble_eq_true rfl) rfl (wa_cons (we_var (i := 5) rfl (.inl rfl) rfl (wa_cons (we_lst (wa_cons (we_var (i := 4) rfl (.inl rfl) rfl (wa_cons (we_var (i := 4) rfl (.inl rfl) rfl (wa_cons (we_var (i := 3) rfl (.inl rfl) rfl (wa_cons (we_var (i := 3) rfl (.inl rfl) rfl (wa_nil (⟨Nat.le_of_ble_eq_true rfl, wa_nil ((callAlike (⟨rfl, rfl⟩) (⟨_, rfl, br_not (br_t (?_))⟩)))⟩))))))))))))))))))
    exact wss_nil (wss_nil ⟨_, _, _, _, rfl, hB3.mono (by omega)⟩)
  · rintro Γ2 M2 ⟨c2, c3, c4, c5, rfl, hB0⟩
    refine wss_cons (ws_ret (we_bl (?_)))
    exact q _
theorem law_start {H : Hp} {a : Addr} {ns : List Int} (hl : ns.length ≤ 63) (hS : SqL K H a (ns.map V.int)) : liftF K pfLaw [.ref a] H (fun v _ => v = .bl true) (fun _ _ _ => False) := by
  refine ⟨fun _ => False, [], [.lst (ns.map D.int)], ⟨fun _ z => z.elim, List.nodup_nil, fun _ z => (by cases z), fun _ z => (by cases z)⟩, .cons (.lst ?_ (Reps.of_ints ns)) .nil, ns, rfl, hl, rfl, fun M' v H' _ _ r => by cases r; rfl⟩
  rcases hS with h | h
  · exact .inl ⟨fun z => (by rcases z with z | z <;> cases z), h⟩
  · exact .inr h
end


theorem all_mk {l : PySem.W.OpenLaw} {w : World} {K : PySem.W.Frag} {h : Heap} {mg : Str → Option Value} {fa : Addr} (X : K.In h) (G : h.Ns mainGlobals mg) (hfa : mg "law" = some (.ref fa))
    {f_tray f_draw f_great f_alike f_wj f_shl f_nin f_nsin f_lin f_rdl f_far f_law : Addr} {od_tray an_tray od_draw an_draw od_great an_great od_alike an_alike od_wj an_wj od_shl an_shl od_nin an_nin od_nsin an_nsin od_lin an_lin od_rdl an_rdl od_far an_far od_law an_law : Option Addr} {sl_tray sl_draw sl_great sl_alike sl_wj sl_shl sl_nin sl_nsin sl_lin sl_rdl sl_far sl_law : Array (Option Value)} {oc_tray kV_tray dc_tray pm_tray cd_tray ct_tray oc_draw kV_draw dc_draw pm_draw cd_draw ct_draw oc_great kV_great dc_great pm_great cd_great ct_great oc_alike kV_alike dc_alike pm_alike cd_alike ct_alike oc_wj kV_wj dc_wj pm_wj cd_wj ct_wj oc_shl kV_shl dc_shl pm_shl cd_shl ct_shl oc_nin kV_nin dc_nin pm_nin cd_nin ct_nin oc_nsin kV_nsin dc_nsin pm_nsin cd_nsin ct_nsin oc_lin kV_lin dc_lin pm_lin cd_lin ct_lin oc_rdl kV_rdl dc_rdl pm_rdl cd_rdl ct_rdl oc_far kV_far dc_far pm_far cd_far ct_far oc_law kV_law dc_law pm_law cd_law ct_law : Value}
    {tk_BLANK : Tok} (a_BLANK : PySem.W.nsIn K mainGlobals "BLANK" = some (some (.str " " tk_BLANK)))
    {tk_MINUS : Tok} (a_MINUS : PySem.W.nsIn K mainGlobals "MINUS" = some (some (.str "-" tk_MINUS)))
    {tk_FIGURES : Tok} (a_FIGURES : PySem.W.nsIn K mainGlobals "FIGURES" = some (some (.str "0123456789" tk_FIGURES)))
    {tk_MOST_FIGURES : Tok} (a_MOST_FIGURES : PySem.W.nsIn K mainGlobals "MOST_FIGURES" = some (some (.int 60 tk_MOST_FIGURES)))
    {W_WORDS : Addr} {od_WORDS : Option Addr} {n_WORDS : Nat} {sl_WORDS : Array (Option Value)} {tk_WORDS0 tk_WORDS1 tk_WORDS2 : Tok} (a_WORDS : PySem.W.nsIn K mainGlobals "WORDS" = some (some (.ref W_WORDS))) (l_WORDS : K.lookup W_WORDS = some ⟨.type "tuple", od_WORDS, .seq #[.str "at" tk_WORDS0, .str "from" tk_WORDS1, .str "upto" tk_WORDS2] n_WORDS, sl_WORDS⟩)
    {C_x0 : Addr}
    {C_NoText fx_NoText : Addr} {nm_NoText q_NoText : Str} {N_NoText : Addr} {bs_NoText : List Value} {sn_NoText : List Str} {sub_NoText : List Value} {ab_NoText : Bool} {col_NoText : Option Bool} {dd_NoText odx_NoText anx_NoText : Option Addr} {m0_NoText m1_NoText m2_NoText m3_NoText m5_NoText : Option Value} {slx_NoText : Array (Option Value)} {ocx_NoText kVx_NoText dcx_NoText pmx_NoText cdx_NoText ctx_NoText : Value}
    (xa_NoText : PySem.W.nsIn K mainGlobals "NoText" = some (some (.ref C_NoText))) (xL_NoText : K.lookup C_NoText = some (excClassObj nm_NoText q_NoText C_NoText N_NoText bs_NoText [.ref C_x0, .type "ValueError", .type "Exception", .type "BaseException", .type "object"] true sn_NoText sub_NoText ab_NoText col_NoText dd_NoText m0_NoText m1_NoText m2_NoText m3_NoText m5_NoText "ValueError.__new__")) (xs_NoText : PySem.W.findIn K (.ref C_NoText) "__setattr__" = some (some (.builtin "object.__setattr__"))) (xe_NoText : PySem.W.subIn K (.ref C_NoText) (.type "BaseException") = some true) (xt_NoText : PySem.W.typeIn K (.ref C_NoText) = some (.type "type")) (xk_NoText : PySem.W.keepIn K (.ref C_NoText) = true) (xn_NoText : PySem.W.findIn K (.ref C_NoText) "what" = some none) (xi_NoText : PySem.W.findIn K (.ref C_NoText) "__init__" = some (some (.ref fx_NoText))) (xf_NoText : PySem.W.typeIn K (.ref fx_NoText) = some (.type "function")) (xc_NoText : PySem.W.isClsIn K C_NoText = true) (xl_NoText : K.lookup fx_NoText = some ⟨ocx_NoText, odx_NoText, .func (PySem.W.fnOf "__init__" "NoText.__init__" (defArgs s_xNoText) (defBody s_xNoText) (defScope s_xNoText) .none kVx_NoText dcx_NoText pmx_NoText anx_NoText cdx_NoText ctx_NoText), slx_NoText⟩) (xd_NoText : PySem.W.codeIn K cdx_NoText "NoText.__init__" = true) (xp_NoText : PySem.W.keepIn K (.ref fx_NoText) = true)
    (a_tray : PySem.W.nsIn K mainGlobals "_law_tray" = some (some (.ref f_tray))) (l_tray : K.lookup f_tray = some ⟨oc_tray, od_tray, .func (PySem.W.fnOf "_law_tray" "_law_tray" (defArgs s_tray) (defBody s_tray) (defScope s_tray) .none kV_tray dc_tray pm_tray an_tray cd_tray ct_tray), sl_tray⟩) (c_tray : PySem.W.codeIn K cd_tray "_law_tray" = true) (k_tray : PySem.W.keepIn K (.ref f_tray) = true)
    (a_draw : PySem.W.nsIn K mainGlobals "_law_draw" = some (some (.ref f_draw))) (l_draw : K.lookup f_draw = some ⟨oc_draw, od_draw, .func (PySem.W.fnOf "_law_draw" "_law_draw" (defArgs s_draw) (defBody s_draw) (defScope s_draw) .none kV_draw dc_draw pm_draw an_draw cd_draw ct_draw), sl_draw⟩) (c_draw : PySem.W.codeIn K cd_draw "_law_draw" = true) (k_draw : PySem.W.keepIn K (.ref f_draw) = true)
    (a_great : PySem.W.nsIn K mainGlobals "_law_great" = some (some (.ref f_great))) (l_great : K.lookup f_great = some ⟨oc_great, od_great, .func (PySem.W.fnOf "_law_great" "_law_great" (defArgs s_great) (defBody s_great) (defScope s_great) .none kV_great dc_great pm_great an_great cd_great ct_great), sl_great⟩) (c_great : PySem.W.codeIn K cd_great "_law_great" = true) (k_great : PySem.W.keepIn K (.ref f_great) = true)
    (a_alike : PySem.W.nsIn K mainGlobals "_law_alike" = some (some (.ref f_alike))) (l_alike : K.lookup f_alike = some ⟨oc_alike, od_alike, .func (PySem.W.fnOf "_law_alike" "_law_alike" (defArgs s_alike) (defBody s_alike) (defScope s_alike) .none kV_alike dc_alike pm_alike an_alike cd_alike ct_alike), sl_alike⟩) (c_alike : PySem.W.codeIn K cd_alike "_law_alike" = true) (k_alike : PySem.W.keepIn K (.ref f_alike) = true)
    (a_wj : PySem.W.nsIn K mainGlobals "words_joined" = some (some (.ref f_wj))) (l_wj : K.lookup f_wj = some ⟨oc_wj, od_wj, .func (PySem.W.fnOf "words_joined" "words_joined" (defArgs s_wj) (defBody s_wj) (defScope s_wj) .none kV_wj dc_wj pm_wj an_wj cd_wj ct_wj), sl_wj⟩) (c_wj : PySem.W.codeIn K cd_wj "words_joined" = true) (k_wj : PySem.W.keepIn K (.ref f_wj) = true)
    (a_shl : PySem.W.nsIn K mainGlobals "show_look" = some (some (.ref f_shl))) (l_shl : K.lookup f_shl = some ⟨oc_shl, od_shl, .func (PySem.W.fnOf "show_look" "show_look" (defArgs s_shl) (defBody s_shl) (defScope s_shl) .none kV_shl dc_shl pm_shl an_shl cd_shl ct_shl), sl_shl⟩) (c_shl : PySem.W.codeIn K cd_shl "show_look" = true) (k_shl : PySem.W.keepIn K (.ref f_shl) = true)
    (a_nin : PySem.W.nsIn K mainGlobals "number_in" = some (some (.ref f_nin))) (l_nin : K.lookup f_nin = some ⟨oc_nin, od_nin, .func (PySem.W.fnOf "number_in" "number_in" (defArgs s_nin) (defBody s_nin) (defScope s_nin) .none kV_nin dc_nin pm_nin an_nin cd_nin ct_nin), sl_nin⟩) (c_nin : PySem.W.codeIn K cd_nin "number_in" = true) (k_nin : PySem.W.keepIn K (.ref f_nin) = true)
    (a_nsin : PySem.W.nsIn K mainGlobals "numbers_in" = some (some (.ref f_nsin))) (l_nsin : K.lookup f_nsin = some ⟨oc_nsin, od_nsin, .func (PySem.W.fnOf "numbers_in" "numbers_in" (defArgs s_nsin) (defBody s_nsin) (defScope s_nsin) .none kV_nsin dc_nsin pm_nsin an_nsin cd_nsin ct_nsin), sl_nsin⟩) (c_nsin : PySem.W.codeIn K cd_nsin "numbers_in" = true) (k_nsin : PySem.W.keepIn K (.ref f_nsin) = true)
    (a_lin : PySem.W.nsIn K mainGlobals "look_in" = some (some (.ref f_lin))) (l_lin : K.lookup f_lin = some ⟨oc_lin, od_lin, .func (PySem.W.fnOf "look_in" "look_in" (defArgs s_lin) (defBody s_lin) (defScope s_lin) .none kV_lin dc_lin pm_lin an_lin cd_lin ct_lin), sl_lin⟩) (c_lin : PySem.W.codeIn K cd_lin "look_in" = true) (k_lin : PySem.W.keepIn K (.ref f_lin) = true)
    (a_rdl : PySem.W.nsIn K mainGlobals "read_look" = some (some (.ref f_rdl))) (l_rdl : K.lookup f_rdl = some ⟨oc_rdl, od_rdl, .func (PySem.W.fnOf "read_look" "read_look" (defArgs s_rdl) (defBody s_rdl) (defScope s_rdl) .none kV_rdl dc_rdl pm_rdl an_rdl cd_rdl ct_rdl), sl_rdl⟩) (c_rdl : PySem.W.codeIn K cd_rdl "read_look" = true) (k_rdl : PySem.W.keepIn K (.ref f_rdl) = true)
    (a_far : PySem.W.nsIn K mainGlobals "_law_far_number" = some (some (.ref f_far))) (l_far : K.lookup f_far = some ⟨oc_far, od_far, .func (PySem.W.fnOf "_law_far_number" "_law_far_number" (defArgs s_far) (defBody s_far) (defScope s_far) .none kV_far dc_far pm_far an_far cd_far ct_far), sl_far⟩) (c_far : PySem.W.codeIn K cd_far "_law_far_number" = true) (k_far : PySem.W.keepIn K (.ref f_far) = true)
    (a_law : PySem.W.nsIn K mainGlobals "law" = some (some (.ref f_law))) (l_law : K.lookup f_law = some ⟨oc_law, od_law, .func (PySem.W.fnOf "law" "law" (defArgs s_law) (defBody s_law) (defScope s_law) .none kV_law dc_law pm_law an_law cd_law ct_law), sl_law⟩) (c_law : PySem.W.codeIn K cd_law "law" = true) (k_law : PySem.W.keepIn K (.ref f_law) = true)
    (y_max : PySem.W.nsIn K mainGlobals "max" = some none)
    (y_range : PySem.W.nsIn K mainGlobals "range" = some none)
    (y_isinstance : PySem.W.nsIn K mainGlobals "isinstance" = some none)
    (y_bool : PySem.W.nsIn K mainGlobals "bool" = some none)
    (y_int : PySem.W.nsIn K mainGlobals "int" = some none)
    (y_str : PySem.W.nsIn K mainGlobals "str" = some none)
    (y_list : PySem.W.nsIn K mainGlobals "list" = some none)
    (y_tuple : PySem.W.nsIn K mainGlobals "tuple" = some none)
    (y_len : PySem.W.nsIn K mainGlobals "len" = some none)
    (y_all : PySem.W.nsIn K mainGlobals "all" = some none) :
    ∃ fd : FuncData, (∀ (s : Shared) (v : Value), BindsTo s fd ⟨[v], []⟩ [("script", v)]) ∧ ∀ base : Heap, K.In base → base.Ns mainGlobals mg → FnOk l.prog w K mg base (L2.CX l.prog w) 6 fa fd ["script"] (liftF K pfLaw) := by
  have e := hfa.symm.trans (PySem.W.mg_of X G a_law)
  cases e
  have m_max := PySem.W.mg_none_of X G y_max
  have m_range := PySem.W.mg_none_of X G y_range
  have m_isinstance := PySem.W.mg_none_of X G y_isinstance
  have m_bool := PySem.W.mg_none_of X G y_bool
  have m_int := PySem.W.mg_none_of X G y_int
  have m_str := PySem.W.mg_none_of X G y_str
  have m_list := PySem.W.mg_none_of X G y_list
  have m_tuple := PySem.W.mg_none_of X G y_tuple
  have m_len := PySem.W.mg_none_of X G y_len
  have m_all := PySem.W.mg_none_of X G y_all
  have G_BLANK : PGlob K mg "BLANK" (.str " ") := glob_str (PySem.W.mg_of X G a_BLANK)
  have G_MINUS : PGlob K mg "MINUS" (.str "-") := glob_str (PySem.W.mg_of X G a_MINUS)
  have G_FIGURES : PGlob K mg "FIGURES" (.str "0123456789") := glob_str (PySem.W.mg_of X G a_FIGURES)
  have G_MOST_FIGURES : PGlob K mg "MOST_FIGURES" (.int 60) := glob_int (PySem.W.mg_of X G a_MOST_FIGURES)
  have G_WORDS : PGlob K mg "WORDS" (.tup ((["at", "from", "upto"] : List Str).map D.str)) := glob_strs (PySem.W.mg_of X G a_WORDS) l_WORDS rfl rfl (Nat.le_of_ble_eq_true rfl) (.cons ⟨_, rfl⟩ <| .cons ⟨_, rfl⟩ <| .cons ⟨_, rfl⟩ <| .nil)
  have Fx_NoText := fun_mk (st := s_xNoText) xl_NoText xd_NoText xp_NoText
  have Ox_NoText : L2.OexC K C_NoText := ⟨⟨_, _, _, _, _, _, _, _, _, _, _, _, _, _, _, xL_NoText, by first | rfl | decide +kernel⟩, xs_NoText, xe_NoText, xt_NoText, xk_NoText⟩
  have F_tray := fun_mk (st := s_tray) l_tray c_tray k_tray
  have F_draw := fun_mk (st := s_draw) l_draw c_draw k_draw
  have F_great := fun_mk (st := s_great) l_great c_great k_great
  have F_alike := fun_mk (st := s_alike) l_alike c_alike k_alike
  have F_wj := fun_mk (st := s_wj) l_wj c_wj k_wj
  have F_shl := fun_mk (st := s_shl) l_shl c_shl k_shl
  have F_nin := fun_mk (st := s_nin) l_nin c_nin k_nin
  have F_nsin := fun_mk (st := s_nsin) l_nsin c_nsin k_nsin
  have F_lin := fun_mk (st := s_lin) l_lin c_lin k_lin
  have F_rdl := fun_mk (st := s_rdl) l_rdl c_rdl k_rdl
  have F_far := fun_mk (st := s_far) l_far c_far k_far
  have F_law := fun_mk (st := s_law) l_law c_law k_law
  have b_tray := F_tray.binds (ps := ["script"]) fun _ _ _ _ _ _ us hl => match us, hl with | [_], _ => rfl
  have b_draw := F_draw.binds (ps := ["tray", "many"]) fun _ _ _ _ _ _ us hl => match us, hl with | [_, _], _ => rfl
  have b_great := F_great.binds (ps := ["tray"]) fun _ _ _ _ _ _ us hl => match us, hl with | [_], _ => rfl
  have b_alike := F_alike.binds (ps := ["found", "due"]) fun _ _ _ _ _ _ us hl => match us, hl with | [_, _], _ => rfl
  have b_wj := F_wj.binds (ps := ["things"]) fun _ _ _ _ _ _ us hl => match us, hl with | [_], _ => rfl
  have b_shl := F_shl.binds (ps := ["look"]) fun _ _ _ _ _ _ us hl => match us, hl with | [_], _ => rfl
  have b_nin := F_nin.binds (ps := ["word"]) fun _ _ _ _ _ _ us hl => match us, hl with | [_], _ => rfl
  have b_nsin := F_nsin.binds (ps := ["words", "many"]) fun _ _ _ _ _ _ us hl => match us, hl with | [_, _], _ => rfl
  have b_lin := F_lin.binds (ps := ["text"]) fun _ _ _ _ _ _ us hl => match us, hl with | [_], _ => rfl
  have b_rdl := F_rdl.binds (ps := ["text"]) fun _ _ _ _ _ _ us hl => match us, hl with | [_], _ => rfl
  have b_far := F_far.binds (ps := ["tray"]) fun _ _ _ _ _ _ us hl => match us, hl with | [_], _ => rfl
  refine ⟨PySem.W.fnOf "law" "law" (defArgs s_law) (defBody s_law) (defScope s_law) .none kV_law dc_law pm_law an_law cd_law ct_law, fun s v => .of_eq rfl, fun base _ _ => ?_⟩
  have X_NoText : XDef l.prog w K mg base "NoText" C_NoText := ⟨PySem.W.mg_of X G xa_NoText, Ox_NoText, ⟨fx_NoText, _, xi_NoText, xf_NoText, ok_what Fx_NoText sc_xNoText rfl rfl rfl Ox_NoText xn_NoText, Fx_NoText.binds (ps := ["self", "what"]) fun _ _ _ _ _ _ us hl => match us, hl with | [_, _], _ => rfl⟩⟩
  have D_tray : Def l.prog w K mg base "_law_tray" f_tray _ ["script"] 1 (pfTray) := ⟨PySem.W.mg_of X G a_tray, k_tray, b_tray, ok_tray F_tray m_max⟩
  have D_draw : Def l.prog w K mg base "_law_draw" f_draw _ ["tray", "many"] 1 (pfDraw) := ⟨PySem.W.mg_of X G a_draw, k_draw, b_draw, ok_draw F_draw⟩
  have D_great : Def l.prog w K mg base "_law_great" f_great _ ["tray"] 2 (pfGreat) := ⟨PySem.W.mg_of X G a_great, k_great, b_great, ok_great F_great m_range D_draw⟩
  have D_alike : Def l.prog w K mg base "_law_alike" f_alike _ ["found", "due"] 5 (pfAlike 4) := ⟨PySem.W.mg_of X G a_alike, k_alike, b_alike, ok_alike F_alike (PySem.W.mg_of X G a_alike) k_alike b_alike m_isinstance m_bool m_int m_str m_list m_tuple m_len m_range 4⟩
  have D_wj : Def l.prog w K mg base "words_joined" f_wj _ ["things"] 1 (pfWj) := ⟨PySem.W.mg_of X G a_wj, k_wj, b_wj, ok_wj F_wj G_BLANK m_str⟩
  have D_shl : Def l.prog w K mg base "show_look" f_shl _ ["look"] 2 (pfShl) := ⟨PySem.W.mg_of X G a_shl, k_shl, b_shl, ok_shl F_shl D_wj⟩
  have B_shl : KwB K _ ["look"] ["look"] [0] := kwb_of F_shl fun _ _ _ _ _ _ ws h => match ws, h with | [_], _ => rfl
  have D_nin : Def l.prog w K mg base "number_in" f_nin _ ["word"] 1 (pfNin) := ⟨PySem.W.mg_of X G a_nin, k_nin, b_nin, ok_nin F_nin G_MINUS G_FIGURES G_MOST_FIGURES m_len m_all m_int⟩
  have D_nsin : Def l.prog w K mg base "numbers_in" f_nsin _ ["words", "many"] 2 (pfNsin) := ⟨PySem.W.mg_of X G a_nsin, k_nsin, b_nsin, ok_nsin F_nsin m_len m_tuple D_nin⟩
  have D_lin : Def l.prog w K mg base "look_in" f_lin _ ["text"] 3 (pfLin) := ⟨PySem.W.mg_of X G a_lin, k_lin, b_lin, ok_lin F_lin G_BLANK G_WORDS D_nsin⟩
  have D_rdl : Def l.prog w K mg base "read_look" f_rdl _ ["text"] 4 (pfRdl C_NoText) := ⟨PySem.W.mg_of X G a_rdl, k_rdl, b_rdl, ok_rdl F_rdl X_NoText D_lin⟩
  have B_rdl : KwB K _ ["text"] ["text"] [0] := kwb_of F_rdl fun _ _ _ _ _ _ ws h => match ws, h with | [_], _ => rfl
  have D_far : Def l.prog w K mg base "_law_far_number" f_far _ ["tray"] 3 (pfFar) := ⟨PySem.W.mg_of X G a_far, k_far, b_far, ok_far F_far D_draw D_great⟩
  exact ok_law F_law m_range m_len m_str D_tray D_draw D_far D_shl B_shl D_rdl B_rdl D_alike
end My
open PySem PySem.W PyProof.Rows in
set_option maxRecDepth 100000 in
set_option maxHeartbeats 0 in
theorem PySem.Challenge.cw_darkpace_k50_looks_written_holds : PySem.Challenge.rw_darkpace_k50_looks_written.Holds := by
  w_on; o_law; k_head; (case hw => w_witness2)
  k_fill
  refine L2.walk_of (l := PySem.Challenge.rw_darkpace_k50_looks_written) (n := 63) (k := 6) (x := "script") (CX := fun w => L2.CX PySem.Challenge.rw_darkpace_k50_looks_written.prog w) (sp := fun w => PL.liftF _ My.pfLaw) rfl (by decide) rfl ⟨rfl, by decide, by decide⟩ (fun w h Y => PySem.W.kIn_of Y) ?F (fun _ H a ns hl ho hS => My.law_start hl hS) (fun _ _ _ _ _ h => by obtain ⟨_, _, _, _, _, _, _, _, _, _, _, _, z⟩ := h; exact z)
  case F =>
    intro w mg fa h KX G hmg
    refine' My.all_mk KX G hmg ?a_BLANK ?a_MINUS ?a_FIGURES ?a_MOST_FIGURES ?a_WORDS ?l_WORDS ?xa_NoText ?xL_NoText ?xs_NoText ?xe_NoText ?xt_NoText ?xk_NoText ?xn_NoText ?xi_NoText ?xf_NoText ?xc_NoText ?xl_NoText ?xd_NoText ?xp_NoText ?a_tray ?l_tray ?c_tray ?k_tray ?a_draw ?l_draw ?c_draw ?k_draw ?a_great ?l_great ?c_great ?k_great ?a_alike ?l_alike ?c_alike ?k_alike ?a_wj ?l_wj ?c_wj ?k_wj ?a_shl ?l_shl ?c_shl ?k_shl ?a_nin ?l_nin ?c_nin ?k_nin ?a_nsin ?l_nsin ?c_nsin ?k_nsin ?a_lin ?l_lin ?c_lin ?k_lin ?a_rdl ?l_rdl ?c_rdl ?k_rdl ?a_far ?l_far ?c_far ?k_far ?a_law ?l_law ?c_law ?k_law ?y_max ?y_range ?y_isinstance ?y_bool ?y_int ?y_str ?y_list ?y_tuple ?y_len ?y_all
    (case a_BLANK => k_is)
    (case a_MINUS => k_is)
    (case a_FIGURES => k_is)
    (case a_MOST_FIGURES => k_is)
    (case a_WORDS => k_is)
    (case l_WORDS => k_is)
    (case xa_NoText => k_is)
    (case xL_NoText => k_is)
    (case xs_NoText => k_is)
    (case xe_NoText => k_is)
    (case xt_NoText => k_is)
    (case xk_NoText => k_is)
    (case xn_NoText => k_is)
    (case xi_NoText => k_is)
    (case xf_NoText => k_is)
    (case xc_NoText => k_is)
    (case xl_NoText => k_is)
    (case xd_NoText => k_is)
    (case xp_NoText => k_is)
    (case a_tray => k_is)
    (case l_tray => k_is)
    (case c_tray => k_is)
    (case k_tray => k_is)
    (case a_draw => k_is)
    (case l_draw => k_is)
    (case c_draw => k_is)
    (case k_draw => k_is)
    (case a_great => k_is)
    (case l_great => k_is)
    (case c_great => k_is)
    (case k_great => k_is)
    (case a_alike => k_is)
    (case l_alike => k_is)
    (case c_alike => k_is)
    (case k_alike => k_is)
    (case a_wj => k_is)
    (case l_wj => k_is)
    (case c_wj => k_is)
    (case k_wj => k_is)
    (case a_shl => k_is)
    (case l_shl => k_is)
    (case c_shl => k_is)
    (case k_shl => k_is)
    (case a_nin => k_is)
    (case l_nin => k_is)
    (case c_nin => k_is)
    (case k_nin => k_is)
    (case a_nsin => k_is)
    (case l_nsin => k_is)
    (case c_nsin => k_is)
    (case k_nsin => k_is)
    (case a_lin => k_is)
    (case l_lin => k_is)
    (case c_lin => k_is)
    (case k_lin => k_is)
    (case a_rdl => k_is)
    (case l_rdl => k_is)
    (case c_rdl => k_is)
    (case k_rdl => k_is)
    (case a_far => k_is)
    (case l_far => k_is)
    (case c_far => k_is)
    (case k_far => k_is)
    (case a_law => k_is)
    (case l_law => k_is)
    (case c_law => k_is)
    (case k_law => k_is)
    (case y_max => k_is)
    (case y_range => k_is)
    (case y_isinstance => k_is)
    (case y_bool => k_is)
    (case y_int => k_is)
    (case y_str => k_is)
    (case y_list => k_is)
    (case y_tuple => k_is)
    (case y_len => k_is)
    (case y_all => k_is)
