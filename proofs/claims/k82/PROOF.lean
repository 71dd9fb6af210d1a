import PyProof.Rows.All
import Wide.All
import OpenK.AllK
import Wide.FinOn
import HandS.ForMost
import HandS.ForExc
import HandS.Nested
import HandS.CallLocal
import HandS.EndTab
import HandS.TupAny
import HandS.WideBits
import HandS.Gcd
import HandS.IsInst
import HandS.Star
import KE.DataEq
import KE.DataCmp
import KE.LtData
import HandS.Walk
import HandS.Zip
import KE.GoesMore
import KE.SortKeyHeap
import HandS.ExcValue
import HandS.Small
import HandS.ExcIs
import HandS.Conv
import PySem.Challenge.RW_swingrooms_k82_whole_sterns
set_option Elab.async false
set_option linter.all false
set_option maxRecDepth 100000
set_option maxHeartbeats 2000000
namespace DS
open PySem PySem.Spec PyProof.Rows L2 LamX NdefX

abbrev D := PyData
/-- the contents of the mutable lists -/
abbrev Ms := List (Option (List D))
abbrev As := List (Option Addr)
/-- where the mutable lists stand; what is hidden besides -/
structure Vw where
  as : As
  ex : List Addr
def Hid (w : Vw) (b : Addr) : Prop := some b ∈ w.as ∨ b ∈ w.ex
instance (w : Vw) (b : Addr) : Decidable (Hid w b) := by unfold Hid; infer_instance
def msk (w : Vw) (H : Hp) : Hp := fun b => if Hid w b then none else H b
theorem msk_of {w : Vw} {H : Hp} {b : Addr} {o : HO} (h : H b = some o) (n : ¬ Hid w b) : msk w H b = some o := by
  unfold msk; rw [if_neg n]; exact h
theorem of_msk {w : Vw} {H : Hp} {b : Addr} {o : HO} (h : msk w H b = some o) : H b = some o ∧ ¬ Hid w b := by
  unfold msk at h
  split at h
  · cases h
  · rename_i n; exact ⟨h, n⟩


mutual
/-- a value is the data d (lists stand in the heap, none in the written part) -/
inductive Rp (K : PySem.W.Frag) (H : Hp) : V → PyData → Prop
  | non : Rp K H .non .none
  | bl (b : Bool) : Rp K H (.bl b) (.bool b)
  | int (i : Int) : Rp K H (.int i) (.int i)
  | str (x : Str) : Rp K H (.str x) (.str x)
  | lst {a : Addr} {xs : List V} {ds : List PyData} : SqL K H a xs → RpAll K H xs ds → Rp K H (.ref a) (.list ds)
  | tup {a : Addr} {xs : List V} {ds : List PyData} : SqT K H a xs → RpAll K H xs ds → Rp K H (.ref a) (.tuple ds)
inductive RpAll (K : PySem.W.Frag) (H : Hp) : List V → List PyData → Prop
  | nil : RpAll K H [] []
  | cons {v : V} {vs : List V} {d : PyData} {ds : List PyData} : Rp K H v d → RpAll K H vs ds → RpAll K H (v :: vs) (d :: ds)
end
section
variable {K : PySem.W.Frag} {H H' : Hp}
theorem rd_ext {a : Addr} {xs : List V} (e : ExtN H H') (h : Rd H a (.lst xs)) : Rd H' a (.lst xs) := by
  rcases h with h | ⟨o, h⟩
  · exact .inl (e _ _ h fun ps => by simp)
  · exact .inr ⟨o, e _ _ h fun ps => by simp⟩
theorem sql_ext {a : Addr} {xs : List V} (e : ExtN H H') (h : SqL K H a xs) : SqL K H' a xs := by
  rcases h with (h | ⟨o, h⟩) | h
  · exact .inl (.inl (e _ _ h fun ps => by simp))
  · exact .inl (.inr ⟨o, e _ _ h fun ps => by simp⟩)
  · exact .inr h
theorem sqt_ext {a : Addr} {xs : List V} (e : ExtN H H') (h : SqT K H a xs) : SqT K H' a xs := by
  rcases h with (h | ⟨o, h⟩) | h
  · exact .inl (.inl (e _ _ h fun ps => by simp))
  · exact .inl (.inr ⟨o, e _ _ h fun ps => by simp⟩)
  · exact .inr h
mutual
theorem dp_ext (e : ExtN H H') : ∀ (d : PyData) (v : V), Rp K H v d → Rp K H' v d
  | .none, _, h => by cases h; exact .non
  | .bool _, _, h => by cases h; exact .bl _
  | .int _, _, h => by cases h; exact .int _
  | .str _, _, h => by cases h; exact .str _
  | .list ds, _, h => by cases h with | lst h1 h2 => exact .lst (sql_ext e h1) (dpa_ext e ds _ h2)
  | .tuple ds, _, h => by cases h with | tup h1 h2 => exact .tup (sqt_ext e h1) (dpa_ext e ds _ h2)
  | .dict _, _, h => by cases h
theorem dpa_ext (e : ExtN H H') : ∀ (ds : List PyData) (vs : List V), RpAll K H vs ds → RpAll K H' vs ds
  | [], _, h => by cases h; exact .nil
  | d :: ds, _, h => by cases h with | cons h1 h2 => exact .cons (dp_ext e d _ h1) (dpa_ext e ds _ h2)
end

mutual
theorem Rp.dp : ∀ (d : PyData) (v : V), Rp K H v d → Dp K H v d
  | .none, _, h => by cases h; exact .non
  | .bool _, _, h => by cases h; exact .bl _
  | .int _, _, h => by cases h; exact .int _
  | .str _, _, h => by cases h; exact .str _
  | .list ds, _, h => by cases h with | lst h1 h2 => exact .lst h1 (RpAll.dp ds _ h2)
  | .tuple ds, _, h => by cases h with | tup h1 h2 => exact .tup h1 (RpAll.dp ds _ h2)
  | .dict _, _, h => by cases h
theorem RpAll.dp : ∀ (ds : List PyData) (vs : List V), RpAll K H vs ds → DpAll K H vs ds
  | [], _, h => by cases h; exact .nil
  | d :: ds, _, h => by cases h with | cons h1 h2 => exact .cons (Rp.dp d _ h1) (RpAll.dp ds _ h2)
end
mutual
theorem Rp.plain : ∀ (d : PyData) (v : V), Rp K H v d → d.plain = true
  | .none, _, h => rfl
  | .bool _, _, h => rfl
  | .int _, _, h => rfl
  | .str _, _, h => rfl
  | .list ds, _, h => by cases h with | lst h1 h2 => simp only [PyData.plain]; exact RpAll.plain ds _ h2
  | .tuple ds, _, h => by cases h with | tup h1 h2 => simp only [PyData.plain]; exact RpAll.plain ds _ h2
  | .dict _, _, h => by cases h
theorem RpAll.plain : ∀ (ds : List PyData) (vs : List V), RpAll K H vs ds → PyData.plainAll ds = true
  | [], _, h => rfl
  | d :: ds, _, h => by cases h with | cons h1 h2 => simp [PyData.plainAll, Rp.plain d _ h1, RpAll.plain ds _ h2]
end
theorem dpa_len : ∀ {ds : List PyData} {vs : List V}, RpAll K H vs ds → vs.length = ds.length
  | [], _, h => by cases h; rfl
  | d :: ds, _, h => by cases h with | cons h1 h2 => simp [dpa_len h2]
theorem dpa_get : ∀ {ds : List PyData} {vs : List V}, RpAll K H vs ds → ∀ {i : Nat} {d : D}, ds[i]? = some d → ∃ v, vs[i]? = some v ∧ Rp K H v d
  | [], _, h, i, d, e => by simp at e
  | d :: ds, _, h, 0, d', e => by
    cases h with | cons h1 h2 => simp at e; subst e; exact ⟨_, rfl, h1⟩
  | d :: ds, _, h, i + 1, d', e => by
    cases h with | cons h1 h2 => obtain ⟨v, a, b⟩ := dpa_get h2 (i := i) (d := d') (by simpa using e); exact ⟨v, by simpa using a, b⟩
theorem dpa_get' : ∀ {ds : List PyData} {vs : List V}, RpAll K H vs ds → ∀ {i : Nat} {v : V}, vs[i]? = some v → ∃ d, ds[i]? = some d ∧ Rp K H v d := fun {ds vs} h {i v} e => by
  have hl := dpa_len h
  obtain ⟨h1, h2⟩ := List.getElem?_eq_some_iff.mp e
  have h3 : i < ds.length := by omega
  obtain ⟨v', a, b⟩ := dpa_get h (i := i) (d := ds[i]) (List.getElem?_eq_getElem h3)
  rw [a] at e; cases e
  exact ⟨_, List.getElem?_eq_getElem h3, b⟩
theorem dpa_app : ∀ {ds es : List PyData} {vs us : List V}, RpAll K H vs ds → RpAll K H us es → RpAll K H (vs ++ us) (ds ++ es)
  | [], _, _, _, h, h' => by cases h; exact h'
  | d :: ds, _, _, _, h, h' => by cases h with | cons h1 h2 => exact .cons h1 (dpa_app h2 h')
theorem dpa_take : ∀ {ds : List PyData} {vs : List V} (n : Nat), RpAll K H vs ds → RpAll K H (vs.take n) (ds.take n)
  | ds, vs, 0, h => by simp; exact .nil
  | [], _, n + 1, h => by cases h; simp; exact .nil
  | d :: ds, _, n + 1, h => by cases h with | cons h1 h2 => simp; exact .cons h1 (dpa_take n h2)
theorem dpa_drop : ∀ {ds : List PyData} {vs : List V} (n : Nat), RpAll K H vs ds → RpAll K H (vs.drop n) (ds.drop n)
  | ds, vs, 0, h => by simpa using h
  | [], _, n + 1, h => by cases h; simp; exact .nil
  | d :: ds, _, n + 1, h => by cases h with | cons h1 h2 => simpa using dpa_drop n h2
theorem dpa_set : ∀ {ds : List PyData} {vs : List V} {v : V} {d : D} (n : Nat), RpAll K H vs ds → Rp K H v d → RpAll K H (vs.set n v) (ds.set n d)
  | [], _, _, _, n, h, hd => by cases h; simp; exact .nil
  | d :: ds, _, _, _, 0, h, hd => by cases h with | cons h1 h2 => simp; exact .cons hd h2
  | d :: ds, _, _, _, n + 1, h, hd => by cases h with | cons h1 h2 => simp; exact .cons h1 (dpa_set n h2 hd)
end

/-- what a name holds: unknown, a value, a mutable list (the caller's, an own one), a closure that was handed in -/
inductive Slot where
  | un | v (d : D) | ob (k : Nat) | ow (k : Nat) | fn (i : Nat) | os (ks : List Nat)
structure Exc where
  cls : Str
  pay : Option (Str × D)
/-- what a run comes to -/
inductive Res (α : Type) where
  | bad | ok (a : α) (m : Ms) | exc (x : Exc) (m : Ms)
def Res.bind {α β : Type} (r : Res α) (f : α → Ms → Res β) : Res β := match r with
  | .bad => .bad
  | .ok a m => f a m
  | .exc x m => .exc x m
@[simp] theorem Res.bind_ok {α β : Type} (a : α) (m : Ms) (f : α → Ms → Res β) : (Res.ok a m).bind f = f a m := rfl
@[simp] theorem Res.bind_bad {α β : Type} (f : α → Ms → Res β) : (Res.bad : Res α).bind f = .bad := rfl
@[simp] theorem Res.bind_exc {α β : Type} (x : Exc) (m : Ms) (f : α → Ms → Res β) : (Res.exc x m : Res α).bind f = .exc x m := rfl
abbrev FnSem := List Slot → Ms → Res D
abbrev WX := Value → Option Addr → L2.St → Hp → Prop
/-- tables of code objects; closures' objects -/
structure Tk where
  tabs : List (Addr × Str)
  fx : List (Addr × HO)
structure Tb (t : Tk) (H : Hp) : Prop where
  tabs : Tabs t.tabs H
  fx : ∀ p ∈ t.fx, H p.1 = some p.2 ∧ ∃ φ, p.2 = .ext φ
theorem Tb.ext {t : Tk} {H H' : Hp} (h : Tb t H) (e : ∀ b o, H b = some o → H' b = some o) : Tb t H' := ⟨h.tabs.ext e, fun p hp => ⟨e _ _ (h.fx p hp).1, (h.fx p hp).2⟩⟩
/-- where one stands: the context, the tables of code objects, the closures handed in (bs: what stood when they were made), the wish of what is raised -/
structure J where
  X : Cx
  T : Tk
  fs : List Addr
  bs : List (Vw × Hp)
  W : WX

/-- the mutable lists stand as they are told -/
structure Obs (K : PySem.W.Frag) (w : Vw) (m : Ms) (H : Hp) : Prop where
  len : w.as.length = m.length
  at_ : ∀ (k : Nat) (a : Addr), w.as[k]? = some (some a) → ∃ ds vs, m[k]? = some (some ds) ∧ H a = some (.lst vs) ∧ RpAll K (msk w H) vs ds
  dead : ∀ (k : Nat), w.as[k]? = some none → m[k]? = some none
  inj : ∀ (i k : Nat) (a : Addr), w.as[i]? = some (some a) → w.as[k]? = some (some a) → i = k
  exs : ∀ b ∈ w.ex, (∃ o, H b = some o ∧ ∀ ps, o ≠ .tbl ps) ∧ some b ∉ w.as
/-- nothing stands there but, at most, a table -/
def NT (H : Hp) (b : Addr) : Prop := ∀ o, H b = some o → ∃ ps, o = .tbl ps
theorem NT.of {H : Hp} {b : Addr} (h : H b = none) : NT H b := fun o e => by rw [h] at e; cases e
theorem NT.ne {H : Hp} {a b : Addr} {o : HO} (h : NT H a) (e : H b = some o) (n : ∀ ps, o ≠ .tbl ps) : b ≠ a := fun z => by
  subst z
  obtain ⟨ps, hp⟩ := h o e
  exact n ps hp
/-- what is kept -/
structure Grow (w : Vw) (H H' : Hp) : Prop where
  keep : ∀ b o, H b = some o → (∀ ps, o ≠ .tbl ps) → some b ∉ w.as → H' b = some o
  there : ∀ b, NT H' b → NT H b
theorem Grow.refl (w : Vw) (H : Hp) : Grow w H H := ⟨fun _ _ h _ _ => h, fun _ h => h⟩
theorem Grow.trans {w : Vw} {H H1 H2 : Hp} (a : Grow w H H1) (b : Grow w H1 H2) : Grow w H H2 := ⟨fun c o h n x => b.keep c o (a.keep c o h n x) n x, fun c h => a.there c (b.there c h)⟩
theorem Grow.of {w : Vw} {H H' : Hp} (e : ∀ b o, H b = some o → H' b = some o) : Grow w H H' := ⟨fun b o h _ _ => e b o h, fun b h o q => h o (e b o q)⟩
theorem Grow.ext {w : Vw} {H H' : Hp} (g : Grow w H H') : ExtN (msk w H) (msk w H') := fun b o h n => by
  obtain ⟨h1, h2⟩ := of_msk h
  exact msk_of (g.keep b o h1 n fun z => h2 (.inl z)) h2
/-- behind an expression -/
structure Aft (j : J) (w : Vw) (m : Ms) (H H' : Hp) : Prop where
  grow : Grow w H H'
  tabs : Tb j.T H'
  obs : Obs j.X.K w m H'
theorem Aft.trans {j : J} {w : Vw} {m1 m2 : Ms} {H H1 H2 : Hp} (a : Aft j w m1 H H1) (b : Aft j w m2 H1 H2) : Aft j w m2 H H2 := ⟨a.grow.trans b.grow, b.tabs, b.obs⟩
def SlotOk (K : PySem.W.Frag) (fs : List Addr) (w : Vw) (H : Hp) (o : Option (Option V)) : Slot → Prop
  | .un => True
  | .v d => ∃ v, o = some (some v) ∧ Rp K (msk w H) v d
  | .ob k => ∃ a, o = some (some (.ref a)) ∧ (w.as[k]? = some (some a) ∨ w.as[k]? = some none)
  | .ow k => ∃ a, o = some (some (.ref a)) ∧ (w.as[k]? = some (some a) ∨ w.as[k]? = some none)
  | .fn i => ∃ a, o = some (some (.ref a)) ∧ fs[i]? = some a
  | .os ks => ∃ a vs, o = some (some (.ref a)) ∧ msk w H a = some (.lst vs) ∧ vs.length = ks.length ∧ ∀ (i k : Nat), ks[i]? = some k → ∃ b, vs[i]? = some (.ref b) ∧ (w.as[k]? = some (some b) ∨ w.as[k]? = some none)
structure En (j : J) (w : Vw) (ρ : List Slot) (m : Ms) (σ : L2.St) (H : Hp) : Prop where
  tabs : Tb j.T H
  obs : Obs j.X.K w m H
  len : ρ.length = σ.length
  sl : ∀ (i : Nat) x, ρ[i]? = some x → SlotOk j.X.K j.fs w H σ[i]? x
  bs : ∀ p ∈ j.bs, ExtN (msk p.1 p.2) (msk w H)
theorem SlotOk.ext {K : PySem.W.Frag} {fs : List Addr} {w w' : Vw} {H H' : Hp} {o : Option (Option V)} {x : Slot} (e : ExtN (msk w H) (msk w' H')) (ha : ∀ (k : Nat) (o : Option Addr), w.as[k]? = some o → w'.as[k]? = some o ∨ w'.as[k]? = some none) (h : SlotOk K fs w H o x) : SlotOk K fs w' H' o x := by
  cases x with
  | un => trivial
  | v d => obtain ⟨v, a, b⟩ := h; exact ⟨v, a, dp_ext e _ _ b⟩
  | ob k =>
    obtain ⟨a, b, c⟩ := h
    exact ⟨a, b, c.elim (fun z => ha _ _ z) fun z => .inr ((ha _ _ z).elim id id)⟩
  | ow k =>
    obtain ⟨a, b, c⟩ := h
    exact ⟨a, b, c.elim (fun z => ha _ _ z) fun z => .inr ((ha _ _ z).elim id id)⟩
  | fn i => exact h
  | os ks =>
    obtain ⟨a, vs, h1, h2, h3, h4⟩ := h
    refine ⟨a, vs, h1, e _ _ h2 (fun ps z => by cases z), h3, fun i k hk => ?_⟩
    obtain ⟨b, q1, q2⟩ := h4 i k hk
    exact ⟨b, q1, q2.elim (fun z => ha _ _ z) fun z => .inr ((ha _ _ z).elim id id)⟩
theorem En.step {j : J} {w : Vw} {ρ : List Slot} {m m' : Ms} {σ : L2.St} {H H' : Hp} (E : En j w ρ m σ H) (a : Aft j w m' H H') : En j w ρ m' σ H' :=
  ⟨a.tabs, a.obs, E.len, fun i x h => (E.sl i x h).ext a.grow.ext fun _ _ z => .inl z, fun p hp => (E.bs p hp).trans a.grow.ext⟩
theorem En.aft {j : J} {w : Vw} {ρ : List Slot} {m : Ms} {σ : L2.St} {H : Hp} (E : En j w ρ m σ H) : Aft j w m H H := ⟨.refl _ _, E.tabs, E.obs⟩

/-- an exception is the one that is told -/
def ExcIs (K : PySem.W.Frag) (mg : Str → Option Value) (w : Vw) (x : Exc) (cls : Value) (dd : Option Addr) (H : Hp) : Prop :=
  ∃ C, mg x.cls = some (.ref C) ∧ cls = .ref C ∧ match x.pay with
    | none => dd = none
    | some (f, d) => ∃ a v, dd = some a ∧ H a = some (.xd [(f, v)]) ∧ Rp K (msk w H) v d
def Post {α β : Type} (j : J) (w : Vw) (σ : L2.St) (H : Hp) (R : α → β → Hp → Prop) (Q : β → Hp → Prop) : Res α → Prop
  | .bad => False
  | .ok d m => ∀ v H', Aft j w m H H' → R d v H' → Q v H'
  | .exc x m => ∀ cls dd H', Aft j w m H H' → ExcIs j.X.K j.X.mg w x cls dd H' → j.W cls dd σ H'
section
variable {α β γ δ : Type} {j : J} {w : Vw} {σ : L2.St} {H H1 : Hp} {m : Ms}
theorem Post.at {R : α → β → Hp → Prop} {Q : β → Hp → Prop} {r : Res α} (h : Post j w σ H R Q r) (a : Grow w H H1) : Post j w σ H1 R Q r := by
  cases r with
  | bad => exact h
  | ok d m2 => exact fun v H' b r => h v H' ⟨a.trans b.grow, b.tabs, b.obs⟩ r
  | exc x m2 => exact fun c d H' b r => h c d H' ⟨a.trans b.grow, b.tabs, b.obs⟩ r
theorem Post.bind {R : α → β → Hp → Prop} {Q1 : β → Hp → Prop} {R' : γ → δ → Hp → Prop} {Q : δ → Hp → Prop} {r : Res α} {f : α → Ms → Res γ} (h : Post j w σ H R' Q (r.bind f))
    (k : ∀ d m1, r = .ok d m1 → ∀ v H1, Aft j w m1 H H1 → R d v H1 → Post j w σ H1 R' Q (f d m1) → Q1 v H1) : Post j w σ H R Q1 r := by
  cases r with
  | bad => exact h
  | ok d m1 => exact fun v H1 a r => k d m1 rfl v H1 a r (Post.at h a.grow)
  | exc x m1 => exact h
end

/-! ### expressions -/
abbrev DE := List Slot → Ms → Res D
abbrev DT := List Slot → Ms → Res Bool
abbrev DA := List Slot → Ms → Res (List D)
def RD (j : J) (w : Vw) : D → V → Hp → Prop := fun d v H => Rp j.X.K (msk w H) v d
def RB : Bool → Bool → Hp → Prop := fun b c _ => b = c
def RA (j : J) (w : Vw) : List D → List V → Hp → Prop := fun ds vs H => RpAll j.X.K (msk w H) vs ds
/-- an expression evaluates as g tells -/
def SE (j : J) (e : Expr) (g : DE) : Prop := ∃ t, PE j.X e t ∧ ∀ w ρ m σ H Q, En j w ρ m σ H → Post j w σ H (RD j w) Q (g ρ m) → t σ H Q
def ST (j : J) (e : Expr) (g : DT) : Prop := ∃ t, PT j.X e t ∧ ∀ w ρ m σ H Q, En j w ρ m σ H → Post j w σ H RB Q (g ρ m) → t σ H Q
def SW (j : J) (e : Expr) (g : DT) : Prop := ∃ t, PW j.X e t ∧ ∀ w ρ m σ H Q, En j w ρ m σ H → Post j w σ H RB Q (g ρ m) → t σ H Q
def SA (j : J) (es : List Expr) (g : DA) : Prop := ∃ t, PA j.X es t ∧ ∀ w ρ m σ H Q, En j w ρ m σ H → Post j w σ H (RA j w) Q (g ρ m) → t σ H Q
theorem dpa_grow {j : J} {w : Vw} {H H' : Hp} {ds : List D} {vs : List V} (g : Grow w H H') (h : RA j w ds vs H) : RA j w ds vs H' := dpa_ext g.ext _ _ h
theorem dp_grow {j : J} {w : Vw} {H H' : Hp} {d : D} {v : V} (g : Grow w H H') (h : RD j w d v H) : RD j w d v H' := dp_ext g.ext _ _ h

/-- a name -/
def eV (i : Nat) : DE := fun ρ m => match ρ[i]? with
  | some (.v d) => .ok d m
  | _ => .bad
def eC (d : D) : DE := fun _ m => .ok d m
section
variable {j : J} {a b c e : Expr} {ga gb gc : DE} {ta tb : DT} {pos : Pos}
theorem SE.var (i : Nat) {x : Str} (hN : j.X.N[i]? = some x := by rfl) (hv : Vis j.X.env.scope x := by first | exact Or.inl rfl | exact Or.inr (Or.inl rfl) | exact Or.inr (Or.inr rfl)) (hd : (x == ("__debug__" : Str)) = false := by decide)
    (hcd : (x == ("__classdict__" : Str)) = false := by decide) : SE j (.Name x pos) (eV i) := by
  refine ⟨_, pe_var hN hv hd hcd, fun w ρ m σ H Q E h => ?_⟩
  unfold eV at h
  cases hx : ρ[i]? with
  | none => rw [hx] at h; exact h.elim
  | some x =>
    rw [hx] at h
    have s := E.sl i x hx
    cases x with
    | un => exact h.elim
    | ob k => exact h.elim
    | ow k => exact h.elim
    | fn k => exact h.elim
    | os k => exact h.elim
    | v d =>
      obtain ⟨v, e1, e2⟩ := s
      exact ⟨v, e1, h v H E.aft e2⟩
theorem SE.int {i k} : SE j (.Constant (.int i) k pos) (eC (.int i)) := ⟨_, pe_int, fun w ρ m σ H Q E h => h _ H E.aft (.int _)⟩
theorem SE.bl {i k} : SE j (.Constant (.bool i) k pos) (eC (.bool i)) := ⟨_, pe_bl, fun w ρ m σ H Q E h => h _ H E.aft (.bl _)⟩
theorem SE.non {k} : SE j (.Constant .none k pos) (eC .none) := ⟨_, pe_non, fun w ρ m σ H Q E h => h _ H E.aft .non⟩
theorem SE.str {x k} : SE j (.Constant (.str x) k pos) (eC (.str x)) := ⟨_, pe_str, fun w ρ m σ H Q E h => h _ H E.aft (.str _)⟩

/-! ### operators -/
def lift {α : Type} (o : Option α) (m : Ms) : Res α := match o with
  | some a => .ok a m
  | none => .bad
@[simp] theorem lift_some {α : Type} (a : α) (m : Ms) : lift (some a) m = .ok a m := rfl
@[simp] theorem lift_none {α : Type} (m : Ms) : lift (none : Option α) m = .bad := rfl
def eBin (f : D → D → Option D) (a b : DE) : DE := fun ρ m => (a ρ m).bind fun x m => (b ρ m).bind fun y m => lift (f x y) m
def eUn (f : D → Option D) (a : DE) : DE := fun ρ m => (a ρ m).bind fun x m => lift (f x) m
theorem post_lift {β : Type} {α : Type} {w : Vw} {σ : L2.St} {H : Hp} {R : α → β → Hp → Prop} {Q : β → Hp → Prop} {o : Option α} {m : Ms} (h : Post j w σ H R Q (lift o m)) : ∃ z, o = some z ∧ ∀ v H', Aft j w m H H' → R z v H' → Q v H' := by
  cases o with
  | none => exact h.elim
  | some z => exact ⟨z, rfl, h⟩
/-- a value as a test: True or False alone -/
def tV (a : DE) : DT := fun ρ m => (a ρ m).bind fun x m => match x with
  | .bool k => .ok k m
  | _ => .bad
theorem post_bool {w : Vw} {σ : L2.St} {H : Hp} {Q : Bool → Hp → Prop} {d : D} {m : Ms} {v : V} (h : Post j w σ H RB Q (match d with | .bool k => .ok k m | _ => .bad)) (r : RD j w d v H) (A : Aft j w m H H) : ∃ k, v = .bl k ∧ Q k H := by
  cases d with
  | bool k => cases r; exact ⟨k, rfl, h k H A rfl⟩
  | _ => exact h.elim
theorem ST.val (ha : SE j e ga) (he : ∀ whole, isTrue e j.X.env whole = (do let v ← whole; standAt e.pos; holding [v] (truthy v)) := by intro _; rfl) : ST j e (tV ga) := by
  obtain ⟨t1, p1, k1⟩ := ha
  refine ⟨_, pt_val p1 he, fun w ρ m σ H Q E h => ?_⟩
  refine k1 w ρ m σ H _ E (Post.bind h fun d m1 _ v H1 A1 r1 h1 => ?_)
  exact post_bool h1 r1 ⟨.refl _ _, A1.tabs, A1.obs⟩
/-! ### and, or, not, if else -/
def tAnd (a b : DT) : DT := fun ρ m => (a ρ m).bind fun c m => if c = true then b ρ m else .ok false m
def tOr (a b : DT) : DT := fun ρ m => (a ρ m).bind fun c m => if c = true then .ok true m else b ρ m
def tNot (a : DT) : DT := fun ρ m => (a ρ m).bind fun c m => .ok (!c) m
variable {rest : List Expr}
theorem SW.st (h : SW j e ta) : ST j e ta := let ⟨t, p, k⟩ := h; ⟨t, p.pt, k⟩
theorem SW.and1 (h : ST j a ta) : SW j (.BoolOp .And [a] pos) ta := let ⟨t, p, k⟩ := h; ⟨t, pw_and1 p, k⟩
theorem SW.or1 (h : ST j a ta) : SW j (.BoolOp .Or [a] pos) ta := let ⟨t, p, k⟩ := h; ⟨t, pw_or1 p, k⟩
theorem SW.and (h : ST j a ta) (h' : SW j (.BoolOp .And (b :: rest) pos) tb) : SW j (.BoolOp .And (a :: b :: rest) pos) (tAnd ta tb) := by
  obtain ⟨t1, p1, k1⟩ := h
  obtain ⟨t2, p2, k2⟩ := h'
  refine ⟨_, pw_and p1 p2, fun w ρ m σ H Q E h => ?_⟩
  refine k1 w ρ m σ H _ E (Post.bind h fun d m1 _ v H1 A1 r1 h1 => ?_)
  cases r1
  cases d with
  | true => exact iteT (k2 w ρ m1 σ H1 Q (E.step A1) h1)
  | false => exact iteF (h1 false H1 ⟨.refl _ _, A1.tabs, A1.obs⟩ rfl)
theorem SW.or (h : ST j a ta) (h' : SW j (.BoolOp .Or (b :: rest) pos) tb) : SW j (.BoolOp .Or (a :: b :: rest) pos) (tOr ta tb) := by
  obtain ⟨t1, p1, k1⟩ := h
  obtain ⟨t2, p2, k2⟩ := h'
  refine ⟨_, pw_or p1 p2, fun w ρ m σ H Q E h => ?_⟩
  refine k1 w ρ m σ H _ E (Post.bind h fun d m1 _ v H1 A1 r1 h1 => ?_)
  cases r1
  cases d with
  | true => exact iteT (h1 true H1 ⟨.refl _ _, A1.tabs, A1.obs⟩ rfl)
  | false => exact iteF (k2 w ρ m1 σ H1 Q (E.step A1) h1)
theorem ST.not (h : ST j a ta) : ST j (.UnaryOp .Not a pos) (tNot ta) := by
  obtain ⟨t1, p1, k1⟩ := h
  refine ⟨_, pt_not p1, fun w ρ m σ H Q E h => ?_⟩
  refine k1 w ρ m σ H _ E (Post.bind h fun d m1 _ v H1 A1 r1 h1 => ?_)
  cases r1
  exact h1 _ H1 ⟨.refl _ _, A1.tabs, A1.obs⟩ rfl
/-- a test as a value (the parts true or false) -/
def eB (a : DT) : DE := fun ρ m => (a ρ m).bind fun c m => .ok (.bool c) m
def eAnd (a b : DE) : DE := fun ρ m => (tV a ρ m).bind fun c m => if c = true then b ρ m else .ok (.bool false) m
def eOr (a b : DE) : DE := fun ρ m => (tV a ρ m).bind fun c m => if c = true then .ok (.bool true) m else b ρ m
def eNot (a : DE) : DE := fun ρ m => (tV a ρ m).bind fun c m => .ok (.bool !c) m
theorem Post.bindV {β γ : Type} {w : Vw} {σ : L2.St} {H : Hp} {R' : γ → β → Hp → Prop} {Q1 : V → Hp → Prop} {Q : β → Hp → Prop} {ρ : List Slot} {m : Ms} {f : Bool → Ms → Res γ} (h : Post j w σ H R' Q ((tV ga ρ m).bind f))
    (k : ∀ c m1 H1, Aft j w m1 H H1 → Post j w σ H1 R' Q (f c m1) → Q1 (.bl c) H1) : Post j w σ H (RD j w) Q1 (ga ρ m) := by
  unfold tV at h
  cases hg : ga ρ m with
  | bad => rw [hg] at h; exact h
  | exc x m1 => rw [hg] at h; exact h
  | ok d m1 =>
    rw [hg] at h
    cases d with
    | bool c => exact fun v H1 A r => by cases r; exact k c m1 H1 A (Post.at (show Post j w σ H R' Q (f c m1) from h) A.grow)
    | _ => exact False.elim h
theorem SE.one {op} (h : SE j a ga) : SE j (.BoolOp op [a] pos) ga := let ⟨t, p, k⟩ := h; ⟨t, pe_one p, k⟩
theorem SE.and (h : SE j a ga) (h' : SE j (.BoolOp .And (b :: rest) pos) gb) : SE j (.BoolOp .And (a :: b :: rest) pos) (eAnd ga gb) := by
  obtain ⟨t1, p1, k1⟩ := h
  obtain ⟨t2, p2, k2⟩ := h'
  refine ⟨_, pe_and p1 p2, fun w ρ m σ H Q E h => ?_⟩
  refine k1 w ρ m σ H _ E (Post.bindV h fun c m1 H1 A1 h1 => ⟨c, rfl, ?_⟩)
  cases c with
  | true => exact iteT (k2 w ρ m1 σ H1 Q (E.step A1) h1)
  | false => exact iteF (h1 _ H1 ⟨.refl _ _, A1.tabs, A1.obs⟩ (.bl _))
theorem SE.or (h : SE j a ga) (h' : SE j (.BoolOp .Or (b :: rest) pos) gb) : SE j (.BoolOp .Or (a :: b :: rest) pos) (eOr ga gb) := by
  obtain ⟨t1, p1, k1⟩ := h
  obtain ⟨t2, p2, k2⟩ := h'
  refine ⟨_, pe_or p1 p2, fun w ρ m σ H Q E h => ?_⟩
  refine k1 w ρ m σ H _ E (Post.bindV h fun c m1 H1 A1 h1 => ⟨c, rfl, ?_⟩)
  cases c with
  | true => exact iteT (h1 _ H1 ⟨.refl _ _, A1.tabs, A1.obs⟩ (.bl _))
  | false => exact iteF (k2 w ρ m1 σ H1 Q (E.step A1) h1)
theorem SE.not (h : SE j a ga) : SE j (.UnaryOp .Not a pos) (eNot ga) := by
  obtain ⟨t1, p1, k1⟩ := h
  refine ⟨_, pe_not p1, fun w ρ m σ H Q E h => ?_⟩
  exact k1 w ρ m σ H _ E (Post.bindV h fun c m1 H1 A1 h1 => ⟨c, rfl, h1 _ H1 ⟨.refl _ _, A1.tabs, A1.obs⟩ (.bl _)⟩)
def eIf (t : DT) (a b : DE) : DE := fun ρ m => (t ρ m).bind fun c m => if c = true then a ρ m else b ρ m
theorem SE.ifx (ht : ST j c ta) (ha : SE j a ga) (hb : SE j b gb) : SE j (.IfExp c a b pos) (eIf ta ga gb) := by
  obtain ⟨t0, p0, k0⟩ := ht
  obtain ⟨t1, p1, k1⟩ := ha
  obtain ⟨t2, p2, k2⟩ := hb
  refine ⟨_, pe_ifExp p0 p1 p2, fun w ρ m σ H Q E h => ?_⟩
  refine k0 w ρ m σ H _ E (Post.bind h fun d m1 _ v H1 A1 r1 h1 => ?_)
  cases r1
  cases d with
  | true => exact iteT (k1 w ρ m1 σ H1 Q (E.step A1) h1)
  | false => exact iteF (k2 w ρ m1 σ H1 Q (E.step A1) h1)
end
end DS

set_option maxRecDepth 100000
set_option maxHeartbeats 2000000
namespace DS
open PySem PySem.Spec PyProof.Rows L2 LamX NdefX

/-- the longest list, text that is made -/
def lineN : Nat := 1000000
theorem lineN_le {n : Nat} (h : n ≤ lineN) : n ≤ sizeLine := Nat.le_trans h (by decide)
theorem lineN_lt {n : Nat} (h : n ≤ lineN) : n < sizeLine := Nat.lt_of_le_of_lt h (by decide)
/-- small numbers: below 2 ^ 8000 -/
def small (i : Int) : Bool := decide (i.natAbs < 2 ^ 8000)
theorem small_log {i : Int} (h : small i = true) : i.natAbs.log2 < 8000 := PySem.Flt.log2_lt_of (by decide) (of_decide_eq_true h)

/-- all stays -/
def XT (H H' : Hp) : Prop := ∀ b o, H b = some o → H' b = some o
theorem XT.refl (H : Hp) : XT H H := fun _ _ h => h
/-- a value whose list itself may be hidden (a mutable one) -/
def RT (j : J) (w : Vw) (d : D) (v : V) (H : Hp) : Prop := RD j w d v H ∨ ∃ a vs ds, v = .ref a ∧ d = .list ds ∧ SqL j.X.K H a vs ∧ RpAll j.X.K (msk w H) vs ds
section
variable {j : J} {w : Vw} {m : Ms} {H : Hp} {Q : VK}
theorem hid_tracked {b : Addr} (O : Obs j.X.K w m H) (h : Hid w b) : H b ≠ none := by
  rcases h with h | h
  · obtain ⟨k, hk⟩ := List.getElem?_of_mem h
    obtain ⟨ds, vs, _, e, _⟩ := O.at_ k b hk
    rw [e]; simp
  · obtain ⟨⟨o, e, _⟩, _⟩ := O.exs b h
    rw [e]; simp
theorem ex_aft {H' : Hp} (T : Tb j.T H) (O : Obs j.X.K w m H) (e : ∀ b o, H b = some o → H' b = some o) : Aft j w m H H' := by
  have g : Grow w H H' := .of e
  refine ⟨g, T.ext e, O.len, fun k a h => ?_, O.dead, O.inj, fun b hb => ?_⟩
  · obtain ⟨ds, vs, h1, h2, h3⟩ := O.at_ k a h
    exact ⟨ds, vs, h1, e _ _ h2, dpa_ext g.ext _ _ h3⟩
  · obtain ⟨⟨o, h1, h2⟩, h3⟩ := O.exs b hb
    exact ⟨⟨o, e _ _ h1, h2⟩, h3⟩
theorem same_new {p : Addr} {o : HO} (h : H p = none) : ∀ b u, H b = some u → upd H p o b = some u := fun b u e => by
  rw [upd_ne (ne_of_none e h)]; exact e
theorem not_hid {p : Addr} (O : Obs j.X.K w m H) (h : H p = none) : ¬ Hid w p := fun z => hid_tracked O z h
/-- a new list, tuple -/
theorem fin_lst {p : Addr} {ds : List D} {vs : List V} (T : Tb j.T H) (O : Obs j.X.K w m H) (hp : H p = none) (r : RA j w ds vs H) (q : ∀ v H', XT H H' → RD j w (.list ds) v H' → Q v H') : Q (.ref p) (upd H p (.lst vs)) := by
  have A := ex_aft (H' := upd H p (.lst vs)) T O (same_new hp)
  exact q _ _ (same_new hp) (.lst (.inl (.inl (msk_of upd_same (not_hid O hp)))) (dpa_ext A.grow.ext _ _ r))
theorem fin_tup {p : Addr} {ds : List D} {vs : List V} (T : Tb j.T H) (O : Obs j.X.K w m H) (hp : H p = none) (r : RA j w ds vs H) (q : ∀ v H', XT H H' → RD j w (.tuple ds) v H' → Q v H') : Q (.ref p) (upd H p (.tup vs)) := by
  have A := ex_aft (H' := upd H p (.tup vs)) T O (same_new hp)
  exact q _ _ (same_new hp) (.tup (.inl (.inl (msk_of upd_same (not_hid O hp)))) (dpa_ext A.grow.ext _ _ r))
theorem fin_val {z : D} {v : V} (T : Tb j.T H) (O : Obs j.X.K w m H) (r : RD j w z v H) (q : ∀ v H', XT H H' → RD j w z v H' → Q v H') : Q v H :=
  q v H (.refl _) r
theorem unmsk {d : D} {v : V} (r : RD j w d v H) : Rp j.X.K H v d := dp_ext (fun b o h _ => (of_msk h).1) _ _ r
theorem unmskA {d : List D} {v : List V} (r : RA j w d v H) : RpAll j.X.K H v d := dpa_ext (fun b o h _ => (of_msk h).1) _ _ r
theorem sqt_unmsk {a : Addr} {xs : List V} {K : PySem.W.Frag} (h : SqT K (msk w H) a xs) : SqT K H a xs := sqt_ext (fun b o h _ => (of_msk h).1) h
theorem rt_int {i : Int} {v : V} (r : RT j w (.int i) v H) : v = .int i := by
  rcases r with r | ⟨_, _, _, _, e, _⟩
  · cases r; rfl
  · cases e
theorem rt_bool {i : Bool} {v : V} (r : RT j w (.bool i) v H) : v = .bl i := by
  rcases r with r | ⟨_, _, _, _, e, _⟩
  · cases r; rfl
  · cases e
theorem rt_non {v : V} (r : RT j w .none v H) : v = .non := by
  rcases r with r | ⟨_, _, _, _, e, _⟩
  · cases r; rfl
  · cases e
theorem rt_str {i : Str} {v : V} (r : RT j w (.str i) v H) : v = .str i := by
  rcases r with r | ⟨_, _, _, _, e, _⟩
  · cases r; rfl
  · cases e
theorem rd_unmsk {a : Addr} {xs : List V} {K : PySem.W.Frag} (h : SqL K (msk w H) a xs) : SqL K H a xs := sql_ext (fun b o h _ => (of_msk h).1) h
end

section
variable {j : J} {w : Vw} {m : Ms} {H : Hp} {Q : VK}
theorem rt_tup {ds : List D} {v : V} (r : RT j w (.tuple ds) v H) : ∃ a vs, v = .ref a ∧ SqT j.X.K (msk w H) a vs ∧ RpAll j.X.K (msk w H) vs ds := by
  rcases r with r | ⟨_, _, _, _, e, _⟩
  · cases r with | tup h1 h2 => exact ⟨_, _, rfl, h1, h2⟩
  · cases e
theorem rt_lst {ds : List D} {v : V} (r : RT j w (.list ds) v H) : ∃ a vs, v = .ref a ∧ SqL j.X.K H a vs ∧ RpAll j.X.K (msk w H) vs ds := by
  rcases r with r | ⟨a, vs, ds', e1, e2, h1, h2⟩
  · cases r with | lst h1 h2 => exact ⟨_, _, rfl, rd_unmsk h1, h2⟩
  · cases e2; exact ⟨a, vs, e1, h1, h2⟩
theorem rt_unmsk {d : D} {v : V} (r : RT j w d v H) : Rp j.X.K H v d := by
  rcases r with r | ⟨a, vs, ds, rfl, rfl, h1, h2⟩
  · exact unmsk r
  · exact .lst h1 (unmskA h2)
end

section
variable {j : J} {a b c e : Expr} {ga gb gc : DE} {ta tb : DT} {pos : Pos}
/-- an operation on values does what f tells of the data -/
def OpD (j : J) (f : Value → Value → Sem Value) (g : D → D → Option D) : Prop := ∃ r : R2, OpR j.X f r ∧ ∀ w m H x y d e z Q, Tb j.T H → Obs j.X.K w m H → RT j w d x H → RT j w e y H → g d e = some z →
  (∀ v H', XT H H' → RD j w z v H' → Q v H') → r x y H Q
def UnD (j : J) (f : Value → Sem Value) (g : D → Option D) : Prop := ∃ r, UnR j.X f r ∧ ∀ w m H x d z Q, Tb j.T H → Obs j.X.K w m H → RT j w d x H → g d = some z →
  (∀ v H', XT H H' → RD j w z v H' → Q v H') → r x H Q
theorem SE.op {op : Operator} {f : D → D → Option D} (ho : OpD j (binaryOp op) f) (ha : SE j a ga) (hb : SE j b gb) : SE j (.BinOp a op b pos) (eBin f ga gb) := by
  obtain ⟨r, hr, k⟩ := ho
  obtain ⟨t1, p1, k1⟩ := ha
  obtain ⟨t2, p2, k2⟩ := hb
  refine ⟨_, pe_op hr p1 p2, fun w ρ m σ H Q E h => ?_⟩
  refine k1 w ρ m σ H _ E (Post.bind h fun d m1 _ v H1 A1 r1 h1 => ?_)
  refine k2 w ρ m1 σ H1 _ (E.step A1) (Post.bind h1 fun d' m2 _ v' H2 A2 r2 h2 => ?_)
  obtain ⟨z, hz, hq⟩ := post_lift h2
  exact k w m2 H2 v v' d d' z Q A2.tabs A2.obs (.inl (dp_grow A2.grow r1)) (.inl r2) hz fun v H' x r => hq v H' (ex_aft A2.tabs A2.obs x) r
theorem SE.un {op : UnaryOp} {f : D → Option D} (ho : UnD j (unaryOp op) f) (ha : SE j a ga) : SE j (.UnaryOp op a pos) (eUn f ga) := by
  obtain ⟨r, hr, k⟩ := ho
  obtain ⟨t1, p1, k1⟩ := ha
  refine ⟨_, pe_un hr p1, fun w ρ m σ H Q E h => ?_⟩
  refine k1 w ρ m σ H _ E (Post.bind h fun d m1 _ v H1 A1 r1 h1 => ?_)
  obtain ⟨z, hz, hq⟩ := post_lift h1
  exact k w m1 H1 v d z Q A1.tabs A1.obs (.inl r1) hz fun v H' x r => hq v H' (ex_aft A1.tabs A1.obs x) r
theorem SE.cmp {op : CmpOp} {f : D → D → Option D} (ho : OpD j (compareOp op) f) (ha : SE j a ga) (hb : SE j b gb) (hm : behindInMarks op b = false := by first | exact nomark _ | rfl) : SE j (.Compare a [op] [b] pos) (eBin f ga gb) := by
  obtain ⟨r, hr, k⟩ := ho
  obtain ⟨t1, p1, k1⟩ := ha
  obtain ⟨t2, p2, k2⟩ := hb
  refine ⟨_, pe_cmpR hr p1 p2 hm, fun w ρ m σ H Q E h => ?_⟩
  refine k1 w ρ m σ H _ E (Post.bind h fun d m1 _ v H1 A1 r1 h1 => ?_)
  refine k2 w ρ m1 σ H1 _ (E.step A1) (Post.bind h1 fun d' m2 _ v' H2 A2 r2 h2 => ?_)
  obtain ⟨z, hz, hq⟩ := post_lift h2
  exact k w m2 H2 v v' d d' z Q A2.tabs A2.obs (.inl (dp_grow A2.grow r1)) (.inl r2) hz fun v H' x r => hq v H' (ex_aft A2.tabs A2.obs x) r
theorem ST.cmp {op : CmpOp} {f : D → D → Option D} (ho : OpD j (compareOp op) f) (ha : SE j a ga) (hb : SE j b gb) (hm : behindInMarks op b = false := by first | exact nomark _ | rfl) : ST j (.Compare a [op] [b] pos) (tV (eBin f ga gb)) := by
  obtain ⟨r, hr, k⟩ := ho
  obtain ⟨t1, p1, k1⟩ := ha
  obtain ⟨t2, p2, k2⟩ := hb
  refine ⟨_, pt_cmpR hr p1 p2 hm, fun w ρ m σ H Q E h => ?_⟩
  have h' : Post j w σ H RB Q ((ga ρ m).bind fun x m => (gb ρ m).bind fun y m => (lift (f x y) m).bind fun z m => match z with | .bool k => .ok k m | _ => .bad) := by
    have e : (tV (eBin f ga gb)) ρ m = ((ga ρ m).bind fun x m => (gb ρ m).bind fun y m => (lift (f x y) m).bind fun z m => match z with | .bool k => .ok k m | _ => .bad) := by
      unfold tV eBin
      cases ga ρ m with
      | bad => rfl
      | exc => rfl
      | ok d m1 =>
        simp only [Res.bind_ok]
        cases gb ρ m1 <;> rfl
    rw [e] at h; exact h
  refine k1 w ρ m σ H _ E (Post.bind h' fun d m1 _ v H1 A1 r1 h1 => ?_)
  refine k2 w ρ m1 σ H1 _ (E.step A1) (Post.bind h1 fun d' m2 _ v' H2 A2 r2 h2 => ?_)
  cases hz : f d d' with
  | none => rw [hz] at h2; exact h2.elim
  | some z =>
    rw [hz] at h2
    refine k w m2 H2 v v' d d' z _ A2.tabs A2.obs (.inl (dp_grow A2.grow r1)) (.inl r2) hz fun u H3 x3 r3 => ?_
    have A3 := ex_aft A2.tabs A2.obs x3
    exact post_bool (Post.at h2 A3.grow) r3 ⟨.refl _ _, A3.tabs, A3.obs⟩
end

/-! ### arithmetic -/
def dAdd : D → D → Option D
  | .int a, .int b => some (.int (a + b))
  | .str a, .str b => if a.length + b.length ≤ lineN then some (.str (a ++ b)) else none
  | .tuple a, .tuple b => if a.length + b.length ≤ lineN then some (.tuple (a ++ b)) else none
  | .list a, .list b => if a.length + b.length ≤ lineN then some (.list (a ++ b)) else none
  | _, _ => none
def dSub : D → D → Option D
  | .int a, .int b => some (.int (a - b))
  | _, _ => none
def dMul : D → D → Option D
  | .int a, .int b => if small a && small b then some (.int (a * b)) else none
  | _, _ => none
def dFdiv : D → D → Option D
  | .int a, .int b => if decide (b ≠ 0) && small b then some (.int (a.fdiv b)) else none
  | _, _ => none
def dMod : D → D → Option D
  | .int a, .int b => if decide (b ≠ 0) then some (.int (a.fmod b)) else none
  | _, _ => none
def dPow : D → D → Option D
  | .int a, .int b => if decide (0 ≤ b) && decide (b ≤ 1000) && decide (a.natAbs < 2 ^ 64) then some (.int (a ^ b.toNat)) else none
  | _, _ => none
def dNeg : D → Option D
  | .int a => some (.int (-a))
  | _ => none
def rCatL (K : PySem.W.Frag) : R2 := fun x y H Q => ∃ l b xs zs, x = .ref l ∧ y = .ref b ∧ SqL K H l xs ∧ SqL K H b zs ∧ xs.length + zs.length ≤ sizeLine ∧ ∀ p, H p = none → Q (.ref p) (upd H p (.lst (xs ++ zs)))
theorem lst_cat (l : Addr) (its : Array Value) (n : Nat) (u : Array (Option Value)) (b : Addr) (jts : Array Value) (n2 : Nat) (u2 : Array (Option Value)) (hc0 : its.size + jts.size ≤ sizeLine) :
    Meets (Builtin.«list.__add__» ⟨[.ref l, .ref b], []⟩) (fun _ R s => s.heap.get? l = some { cls := .type "list", dict := none, data := .seq its n, slots := u } ∧ s.heap.get? b = some { cls := .type "list", dict := none, data := .seq jts n2, slots := u2 } ∧ R (.ok (.ret (Value.ref s.heap.objs.size))) { s with heap := s.heap.push { cls := Value.type "list", data := Data.seq (its ++ jts) }, toks := s.toks }) :=
  .of_wp fun prog w A R s h => by
    obtain ⟨hp, g, d, tk, os⟩ := s
    obtain ⟨hl, hb, h⟩ := h
    have f1 := AutoSeq1.idx_int
    have f2 := AutoSeq1.sub_list_list
    wp_walk using AutoSeq1.wpAny_loadPart' hl, AutoSeq1.wpAny_loadPart' hb
    exact ⟨_, rfl, h⟩
theorem op_catL {X : Cx} : OpR X (binaryOp .Add) (rCatL X.K) := by
  intro pins s σ H x y v u Q I rx ry h
  obtain ⟨l, b, xs, zs, rfl, rfl, hH, hB, hz, q⟩ := h
  cases rx
  cases ry
  obtain ⟨its, r, ⟨o, n, e, hc, hd, ho⟩, z⟩ := I.list hH
  obtain ⟨its2, r2, ⟨o2, n2, e2, hc2, hd2, ho2⟩, z2⟩ := I.list hB
  have hl := r.length
  have hl2 := r2.length
  obtain ⟨c, dct, dt, sl⟩ := o
  obtain ⟨c2, dct2, dt2, sl2⟩ := o2
  simp only at hc hd ho hc2 hd2 ho2
  subst hc hd ho hc2 hd2 ho2
  refine concat_meets ⟨_, e, rfl⟩ ⟨_, e2, rfl⟩ noFill_list_add seq_list_add F.slot_list_add F.entry_list_add (F.args_list_add_2 _ _) (lst_cat l its.toArray n sl b its2.toArray n2 sl2 (by rw [List.size_toArray, List.size_toArray]; omega)) ⟨e, e2, ?_⟩
  have ea : its.toArray ++ its2.toArray = (its ++ its2).toArray := by simp
  rw [ea]
  exact ⟨.ref _, _, I.lnew (t' := s.toks) (r.append r2) (by rw [List.length_append]; omega), rfl, q _ I.fresh⟩
theorem op_fdivB {X : Cx} : OpR X (binaryOp .FloorDiv) (rI (fun _ b => b ≠ 0 ∧ small b = true) fun a b => .int (a.fdiv b)) := opI fun i j _ _ _ _ _ hc q =>
  floordiv_int hc.1 q (.inl (PyProof.noPylong_of_log2 (Nat.lt_of_lt_of_le (small_log hc.2) (by decide))))
section
variable {j : J}
theorem OpD.add : OpD j (binaryOp .Add) dAdd := by
  refine ⟨_, .or op_add (.or op_add_str (.or op_catA op_catL)), fun w m H x y d e z Q T O rx ry hz q => ?_⟩
  cases d <;> cases e <;> simp only [dAdd, reduceCtorEq] at hz
  · cases rt_int rx; cases rt_int ry; cases hz
    exact .inl ⟨_, _, rfl, rfl, fin_val T O (.int _) q⟩
  · cases rt_str rx; cases rt_str ry
    split at hz
    · rename_i hl; cases hz
      exact .inr (.inl ⟨_, _, rfl, rfl, lineN_le hl, fin_val T O (.str _) q⟩)
    · cases hz
  · split at hz
    · rename_i hl
      obtain ⟨a1, vs1, rfl, h1, h2⟩ := rt_lst rx
      obtain ⟨a2, vs2, rfl, h3, h4⟩ := rt_lst ry
      cases hz
      have e1 := dpa_len h2; have e2 := dpa_len h4
      refine .inr (.inr (.inr ⟨_, _, _, _, rfl, rfl, h1, h3, lineN_le (by omega), fun p hp => fin_lst T O hp (dpa_app h2 h4) q⟩))
    · cases hz
  · split at hz
    · rename_i hl
      obtain ⟨a1, vs1, rfl, h1, h2⟩ := rt_tup rx
      obtain ⟨a2, vs2, rfl, h3, h4⟩ := rt_tup ry
      cases hz
      have e1 := dpa_len h2; have e2 := dpa_len h4
      refine .inr (.inr (.inl ⟨_, _, _, _, rfl, rfl, sqt_unmsk h1, sqt_unmsk h3, lineN_le (by omega), fun hx => ?_, fun _ hy => ?_, fun _ _ p hp => fin_tup T O hp (dpa_app h2 h4) q⟩))
      · subst hx
        cases h2
        exact fin_val T O (.tup h3 h4) q
      · subst hy
        cases h4
        rw [List.append_nil] at q
        exact fin_val T O (.tup h1 h2) q
    · cases hz
theorem OpD.sub : OpD j (binaryOp .Sub) dSub := by
  refine ⟨_, op_sub, fun w m H x y d e z Q T O rx ry hz q => ?_⟩
  cases d <;> cases e <;> simp only [dSub, reduceCtorEq] at hz
  cases rt_int rx; cases rt_int ry; cases hz
  exact ⟨_, _, rfl, rfl, fin_val T O (.int _) q⟩
theorem OpD.mul : OpD j (binaryOp .Mult) dMul := by
  refine ⟨_, op_mulW, fun w m H x y d e z Q T O rx ry hz q => ?_⟩
  cases d <;> cases e <;> simp only [dMul, reduceCtorEq] at hz
  split at hz
  · rename_i hs
    rw [Bool.and_eq_true] at hs
    cases rt_int rx; cases rt_int ry; cases hz
    have h1 := small_log hs.1
    have h2 := small_log hs.2
    exact ⟨_, _, rfl, rfl, (by unfold CMulW; omega), fin_val T O (.int _) q⟩
  · cases hz
theorem OpD.fdiv : OpD j (binaryOp .FloorDiv) dFdiv := by
  refine ⟨_, op_fdivB, fun w m H x y d e z Q T O rx ry hz q => ?_⟩
  cases d <;> cases e <;> simp only [dFdiv, reduceCtorEq] at hz
  split at hz
  · rename_i hs
    rw [Bool.and_eq_true] at hs
    cases rt_int rx; cases rt_int ry; cases hz
    exact ⟨_, _, rfl, rfl, ⟨of_decide_eq_true hs.1, hs.2⟩, fin_val T O (.int _) q⟩
  · cases hz
theorem OpD.mod : OpD j (binaryOp .Mod) dMod := by
  refine ⟨_, op_modN, fun w m H x y d e z Q T O rx ry hz q => ?_⟩
  cases d <;> cases e <;> simp only [dMod, reduceCtorEq] at hz
  split at hz
  · rename_i hs
    cases rt_int rx; cases rt_int ry; cases hz
    exact ⟨_, _, rfl, rfl, of_decide_eq_true hs, fin_val T O (.int _) q⟩
  · cases hz
theorem OpD.pow : OpD j (binaryOp .Pow) dPow := by
  refine ⟨_, op_pow, fun w m H x y d e z Q T O rx ry hz q => ?_⟩
  cases d <;> cases e <;> simp only [dPow, reduceCtorEq] at hz
  split at hz
  · rename_i hs
    simp only [Bool.and_eq_true, decide_eq_true_eq] at hs
    cases rt_int rx; cases rt_int ry; cases hz
    exact ⟨_, _, rfl, rfl, ⟨hs.1.1, by omega, hs.2⟩, fin_val T O (.int _) q⟩
  · cases hz
theorem UnD.neg : UnD j (unaryOp .USub) dNeg := by
  refine ⟨_, un_neg, fun w m H x d z Q T O rx hz q => ?_⟩
  cases d <;> simp only [dNeg, reduceCtorEq] at hz
  cases rt_int rx; cases hz
  exact ⟨_, rfl, fin_val T O (.int _) q⟩

/-! ### comparisons -/
def shal (d e : D) : Bool := decide (min d.depth e.depth ≤ 60)
def dEq (d e : D) : Option D := if shal d e then some (.bool (PyData.eqv d e)) else none
def dNe (d e : D) : Option D := if shal d e then some (.bool (!PyData.eqv d e)) else none
def ordOk (d e : D) : Bool := PySem.W.alike d e && (match d with | .none => false | _ => true) && shal d e
def dLt (d e : D) : Option D := if ordOk d e then some (.bool (PySem.W.dataLt d e)) else none
def dGt (d e : D) : Option D := if ordOk d e then some (.bool (PySem.W.dataLt e d)) else none
def dLe (d e : D) : Option D := if ordOk d e then some (.bool (!PySem.W.dataLt e d)) else none
def dGe (d e : D) : Option D := if ordOk d e then some (.bool (!PySem.W.dataLt d e)) else none
/-- an answer told of the data alone -/
def rAns (K : PySem.W.Frag) (g : D → D → Option Bool) : R2 := fun x y H Q => ∃ d e b, Rp K H x d ∧ Rp K H y e ∧ g d e = some b ∧ Q (.bl b) H
theorem op_ans {f : Value → Value → Sem Value} {g : D → D → Option Bool} (hu : j.X.A.units + 64 < cLine)
    (h : ∀ (M : Model) (hM : M = model j.X.prog j.X.w) (E : Value → Shared → Prop) (s : Shared) (a b : Value) (d e : D) (as bs : List Addr) (c : Bool) (Q : Value → Shared → Prop), Reads s.heap a d as → Reads s.heap b e bs → d.plain = true → e.plain = true →
      g d e = some c → Q (.bool c) s → wpAny M j.X.A (f a b) Q E s) : OpR j.X f (rAns j.X.K g) := by
  intro pins s σ H x y v u Q I rx ry h'
  obtain ⟨d, e, b, hd, he, hb, q⟩ := h'
  obtain ⟨as, r1⟩ := Dp.reads I d x v (hd.dp d x) rx
  obtain ⟨bs, r2⟩ := Dp.reads I e y u (he.dp e y) ry
  exact h _ rfl _ s v u d e as bs b _ r1 r2 (hd.plain d x) (he.plain e y) hb ⟨.bl b, H, I, rfl, q⟩
theorem OpD.ans {f : Value → Value → Sem Value} {g : D → D → Option Bool} (h : OpR j.X f (rAns j.X.K g)) : OpD j f (fun d e => (g d e).map .bool) := by
  refine ⟨_, h, fun w m H x y d e z Q T O rx ry hz q => ?_⟩
  have hz : (g d e).map PyData.bool = some z := hz
  cases hg : g d e with
  | none => rw [hg] at hz; cases hz
  | some b =>
    rw [hg] at hz; cases hz
    exact ⟨d, e, b, rt_unmsk rx, rt_unmsk ry, hg, fin_val T O (.bl b) q⟩
theorem shal_lt {d e : D} {u : Nat} (hu : u + 64 < cLine) (h : shal d e = true) : u + min d.depth e.depth < cLine := by
  have := of_decide_eq_true h
  omega
theorem OpD.eq (hu : j.X.A.units + 64 < cLine) : OpD j (compareOp .Eq) dEq := by
  have h := OpD.ans (j := j) (g := fun d e => if shal d e then some (PyData.eqv d e) else none) (op_ans hu (f := compareOp .Eq) fun M hM E s a b d e as bs c Q r1 r2 p1 p2 hg q => by
    subst hM
    split at hg
    · rename_i hs; cases hg
      exact PySem.SeqAt.eq_plain r1 r2 p1 p2 (shal_lt hu hs) q
    · cases hg)
  have e : (fun d e => ((fun d e => if shal d e then some (PyData.eqv d e) else none) d e).map PyData.bool) = dEq := by
    funext d e
    simp only [dEq]
    split <;> rfl
  rw [← e]; exact h
theorem OpD.ne (hu : j.X.A.units + 64 < cLine) : OpD j (compareOp .NotEq) dNe := by
  have h := OpD.ans (j := j) (g := fun d e => if shal d e then some (!PyData.eqv d e) else none) (op_ans hu (f := compareOp .NotEq) fun M hM E s a b d e as bs c Q r1 r2 p1 p2 hg q => by
    subst hM
    split at hg
    · rename_i hs; cases hg
      exact PySem.SeqAt.ne_plain r1 r2 p1 p2 (shal_lt hu hs) q
    · cases hg)
  have e : (fun d e => ((fun d e => if shal d e then some (!PyData.eqv d e) else none) d e).map PyData.bool) = dNe := by
    funext d e
    simp only [dNe]
    split <;> rfl
  rw [← e]; exact h
theorem ordOk_of {d e : D} (h : ordOk d e = true) : PySem.W.alike d e = true ∧ d ≠ .none ∧ shal d e = true := by
  unfold ordOk at h
  simp only [Bool.and_eq_true] at h
  refine ⟨h.1.1, fun z => ?_, h.2⟩
  subst z
  have := h.1.2
  cases this
theorem ord_rule (hu : j.X.A.units + 64 < cLine) {op : CmpOp} (c : D → D → Bool)
    (rule : ∀ (E : Value → Shared → Prop) (s : Shared) (a b : Value) (d e : D) (as bs : List Addr) (Q : Value → Shared → Prop), Reads s.heap a d as → Reads s.heap b e bs → PySem.W.alike d e = true → d ≠ .none → j.X.A.units + min d.depth e.depth < cLine → Q (.bool (c d e)) s →
      wpAny (model j.X.prog j.X.w) j.X.A (compareOp op a b) Q E s) : OpD j (compareOp op) (fun d e => if ordOk d e then some (.bool (c d e)) else none) := by
  have h := OpD.ans (j := j) (g := fun d e => if ordOk d e then some (c d e) else none) (op_ans hu (f := compareOp op) fun M hM E s a b d e as bs k Q r1 r2 p1 p2 hg q => by
    subst hM
    split at hg
    · rename_i hs; cases hg
      obtain ⟨h1, h2, h3⟩ := ordOk_of hs
      exact rule E s a b d e as bs Q r1 r2 h1 h2 (shal_lt hu h3) q
    · cases hg)
  have e : (fun d e => ((fun d e => if ordOk d e then some (c d e) else none) d e).map PyData.bool) = fun d e => if ordOk d e then some (.bool (c d e)) else none := by
    funext d e
    by_cases hh : ordOk d e = true
    · simp [hh]
    · simp [hh]
  rw [← e]; exact h
theorem OpD.lt (hu : j.X.A.units + 64 < cLine) : OpD j (compareOp .Lt) dLt := ord_rule hu PySem.W.dataLt fun E s a b d e as bs Q r1 r2 h1 h2 h3 q => PySem.W.lt_data r1 r2 h1 h2 h3 q
theorem OpD.gt (hu : j.X.A.units + 64 < cLine) : OpD j (compareOp .Gt) dGt := ord_rule hu (fun d e => PySem.W.dataLt e d) fun E s a b d e as bs Q r1 r2 h1 h2 h3 q => PySem.W.gt_data r1 r2 h1 h2 h3 q
theorem OpD.le (hu : j.X.A.units + 64 < cLine) : OpD j (compareOp .LtE) dLe := ord_rule hu (fun d e => !PySem.W.dataLt e d) fun E s a b d e as bs Q r1 r2 h1 h2 h3 q => PySem.W.le_data r1 r2 h1 h2 h3 q
theorem OpD.ge (hu : j.X.A.units + 64 < cLine) : OpD j (compareOp .GtE) dGe := ord_rule hu (fun d e => !PySem.W.dataLt d e) fun E s a b d e as bs Q r1 r2 h1 h2 h3 q => PySem.W.ge_data r1 r2 h1 h2 h3 q
/-- is None, is not None -/
def isN : D → Bool
  | .none => true
  | _ => false
def dIs : D → D → Option D := fun d e => match e with
  | .none => some (.bool (isN d))
  | _ => none
def dIsNot : D → D → Option D := fun d e => match e with
  | .none => some (.bool (!isN d))
  | _ => none
theorem isN_of {w : Vw} {H : Hp} {d : D} {x : V} (r : RT j w d x H) : decide (x = .non) = isN d := by
  rcases r with r | ⟨_, _, _, rfl, rfl, _⟩
  · cases r <;> simp [isN]
  · simp [isN]
theorem OpD.is : OpD j (compareOp .Is) dIs := by
  refine ⟨_, op_isN, fun w m H x y d e z Q T O rx ry hz q => ?_⟩
  cases e <;> simp only [dIs, reduceCtorEq] at hz
  cases rt_non ry; cases hz
  exact ⟨rfl, by rw [isN_of rx]; exact fin_val T O (.bl _) q⟩
theorem OpD.isNot : OpD j (compareOp .IsNot) dIsNot := by
  refine ⟨_, op_notN, fun w m H x y d e z Q T O rx ry hz q => ?_⟩
  cases e <;> simp only [dIsNot, reduceCtorEq] at hz
  cases rt_non ry; cases hz
  exact ⟨rfl, by rw [isN_of rx]; exact fin_val T O (.bl _) q⟩
/-! ### in -/
def inStr (j i : Str) : Bool := !(Builtin.Str.occurrences j i 0 j.length 1).isEmpty
def dIn' (d c : D) : Option Bool := match c with
  | .list xs => if decide (min (PyData.depthAll xs) d.depth ≤ 60) then some (xs.any fun y => PyData.eqv y d) else none
  | .tuple xs => if decide (min (PyData.depthAll xs) d.depth ≤ 60) then some (xs.any fun y => PyData.eqv y d) else none
  | .str z => match d with
    | .str y => some (inStr z y)
    | _ => none
  | _ => none
def dIn (d c : D) : Option D := (dIn' d c).map .bool
def dNotIn (d c : D) : Option D := (dIn' d c).map fun b => .bool (!b)
theorem rel_reads {s : Shared} {v : Value} {d : D} {as : List Addr} (r : Reads s.heap v d as) : (∀ x, d = .str x → ∃ t, v = .str x t) := by
  intro x e
  subst e
  cases r
  exact ⟨_, rfl⟩
theorem op_inD (hu : j.X.A.units + 64 < cLine) : OpR j.X (compareOp .In) (rAns j.X.K dIn') := by
  intro pins s σ H x y v u Q I rx ry h'
  obtain ⟨d, e, b, hd, he, hb, q⟩ := h'
  obtain ⟨as, r1⟩ := Dp.reads I d x v (hd.dp d x) rx
  obtain ⟨bs, r2⟩ := Dp.reads I e y u (he.dp e y) ry
  have p1 := hd.plain d x
  have p2 := he.plain e y
  cases e <;> simp only [dIn', reduceCtorEq] at hb
  · rename_i z
    cases d <;> simp only [reduceCtorEq] at hb
    cases hb; cases hd; cases he
    exact op_in_str pins s σ H _ _ v u Q I rx ry ⟨_, _, rfl, rfl, q⟩
  · split at hb
    · rename_i hs; cases hb
      have hs := of_decide_eq_true hs
      exact PySem.SeqAt.in_list_data r2 r1 (by simpa [PyData.plain] using p2) p1 (by omega) ⟨.bl _, H, I, rfl, q⟩
    · cases hb
  · split at hb
    · rename_i hs; cases hb
      have hs := of_decide_eq_true hs
      exact PySem.SeqAt.in_tuple_data r2 r1 (by simpa [PyData.plain] using p2) p1 (by omega) ⟨.bl _, H, I, rfl, q⟩
    · cases hb
theorem op_notInD (hu : j.X.A.units + 64 < cLine) : OpR j.X (compareOp .NotIn) (rAns j.X.K fun d c => (dIn' d c).map (!·)) := by
  intro pins s σ H x y v u Q I rx ry h'
  obtain ⟨d, e, b, hd, he, hb, q⟩ := h'
  obtain ⟨as, r1⟩ := Dp.reads I d x v (hd.dp d x) rx
  obtain ⟨bs, r2⟩ := Dp.reads I e y u (he.dp e y) ry
  have p1 := hd.plain d x
  have p2 := he.plain e y
  cases e <;> simp only [dIn', reduceCtorEq, Option.map_none, Option.map_some] at hb
  · rename_i z
    cases d <;> simp only [reduceCtorEq, Option.map_none, Option.map_some] at hb
    cases hb; cases hd; cases he
    exact op_notin_str pins s σ H _ _ v u Q I rx ry ⟨_, _, rfl, rfl, q⟩
  · split at hb
    · rename_i hs; cases hb
      have hs := of_decide_eq_true hs
      exact PySem.SeqAt.notIn_list_data r2 r1 (by simpa [PyData.plain] using p2) p1 (by omega) ⟨.bl _, H, I, rfl, q⟩
    · cases hb
  · split at hb
    · rename_i hs; cases hb
      have hs := of_decide_eq_true hs
      exact PySem.SeqAt.notIn_tuple_data r2 r1 (by simpa [PyData.plain] using p2) p1 (by omega) ⟨.bl _, H, I, rfl, q⟩
    · cases hb
theorem OpD.in (hu : j.X.A.units + 64 < cLine) : OpD j (compareOp .In) dIn := OpD.ans (op_inD hu)
theorem OpD.notIn (hu : j.X.A.units + 64 < cLine) : OpD j (compareOp .NotIn) dNotIn := by
  have h := OpD.ans (op_notInD (j := j) hu)
  have e : (fun d e => ((fun d c => (dIn' d c).map (!·)) d e).map PyData.bool) = dNotIn := by
    funext d e
    simp only [dNotIn]
    cases dIn' d e <;> rfl
  rw [← e]; exact h
end
end DS

set_option maxRecDepth 100000
set_option maxHeartbeats 2000000
namespace DS
open PySem PySem.Spec PyProof.Rows L2 LamX NdefX

structure JOk (j : J) (k : Nat) : Prop where
  hr : Room k j.X.A
  nd : j.X.N.Nodup
  calm : j.X.calm = true
  tk : Takes j.X j.W
  po : PassesOwn (model j.X.prog j.X.w) j.X.A j.X.env j.X.xe
  gd : j.X.A.guards = some []
theorem JOk.hu {j : J} {k : Nat} (o : JOk j k) : j.X.A.units + 64 < cLine := o.hr.units
theorem JOk.mono {j : J} {k i : Nat} (o : JOk j k) (h : i ≤ k) : JOk j i := ⟨o.hr.mono h, o.nd, o.calm, o.tk, o.po, o.gd⟩

/-! ### argument lists of values -/
def aNil : DA := fun _ m => .ok [] m
def aCons (a : DE) (b : DA) : DA := fun ρ m => (a ρ m).bind fun x m => (b ρ m).bind fun xs m => .ok (x :: xs) m
section
variable {j : J} {a b c e : Expr} {es : List Expr} {ga gb gc : DE} {gs : DA} {ta tb : DT} {pos : Pos}
theorem SA.nil : SA j [] aNil := ⟨_, pa_nil, fun w ρ m σ H Q E h => h [] H E.aft .nil⟩
theorem SA.cons (ha : SE j a ga) (hr : SA j es gs) (hs : starEach (a :: es) j.X.env = (false, eval a j.X.env) :: starEach es j.X.env := by rfl) : SA j (a :: es) (aCons ga gs) := by
  obtain ⟨t1, p1, k1⟩ := ha
  obtain ⟨t2, p2, k2⟩ := hr
  refine ⟨_, pa_cons p1 p2 hs, fun w ρ m σ H Q E h => ?_⟩
  refine k1 w ρ m σ H _ E (Post.bind h fun d m1 _ v H1 A1 r1 h1 => ?_)
  refine k2 w ρ m1 σ H1 _ (E.step A1) (Post.bind h1 fun ds m2 _ vs H2 A2 r2 h2 => ?_)
  exact h2 _ H2 ⟨.refl _ _, A2.tabs, A2.obs⟩ (.cons (dp_grow A2.grow r1) r2)
/-- (*e, ..) -/
def aStar (a : DE) (b : DA) : DA := fun ρ m => (a ρ m).bind fun x m => match x with
  | .tuple ds => (b ρ m).bind fun xs m => .ok (ds ++ xs) m
  | .list ds => (b ρ m).bind fun xs m => .ok (ds ++ xs) m
  | _ => .bad
theorem SA.star {p : Pos} (ha : SE j a ga) (hr : SA j es gs) (hs : starEach (.Starred a p :: es) j.X.env = (true, eval a j.X.env) :: starEach es j.X.env := by rfl) : SA j (.Starred a p :: es) (aStar ga gs) := by
  obtain ⟨t1, p1, k1⟩ := ha
  obtain ⟨t2, p2, k2⟩ := hr
  refine ⟨_, StX.pa_star p1 p2 hs, fun w ρ m σ H Q E h => ?_⟩
  refine k1 w ρ m σ H _ E (Post.bind h fun d m1 _ v H1 A1 r1 h1 => ?_)
  cases d with
  | tuple ds => cases r1 with
    | tup q1 q2 =>
      refine ⟨_, _, rfl, .inl (sqt_unmsk q1), ?_⟩
      refine k2 w ρ m1 σ H1 _ (E.step A1) (Post.bind h1 fun es m2 _ us H2 A2 r2 h2 => ?_)
      exact h2 _ H2 ⟨.refl _ _, A2.tabs, A2.obs⟩ (dpa_app (dpa_grow A2.grow q2) r2)
  | list ds => cases r1 with
    | lst q1 q2 =>
      refine ⟨_, _, rfl, .inr (rd_unmsk q1), ?_⟩
      refine k2 w ρ m1 σ H1 _ (E.step A1) (Post.bind h1 fun es m2 _ us H2 A2 r2 h2 => ?_)
      exact h2 _ H2 ⟨.refl _ _, A2.tabs, A2.obs⟩ (dpa_app (dpa_grow A2.grow q2) r2)
  | _ => exact False.elim h1

/-! ### displays -/
def eTup (a : DA) : DE := fun ρ m => (a ρ m).bind fun xs m => if xs.length ≤ lineN then .ok (.tuple xs) m else .bad
def eLst (a : DA) : DE := fun ρ m => (a ρ m).bind fun xs m => if xs.length ≤ lineN then .ok (.list xs) m else .bad
theorem SE.tup {x1} (h : SA j es gs) : SE j (.Tuple es x1 pos) (eTup gs) := by
  obtain ⟨t1, p1, k1⟩ := h
  refine ⟨_, pe_tup p1, fun w ρ m σ H Q E h => ?_⟩
  refine k1 w ρ m σ H _ E (Post.bind h fun ds m1 _ vs H1 A1 r1 h1 => ?_)
  have e := dpa_len r1
  split at h1
  · rename_i hl
    exact ⟨lineN_le (by omega), fun p hp => fin_tup A1.tabs A1.obs hp r1 fun v H' x r => h1 v H' (ex_aft A1.tabs A1.obs x) r⟩
  · exact h1.elim
theorem SE.lst (h : SA j es gs) : SE j (.List es pos) (eLst gs) := by
  obtain ⟨t1, p1, k1⟩ := h
  refine ⟨_, pe_lst p1, fun w ρ m σ H Q E h => ?_⟩
  refine k1 w ρ m σ H _ E (Post.bind h fun ds m1 _ vs H1 A1 r1 h1 => ?_)
  have e := dpa_len r1
  split at h1
  · rename_i hl
    exact ⟨lineN_le (by omega), fun p hp => fin_lst A1.tabs A1.obs hp r1 fun v H' x r => h1 v H' (ex_aft A1.tabs A1.obs x) r⟩
  · exact h1.elim

/-! ### items -/
def dIx : D → D → Option D
  | .tuple xs, .int i => atI xs i
  | .list xs, .int i => atI xs i
  | .str z, .int i => if z.length ≤ lineN then (atI z.cps.toList i).map fun c => .str ⟨#[c]⟩ else none
  | _, _ => none
theorem atI_dp {K : PySem.W.Frag} {H : Hp} {ds : List D} {vs : List V} {i : Int} {d : D} (r : RpAll K H vs ds) (h : atI ds i = some d) : ∃ v, atI vs i = some v ∧ Rp K H v d := by
  unfold atI at h ⊢
  rw [dpa_len r]
  cases hn : ixN ds.length i with
  | none => rw [hn] at h; cases h
  | some k =>
    rw [hn] at h
    exact dpa_get r h
/-- an item, by values -/
theorem ix_val {w : Vw} {m : Ms} {H : Hp} {Q : VK} {x y : V} {d d' z : D} (T : Tb j.T H) (O : Obs j.X.K w m H) (r1 : RT j w d x H) (r2 : RT j w d' y H) (hz : dIx d d' = some z) (hq : ∀ v H', XT H H' → RD j w z v H' → Q v H') :
    rIxL j.X.K x y H Q ∨ (rIxT j.X.K x y H Q ∨ rIxS x y H Q) := by
  cases d <;> cases d' <;> simp only [dIx, reduceCtorEq] at hz
  · cases rt_str r1; cases rt_int r2
    split at hz
    · rename_i hl
      rename_i s _
      obtain ⟨c, hc, hz⟩ := Option.map_eq_some_iff.mp hz
      subst hz
      exact .inr (.inr ⟨_, _, c, rfl, rfl, lineN_le hl, hc, fin_val T O (.str _) hq⟩)
    · cases hz
  · obtain ⟨a, vs, rfl, q1, q2⟩ := rt_lst r1
    cases rt_int r2
    obtain ⟨u, e1, e2⟩ := atI_dp q2 hz
    exact .inl ⟨_, _, _, u, rfl, rfl, q1, e1, fin_val T O e2 hq⟩
  · obtain ⟨a, vs, rfl, q1, q2⟩ := rt_tup r1
    cases rt_int r2
    obtain ⟨u, e1, e2⟩ := atI_dp q2 hz
    exact .inr (.inl ⟨_, _, _, u, rfl, rfl, sqt_unmsk q1, e1, fin_val T O e2 hq⟩)
theorem SE.ix (ha : SE j a ga) (hb : SE j b gb) (hs : PlainIx b) : SE j (.Subscript a b pos) (eBin dIx ga gb) := by
  obtain ⟨t1, p1, k1⟩ := ha
  obtain ⟨t2, p2, k2⟩ := hb
  refine ⟨_, pe_ix (.or ix_list (.or ix_tup ix_str)) p1 p2 hs, fun w ρ m σ H Q E h => ?_⟩
  refine k1 w ρ m σ H _ E (Post.bind h fun d m1 _ v H1 A1 r1 h1 => ?_)
  refine k2 w ρ m1 σ H1 _ (E.step A1) (Post.bind h1 fun d' m2 _ v' H2 A2 r2 h2 => ?_)
  obtain ⟨z, hz, hq⟩ := post_lift h2
  exact ix_val A2.tabs A2.obs (.inl (dp_grow A2.grow r1)) (.inl r2) hz fun v H' x r => hq v H' (ex_aft A2.tabs A2.obs x) r
/-! ### slices -/
abbrev DO := List Slot → Ms → Res (Option Int)
def oNone : DO := fun _ m => .ok none m
def oSome (a : DE) : DO := fun ρ m => (a ρ m).bind fun x m => match x with
  | .int i => .ok (some i) m
  | _ => .bad
def RO : Option Int → Option Int → Hp → Prop := fun a b _ => a = b
def SO (j : J) (e : Option Expr) (g : DO) : Prop := ∃ t, PO j.X e t ∧ ∀ w ρ m σ H Q, En j w ρ m σ H → Post j w σ H RO Q (g ρ m) → t σ H Q
theorem SO.none : SO j none oNone := ⟨_, po_none, fun w ρ m σ H Q E h => h _ H E.aft rfl⟩
theorem SO.some (ha : SE j a ga) : SO j (some a) (oSome ga) := by
  obtain ⟨t1, p1, k1⟩ := ha
  refine ⟨_, po_some p1, fun w ρ m σ H Q E h => ?_⟩
  refine k1 w ρ m σ H _ E (Post.bind h fun d m1 _ v H1 A1 r1 h1 => ?_)
  cases d with
  | int i => cases r1; exact ⟨i, rfl, h1 _ H1 ⟨.refl _ _, A1.tabs, A1.obs⟩ rfl⟩
  | _ => exact False.elim h1
def cutD {α : Type} (xs : List α) (lo hi : Option Int) : List α := (xs.drop (HT.sIx xs.length 0 lo)).take (HT.sIx xs.length xs.length hi - HT.sIx xs.length 0 lo)
def dSl (d : D) (lo hi : Option Int) : Option D := match d with
  | .tuple xs => some (.tuple (cutD xs lo hi))
  | .list xs => some (.list (cutD xs lo hi))
  | .str z => if z.length ≤ lineN then some (.str (Txt.slice z lo hi)) else none
  | _ => none
theorem cut_dp {K : PySem.W.Frag} {H : Hp} {ds : List D} {vs : List V} {lo hi : Option Int} (r : RpAll K H vs ds) : RpAll K H (cutV vs lo hi) (cutD ds lo hi) := by
  unfold cutV cutD
  rw [dpa_len r]
  exact dpa_take _ (dpa_drop _ r)
theorem sIx_whole {ds : List D} {lo hi : Option Int} (h : HT.sIx ds.length 0 lo = 0 ∧ HT.sIx ds.length ds.length hi = ds.length) : cutD ds lo hi = ds := by
  unfold cutD
  rw [h.1, h.2]
  simp
def eSl (a : DE) (l h : DO) : DE := fun ρ m => (a ρ m).bind fun x m => (l ρ m).bind fun lo m => (h ρ m).bind fun hi m => lift (dSl x lo hi) m
theorem SlR.or3 {X : Cx} : SlR X (fun x lo hi H Q => rSlL X.K x lo hi H Q ∨ (rSlA X.K x lo hi H Q ∨ C8.rSlX x lo hi H Q)) := .or sl_list (.or sl_tupA C8.sl_txt)
theorem SE.sl {lo hi : Option Expr} {p2 : Pos} {gl gh : DO} (ha : SE j a ga) (hl : SO j lo gl) (hh : SO j hi gh) : SE j (.Subscript a (.Slice lo hi none p2) pos) (eSl ga gl gh) := by
  obtain ⟨t1, p1, k1⟩ := ha
  obtain ⟨t2, q2, k2⟩ := hl
  obtain ⟨t3, q3, k3⟩ := hh
  refine ⟨_, pe_slice SlR.or3 p1 q2 q3, fun w ρ m σ H Q E h => ?_⟩
  refine k1 w ρ m σ H _ E (Post.bind h fun d m1 _ v H1 A1 r1 h1 => ?_)
  refine k2 w ρ m1 σ H1 _ (E.step A1) (Post.bind h1 fun l m2 _ l' H2 A2 r2 h2 => ?_)
  cases r2
  refine k3 w ρ m2 σ H2 _ ((E.step A1).step A2) (Post.bind h2 fun u m3 _ u' H3 A3 r3 h3 => ?_)
  cases r3
  obtain ⟨z, hz, hq'⟩ := post_lift h3
  have hq : ∀ v H', XT H3 H' → RD j w z v H' → Q v H' := fun v H' x r => hq' v H' (ex_aft A3.tabs A3.obs x) r
  replace r1 := dp_grow (A2.grow.trans A3.grow) r1
  cases d <;> simp only [dSl, reduceCtorEq] at hz
  · split at hz
    · rename_i hl
      cases hz; cases r1
      exact .inr (.inr ⟨_, rfl, lineN_le hl, fin_val A3.tabs A3.obs (.str _) hq⟩)
    · cases hz
  · cases hz
    cases r1 with
    | lst q1 q2 => exact .inl ⟨_, _, rfl, (rd_unmsk q1), fun p hp => fin_lst A3.tabs A3.obs hp (cut_dp q2) hq⟩
  · cases hz
    cases r1 with
    | tup q1 q2 =>
      refine .inr (.inl ⟨_, _, rfl, sqt_unmsk q1, fun hw => ?_, fun hw p hp => fin_tup A3.tabs A3.obs hp (cut_dp q2) hq⟩)
      rw [dpa_len q2] at hw
      rw [sIx_whole hw] at hq
      exact fin_val A3.tabs A3.obs (.tup q1 q2) hq

/-! ### calls of built-ins by values -/
def RTs (j : J) (w : Vw) : List D → List V → Hp → Prop
  | [], [], _ => True
  | d :: ds, v :: vs, H => RT j w d v H ∧ RTs j w ds vs H
  | _, _, _ => False
theorem RTs.of {j : J} {w : Vw} {H : Hp} : ∀ {ds : List D} {vs : List V}, RA j w ds vs H → RTs j w ds vs H
  | [], _, h => by cases h; trivial
  | d :: ds, _, h => by cases h with | cons h1 h2 => exact ⟨.inl h1, RTs.of h2⟩
def CallD (j : J) (f : Value) (g : List D → Option D) : Prop := ∃ r, CallR j.X f r ∧ ∀ w m H vs ds z Q, Tb j.T H → Obs j.X.K w m H → RTs j w ds vs H → g ds = some z → (∀ v H', XT H H' → RD j w z v H' → Q v H') → r vs H Q
def eBi (f : List D → Option D) (a : DA) : DE := fun ρ m => (a ρ m).bind fun xs m => lift (f xs) m
theorem SE.callB {id : String} {f : List D → Option D} {x : Str} {p : Pos} (hc : CallD j (.builtin id) f) (hg : Gl j.X x) (hm : j.X.mg x = none) (hv : bootBuiltins x = some (.builtin id)) (ha : SA j (e :: es) gs) (hn : x ≠ "__name__" := by decide) (hdb : (x == ("__debug__" : Str)) = false := by decide)
    (he : starEach (e :: es) j.X.env = (false, eval e j.X.env) :: starEach es j.X.env := by rfl) (hpl : (backTo pos (starEach es j.X.env)).any (·.1) = false := by rfl) : SE j (.Call (.Name x p) (e :: es) [] pos) (eBi f gs) := by
  obtain ⟨r, hr, k⟩ := hc
  obtain ⟨t1, p1, k1⟩ := ha
  refine ⟨_, pe_callB hr hg hm hv p1 hn hdb he hpl, fun w ρ m σ H Q E h => ?_⟩
  refine k1 w ρ m σ H _ E (Post.bind h fun ds m1 _ vs H1 A1 r1 h1 => ?_)
  obtain ⟨z, hz, hq⟩ := post_lift h1
  exact k w m1 H1 vs ds z Q A1.tabs A1.obs (.of r1) hz fun v H' x r => hq v H' (ex_aft A1.tabs A1.obs x) r
theorem SE.callTy {id : String} {f : List D → Option D} {x : Str} {p : Pos} (hc : CallD j (.type id) f) (hg : Gl j.X x) (hm : j.X.mg x = none) (hv : bootBuiltins x = some (.type id)) (ha : SA j (e :: es) gs) (hn : x ≠ "__name__" := by decide) (hdb : (x == ("__debug__" : Str)) = false := by decide)
    (he : starEach (e :: es) j.X.env = (false, eval e j.X.env) :: starEach es j.X.env := by rfl) (hpl : (backTo pos (starEach es j.X.env)).any (·.1) = false := by rfl) : SE j (.Call (.Name x p) (e :: es) [] pos) (eBi f gs) := by
  obtain ⟨r, hr, k⟩ := hc
  obtain ⟨t1, p1, k1⟩ := ha
  refine ⟨_, pe_callTy hr hg hm hv p1 hn hdb he hpl, fun w ρ m σ H Q E h => ?_⟩
  refine k1 w ρ m σ H _ E (Post.bind h fun ds m1 _ vs H1 A1 r1 h1 => ?_)
  obtain ⟨z, hz, hq⟩ := post_lift h1
  exact k w m1 H1 vs ds z Q A1.tabs A1.obs (.of r1) hz fun v H' x r => hq v H' (ex_aft A1.tabs A1.obs x) r
/-- gcd, .. brought in by an import -/
theorem SE.callI {id : String} {f : List D → Option D} {x : Str} {p : Pos} (hc : CallD j (.builtin id) f) (hg : Gl j.X x) (hm : j.X.mg x = some (.builtin id)) (ha : SA j (e :: es) gs) (hdb : (x == ("__debug__" : Str)) = false := by decide)
    (he : starEach (e :: es) j.X.env = (false, eval e j.X.env) :: starEach es j.X.env := by rfl) (hpl : (backTo pos (starEach es j.X.env)).any (·.1) = false := by rfl) : SE j (.Call (.Name x p) (e :: es) [] pos) (eBi f gs) := by
  obtain ⟨r, hr, k⟩ := hc
  obtain ⟨t1, p1, k1⟩ := ha
  refine ⟨_, pe_callBfun hr hg hm p1 hdb he hpl, fun w ρ m σ H Q E h => ?_⟩
  refine k1 w ρ m σ H _ E (Post.bind h fun ds m1 _ vs H1 A1 r1 h1 => ?_)
  obtain ⟨z, hz, hq⟩ := post_lift h1
  exact k w m1 H1 vs ds z Q A1.tabs A1.obs (.of r1) hz fun v H' x r => hq v H' (ex_aft A1.tabs A1.obs x) r
/-! the built-ins -/
def dLen : List D → Option D
  | [.str s] => if s.length ≤ lineN then some (.int s.length) else none
  | [.tuple xs] => some (.int xs.length)
  | [.list xs] => some (.int xs.length)
  | _ => none
def dAbs : List D → Option D
  | [.int i] => some (.int (if i < 0 then -i else i))
  | _ => none
def dInt : List D → Option D
  | [.int i] => some (.int i)
  | [.bool k] => some (.int (if k then 1 else 0))
  | _ => none
def dDivmod : List D → Option D
  | [.int i, .int k] => if decide (0 < k) && decide (k.natAbs < 1073741824) then some (.tuple [.int (i / k), .int (i % k)]) else none
  | _ => none
def boolsOf : List D → Option (List Bool)
  | [] => some []
  | .bool b :: ds => (boolsOf ds).map (b :: ·)
  | _ => none
def dAll : List D → Option D
  | [.list xs] => (boolsOf xs).map fun bs => .bool (bs.all id)
  | _ => none
def dAny : List D → Option D
  | [.list xs] => (boolsOf xs).map fun bs => .bool (bs.any id)
  | _ => none
def dTuple : List D → Option D
  | [.tuple xs] => some (.tuple xs)
  | [.list xs] => some (.tuple xs)
  | _ => none
def dList : List D → Option D
  | [.tuple xs] => some (.list xs)
  | [.list xs] => some (.list xs)
  | _ => none
def dMax2 : List D → Option D
  | [.int i, .int k] => some (.int (if k > i then k else i))
  | _ => none
def dMin2 : List D → Option D
  | [.int i, .int k] => some (.int (if k < i then k else i))
  | _ => none
def dGcd : List D → Option D
  | [.int a, .int b] => some (.int ((Nat.gcd a.natAbs b.natAbs : Nat) : Int))
  | _ => none
theorem ra1' {w : Vw} {H : Hp} {vs : List V} {d : D} (r : RA j w [d] vs H) : ∃ v, vs = [v] ∧ RD j w d v H := by
  cases r with | cons h1 h2 => cases h2; exact ⟨_, rfl, h1⟩
theorem ra2' {w : Vw} {H : Hp} {vs : List V} {d d' : D} (r : RA j w [d, d'] vs H) : ∃ v v', vs = [v, v'] ∧ RD j w d v H ∧ RD j w d' v' H := by
  cases r with | cons h1 h2 => obtain ⟨v, rfl, h⟩ := ra1' h2; exact ⟨_, _, rfl, h1, h⟩
theorem ra1 {w : Vw} {H : Hp} : ∀ {vs : List V} {d : D}, RTs j w [d] vs H → ∃ v, vs = [v] ∧ RT j w d v H
  | [v], _, r => ⟨v, rfl, r.1⟩
  | [], _, r => r.elim
  | _ :: _ :: _, _, r => r.2.elim
theorem ra2 {w : Vw} {H : Hp} : ∀ {vs : List V} {d d' : D}, RTs j w [d, d'] vs H → ∃ v v', vs = [v, v'] ∧ RT j w d v H ∧ RT j w d' v' H
  | [v, v'], _, _, r => ⟨v, v', rfl, r.1, r.2.1⟩
  | [], _, _, r => r.elim
  | [_], _, _, r => r.2.elim
  | _ :: _ :: _ :: _, _, _, r => r.2.2.elim
theorem CallD.len : CallD j (.builtin "len") dLen := by
  refine ⟨_, call_len, fun w m H vs ds z Q T O r hz q => ?_⟩
  unfold dLen at hz
  split at hz
  · obtain ⟨v, rfl, rr⟩ := ra1 r
    split at hz
    · rename_i hl; cases hz; cases rt_str rr
      exact ⟨_, _, rfl, ⟨lineN_le hl, rfl⟩, fin_val T O (.int _) q⟩
    · cases hz
  · obtain ⟨v, rfl, rr⟩ := ra1 r
    cases hz
    obtain ⟨a, us, rfl, q1, q2⟩ := rt_tup rr
    exact ⟨_, _, rfl, .inr ⟨_, sqt_unmsk q1, rfl⟩, by rw [dpa_len q2]; exact fin_val T O (.int _) q⟩
  · obtain ⟨v, rfl, rr⟩ := ra1 r
    cases hz
    obtain ⟨a, us, rfl, q1, q2⟩ := rt_lst rr
    exact ⟨_, _, rfl, .inl ⟨_, q1, rfl⟩, by rw [dpa_len q2]; exact fin_val T O (.int _) q⟩
  · cases hz
theorem CallD.abs : CallD j (.builtin "abs") dAbs := by
  refine ⟨_, call_abs, fun w m H vs ds z Q T O r hz q => ?_⟩
  unfold dAbs at hz
  split at hz
  · obtain ⟨v, rfl, rr⟩ := ra1 r
    cases hz; cases rt_int rr
    exact ⟨_, rfl, fin_val T O (.int _) q⟩
  · cases hz
theorem CallD.int : CallD j (.type "int") dInt := by
  refine ⟨_, call_int1, fun w m H vs ds z Q T O r hz q => ?_⟩
  unfold dInt at hz
  split at hz
  · obtain ⟨v, rfl, rr⟩ := ra1 r
    cases hz; cases rt_int rr
    exact .inl ⟨_, rfl, fin_val T O (.int _) q⟩
  · obtain ⟨v, rfl, rr⟩ := ra1 r
    cases hz; cases rt_bool rr
    exact .inr ⟨_, rfl, fin_val T O (.int _) q⟩
  · cases hz
theorem CallD.divmod : CallD j (.builtin "divmod") dDivmod := by
  refine ⟨_, call_divmod, fun w m H vs ds z Q T O r hz q => ?_⟩
  unfold dDivmod at hz
  split at hz
  · obtain ⟨v, v', rfl, rr, rr'⟩ := ra2 r
    split at hz
    · rename_i hs
      simp only [Bool.and_eq_true, decide_eq_true_eq] at hs
      cases hz; cases rt_int rr; cases rt_int rr'
      exact ⟨_, _, rfl, ⟨hs.1, by omega⟩, fun p hp => fin_tup T O hp (.cons (.int _) (.cons (.int _) .nil)) q⟩
    · cases hz
  · cases hz
theorem bools_of {K : PySem.W.Frag} {H : Hp} : ∀ {ds : List D} {vs : List V} {bs : List Bool}, RpAll K H vs ds → boolsOf ds = some bs → vs = bs.map V.bl
  | [], _, bs, r, h => by cases r; cases h; rfl
  | d :: ds, _, bs, r, h => by
    cases r with
    | cons h1 h2 =>
      cases d <;> simp only [boolsOf, reduceCtorEq] at h
      cases h1
      cases hb : boolsOf ds with
      | none => rw [hb] at h; cases h
      | some l => rw [hb] at h; cases h; rw [bools_of h2 hb]; rfl
theorem CallD.all {k : Nat} (o : JOk j k) : CallD j (.builtin "all") dAll := by
  refine ⟨_, cr_all o.calm, fun w m H vs ds z Q T O r hz q => ?_⟩
  unfold dAll at hz
  split at hz
  · obtain ⟨v, rfl, rr⟩ := ra1 r
    rename_i xs
    cases hb : boolsOf xs with
    | none => rw [hb] at hz; cases hz
    | some bs =>
      rw [hb] at hz; cases hz
      obtain ⟨a, us, rfl, q1, q2⟩ := rt_lst rr
      exact ⟨_, bs, rfl, by rw [← bools_of q2 hb]; exact q1, fin_val T O (.bl _) q⟩
  · cases hz
theorem CallD.any {k : Nat} (o : JOk j k) : CallD j (.builtin "any") dAny := by
  refine ⟨_, cr_any o.calm, fun w m H vs ds z Q T O r hz q => ?_⟩
  unfold dAny at hz
  split at hz
  · obtain ⟨v, rfl, rr⟩ := ra1 r
    rename_i xs
    cases hb : boolsOf xs with
    | none => rw [hb] at hz; cases hz
    | some bs =>
      rw [hb] at hz; cases hz
      obtain ⟨a, us, rfl, q1, q2⟩ := rt_lst rr
      exact ⟨_, bs, rfl, by rw [← bools_of q2 hb]; exact q1, fin_val T O (.bl _) q⟩
  · cases hz
theorem CallD.tuple : CallD j (.type "tuple") dTuple := by
  refine ⟨_, call_tuple_of, fun w m H vs ds z Q T O r hz q => ?_⟩
  unfold dTuple at hz
  split at hz
  · obtain ⟨v, rfl, rr⟩ := ra1 r
    cases hz
    obtain ⟨a, us, rfl, q1, q2⟩ := rt_tup rr
    exact ⟨_, _, rfl, .inr ⟨sqt_unmsk q1, fin_val T O (.tup q1 q2) q⟩⟩
  · obtain ⟨v, rfl, rr⟩ := ra1 r
    cases hz
    obtain ⟨a, us, rfl, q1, q2⟩ := rt_lst rr
    exact ⟨_, _, rfl, .inl ⟨q1, fun p hp => fin_tup T O hp q2 q⟩⟩
  · cases hz
theorem CallD.list : CallD j (.type "list") dList := by
  refine ⟨_, call_list_of, fun w m H vs ds z Q T O r hz q => ?_⟩
  unfold dList at hz
  split at hz
  · obtain ⟨v, rfl, rr⟩ := ra1 r
    cases hz
    obtain ⟨a, us, rfl, q1, q2⟩ := rt_tup rr
    exact ⟨_, _, rfl, .inr (sqt_unmsk q1), fun p hp => fin_lst T O hp q2 q⟩
  · obtain ⟨v, rfl, rr⟩ := ra1 r
    cases hz
    obtain ⟨a, us, rfl, q1, q2⟩ := rt_lst rr
    exact ⟨_, _, rfl, .inl (q1), fun p hp => fin_lst T O hp q2 q⟩
  · cases hz
theorem CallD.max2 {k : Nat} (o : JOk j k) : CallD j (.builtin "max") dMax2 := by
  refine ⟨_, call_max2 o.calm, fun w m H vs ds z Q T O r hz q => ?_⟩
  unfold dMax2 at hz
  split at hz
  · obtain ⟨v, v', rfl, rr, rr'⟩ := ra2 r
    cases hz; cases rt_int rr; cases rt_int rr'
    exact ⟨_, _, rfl, fin_val T O (.int _) q⟩
  · cases hz
theorem CallD.min2 {k : Nat} (o : JOk j k) : CallD j (.builtin "min") dMin2 := by
  refine ⟨_, call_min2 o.calm, fun w m H vs ds z Q T O r hz q => ?_⟩
  unfold dMin2 at hz
  split at hz
  · obtain ⟨v, v', rfl, rr, rr'⟩ := ra2 r
    cases hz; cases rt_int rr; cases rt_int rr'
    exact ⟨_, _, rfl, fin_val T O (.int _) q⟩
  · cases hz
theorem CallD.gcd : CallD j (.builtin "math.gcd") dGcd := by
  refine ⟨_, cr_gcd, fun w m H vs ds z Q T O r hz q => ?_⟩
  unfold dGcd at hz
  split at hz
  · obtain ⟨v, v', rfl, rr, rr'⟩ := ra2 r
    cases hz; cases rt_int rr; cases rt_int rr'
    exact ⟨_, _, rfl, fin_val T O (.int _) q⟩
  · cases hz
/-! isinstance(x, T), T a built-in type -/
def isa (t : String) : D → Bool
  | .none => t == "NoneType"
  | .bool _ => t == "bool" || t == "int"
  | .int _ => t == "int"
  | .str _ => t == "str"
  | .list _ => t == "list"
  | .tuple _ => t == "tuple"
  | .dict _ => false
def eIsa (t : String) (a : DE) : DE := fun ρ m => (a ρ m).bind fun x m => .ok (.bool (isa t x)) m
def tyOf : D → String
  | .none => "NoneType" | .bool _ => "bool" | .int _ => "int" | .str _ => "str" | .list _ => "list" | .tuple _ => "tuple" | .dict _ => "dict"
theorem tyx {K : PySem.W.Frag} {H : Hp} {d : D} {v : V} (r : Rp K H v d) : TyX K H v (.type (tyOf d)) := by
  cases r with
  | non => exact .base .non
  | bl b => exact .base (.bl b)
  | int i => exact .base (.int i)
  | str x => exact .base (.str x)
  | lst h _ =>
    rcases h with (h | ⟨o, h⟩) | ⟨o, its, n, h1, h2, _⟩
    · exact .base (.lst h)
    · exact .base (.frz h)
    · exact .kList h1 h2
  | tup h _ =>
    rcases h with (h | ⟨o, h⟩) | ⟨o, its, n, h1, h2, _⟩
    · exact .base (.tup h)
    · exact .fTuple h
    · exact .kTuple h1 h2
theorem SE.isa {t : Str} {ts : String} {p p' : Pos} (ha : SE j a ga) (hg : Gl j.X "isinstance") (hm : j.X.mg "isinstance" = none) (hg' : Gl j.X t) (hm' : j.X.mg t = none) (hv' : bootBuiltins t = some (.type ts)) (hn' : t ≠ "__name__") (hd' : (t == ("__debug__" : Str)) = false)
    (hk : ∀ (K : PySem.W.Frag) (d : D), PySem.W.kitOne K (.type (tyOf d)) (.type ts) = some (DS.isa ts d) ∨ ∃ kvs, d = .dict kvs)
    (he : starEach [a, .Name t p'] j.X.env = (false, eval a j.X.env) :: starEach [.Name t p'] j.X.env := by rfl) (he2 : starEach [.Name t p'] j.X.env = (false, eval (.Name t p') j.X.env) :: starEach [] j.X.env := by rfl)
    (hpl : (backTo pos (starEach [.Name t p'] j.X.env)).any (·.1) = false := by rfl) :
    SE j (.Call (.Name "isinstance" p) [a, .Name t p'] [] pos) (eIsa ts ga) := by
  obtain ⟨t1, p1, k1⟩ := ha
  have pt : PE j.X (.Name t p') (tC (.ty ts)) := pe_bltn hg' hm' hv' rfl hn' hd'
  refine ⟨_, pe_callB call_isi hg hm (by decide +kernel) (pa_cons p1 (pa_cons pt pa_nil he2) he) (he := he) (hpl := hpl), fun w ρ m σ H Q E h => ?_⟩
  refine k1 w ρ m σ H _ E (Post.bind h fun d m1 _ v H1 A1 r1 h1 => ?_)
  refine ⟨v, _, _, _, DS.isa ts d, rfl, .ty ts, tyx (unmsk r1), ?_, h1 _ H1 ⟨.refl _ _, A1.tabs, A1.obs⟩ (.bl _)⟩
  rcases hk j.X.K d with q | ⟨kvs, rfl⟩
  · exact q
  · cases r1
end
end DS

set_option maxRecDepth 100000
set_option maxHeartbeats 2000000
namespace DS
open PySem PySem.Spec PyProof.Rows L2 LamX NdefX

/-! ### statements -/
inductive SR where
  | bad | next (ρ : List Slot) (m : Ms) | ret (d : D) (m : Ms) | brk (ρ : List Slot) (m : Ms) | cont (ρ : List Slot) (m : Ms) | exc (x : Exc) (m : Ms)
abbrev DS := List Slot → Ms → SR
/-- the state within a body, told from where it began: w0, H0 -/
structure StE (j : J) (w0 : Vw) (H0 : Hp) (w : Vw) (ρ : List Slot) (m : Ms) (σ : L2.St) (H : Hp) : Prop where
  en : En j w ρ m σ H
  ex : w.ex = w0.ex
  pre : w.as.take w0.as.length = w0.as
  grow : Grow w0 H0 H
  new : ∀ (k : Nat) (a : Addr), w0.as.length ≤ k → w.as[k]? = some (some a) → NT H0 a
  own : ∀ (i k : Nat), ρ[i]? = some (.ow k) → w0.as.length ≤ k
/-- behind the body -/
structure Fin (j : J) (w0 : Vw) (H0 : Hp) (m : Ms) (H : Hp) : Prop where
  grow : Grow w0 H0 H
  tabs : Tb j.T H
  obs : Obs j.X.K w0 (m.take w0.as.length) H
/-- wS, HS: where the statement began -/
def PostS (j : J) (w0 : Vw) (H0 : Hp) (wS : Vw) (HS : Hp) (E : Ends) : SR → Prop
  | .bad => False
  | .next ρ m => ∀ w σ H, StE j w0 H0 w ρ m σ H → ExtN (msk wS HS) (msk w H) → E.nx σ H
  | .brk ρ m => ∀ w σ H, StE j w0 H0 w ρ m σ H → ExtN (msk wS HS) (msk w H) → E.bk σ H
  | .cont ρ m => ∀ w σ H, StE j w0 H0 w ρ m σ H → ExtN (msk wS HS) (msk w H) → E.ct σ H
  | .ret d m => ∀ v H, Fin j w0 H0 m H → RD j w0 d v H → E.rt v H
  | .exc x m => ∀ cls dd σ H, Fin j w0 H0 m H → ExcIs j.X.K j.X.mg w0 x cls dd H → j.W cls dd σ H
def SS (j : J) (st : Stmt) (g : DS) : Prop := ∃ t, PS j.X st t ∧ ∀ w0 H0 w ρ m σ H E, StE j w0 H0 w ρ m σ H → PostS j w0 H0 w H E (g ρ m) → t E σ H
def SSs (j : J) (sts : List Stmt) (g : DS) : Prop := ∃ t, PSs j.X sts t ∧ ∀ w0 H0 w ρ m σ H E, StE j w0 H0 w ρ m σ H → PostS j w0 H0 w H E (g ρ m) → t E σ H

section
variable {j : J} {w0 w w1 : Vw} {H0 H H1 : Hp} {ρ ρ1 : List Slot} {m m1 : Ms} {σ σ1 : L2.St}
theorem take_mem {as as0 : As} (h : as.take as0.length = as0) {k : Nat} {x : Option Addr} (e : as0[k]? = some x) : as[k]? = some x := by
  have h1 : k < as0.length := (List.getElem?_eq_some_iff.mp e).1
  rw [← h] at e
  rw [List.getElem?_take_of_lt h1] at e
  exact e
theorem StE.sub (s : StE j w0 H0 w ρ m σ H) {b : Addr} (h : Hid w0 b) : Hid w b := by
  rcases h with h | h
  · obtain ⟨k, hk⟩ := List.getElem?_of_mem h
    exact .inl (List.mem_of_getElem? (take_mem s.pre hk))
  · exact .inr (by rw [s.ex]; exact h)
/-- what is seen with less hidden -/
theorem StE.unhide (s : StE j w0 H0 w ρ m σ H) : ExtN (msk w H) (msk w0 H) := fun b o h _ => by
  obtain ⟨h1, h2⟩ := of_msk h
  exact msk_of h1 fun z => h2 (s.sub z)
theorem StE.hide (s : StE j w0 H0 w ρ m σ H) : ExtN (msk w0 H0) (msk w H) := fun b o h n => by
  obtain ⟨h1, h2⟩ := of_msk h
  refine msk_of (s.grow.keep b o h1 n fun z => h2 (.inl z)) fun z => ?_
  rcases z with z | z
  · obtain ⟨k, hk⟩ := List.getElem?_of_mem z
    by_cases hl : w0.as.length ≤ k
    · exact (s.new k b hl hk).ne h1 n rfl
    · refine h2 (.inl ?_)
      have e : w0.as[k]? = some (some b) := by
        rw [← s.pre, List.getElem?_take_of_lt (by omega)]; exact hk
      exact List.mem_of_getElem? e
  · exact h2 (.inr (by rw [← s.ex]; exact z))
theorem StE.len (s : StE j w0 H0 w ρ m σ H) : w0.as.length ≤ w.as.length := by
  have h := congrArg List.length s.pre
  rw [List.length_take] at h
  omega
theorem StE.fin (s : StE j w0 H0 w ρ m σ H) : Fin j w0 H0 m H := by
  refine ⟨s.grow, s.en.tabs, ?_⟩
  have O := s.en.obs
  have hl := s.len
  refine ⟨by rw [List.length_take]; have := O.len; omega, fun k a h => ?_, fun k h => ?_, fun i k a h h' => O.inj i k a (take_mem s.pre h) (take_mem s.pre h'), fun b hb => ?_⟩
  · obtain ⟨ds, vs, h1, h2, h3⟩ := O.at_ k a (take_mem s.pre h)
    have hk := (List.getElem?_eq_some_iff.mp h).1
    exact ⟨ds, vs, by rw [List.getElem?_take_of_lt hk]; exact h1, h2, dpa_ext s.unhide _ _ h3⟩
  · have hk := (List.getElem?_eq_some_iff.mp h).1
    rw [List.getElem?_take_of_lt hk]
    exact O.dead k (take_mem s.pre h)
  · obtain ⟨h1, h2⟩ := O.exs b (by rw [s.ex]; exact hb)
    exact ⟨h1, fun z => h2 (by
      obtain ⟨k, hk⟩ := List.getElem?_of_mem z
      exact List.mem_of_getElem? (take_mem s.pre hk))⟩
/-- an expression ran -/
theorem StE.aft (s : StE j w0 H0 w ρ m σ H) (a : Aft j w m1 H H1) : StE j w0 H0 w ρ m1 σ H1 := by
  refine ⟨s.en.step a, s.ex, s.pre, ⟨fun b o h n z => ?_, fun b h => s.grow.there b (a.grow.there b h)⟩, s.new, s.own⟩
  have h1 := s.grow.keep b o h n z
  refine a.grow.keep b o h1 n fun q => ?_
  obtain ⟨k, hk⟩ := List.getElem?_of_mem q
  by_cases hl : w0.as.length ≤ k
  · exact (s.new k b hl hk).ne h n rfl
  · refine z ?_
    have e : w0.as[k]? = some (some b) := by
      rw [← s.pre, List.getElem?_take_of_lt (by omega)]; exact hk
    exact List.mem_of_getElem? e
theorem PostS.at {E : Ends} {r : SR} {wS wT : Vw} {HS HT : Hp} (h : PostS j w0 H0 wS HS E r) (e : ExtN (msk wS HS) (msk wT HT)) : PostS j w0 H0 wT HT E r := by
  cases r with
  | bad => exact h
  | next ρ m => exact fun w σ H s x => h w σ H s (e.trans x)
  | brk ρ m => exact fun w σ H s x => h w σ H s (e.trans x)
  | cont ρ m => exact fun w σ H s x => h w σ H s (e.trans x)
  | ret d m => exact h
  | exc x m => exact h
/-- an expression within a statement -/
def Res.thn {α : Type} (r : Res α) (f : α → Ms → SR) : SR := match r with
  | .bad => .bad
  | .ok a m => f a m
  | .exc x m => .exc x m
@[simp] theorem Res.thn_ok {α : Type} (a : α) (m : Ms) (f : α → Ms → SR) : (Res.ok a m).thn f = f a m := rfl
@[simp] theorem Res.thn_bad {α : Type} (f : α → Ms → SR) : (Res.bad : Res α).thn f = .bad := rfl
@[simp] theorem Res.thn_exc {α : Type} (x : Exc) (m : Ms) (f : α → Ms → SR) : (Res.exc x m : Res α).thn f = .exc x m := rfl
theorem ExcIs.unhide {x : Exc} {cls : Value} {dd : Option Addr} (s : StE j w0 H0 w ρ m σ H) (h : ExcIs j.X.K j.X.mg w x cls dd H) : ExcIs j.X.K j.X.mg w0 x cls dd H := by
  obtain ⟨C, h1, h2, h3⟩ := h
  refine ⟨C, h1, h2, ?_⟩
  cases hp : x.pay with
  | none => rw [hp] at h3; exact h3
  | some p =>
    obtain ⟨f, d⟩ := p
    rw [hp] at h3
    obtain ⟨a, v, q1, q2, q3⟩ := h3
    exact ⟨a, v, q1, q2, dp_ext s.unhide _ _ q3⟩
theorem Post.thn {α β : Type} {R : α → β → Hp → Prop} {Q1 : β → Hp → Prop} {E : Ends} {r : Res α} {f : α → Ms → SR} (s : StE j w0 H0 w ρ m σ H) (h : PostS j w0 H0 w H E (r.thn f))
    (k : ∀ d m1, r = .ok d m1 → ∀ v H1, StE j w0 H0 w ρ m1 σ H1 → R d v H1 → PostS j w0 H0 w H1 E (f d m1) → Q1 v H1) : Post j w σ H R Q1 r := by
  cases r with
  | bad => exact h
  | ok d m1 => exact fun v H1 a r => k d m1 rfl v H1 (s.aft a) r (PostS.at h a.grow.ext)
  | exc x m1 => exact fun cls dd H1 a e => h cls dd σ H1 (s.aft a).fin (ExcIs.unhide (s.aft a) e)
theorem Post.thnA {α β : Type} {R : α → β → Hp → Prop} {Q1 : β → Hp → Prop} {E : Ends} {r : Res α} {f : α → Ms → SR} (s : StE j w0 H0 w ρ m σ H) (h : PostS j w0 H0 w H E (r.thn f))
    (k : ∀ d m1, r = .ok d m1 → ∀ v H1, Aft j w m1 H H1 → StE j w0 H0 w ρ m1 σ H1 → R d v H1 → PostS j w0 H0 w H1 E (f d m1) → Q1 v H1) : Post j w σ H R Q1 r := by
  cases r with
  | bad => exact h
  | ok d m1 => exact fun v H1 a r => k d m1 rfl v H1 a (s.aft a) r (PostS.at h a.grow.ext)
  | exc x m1 => exact fun cls dd H1 a e => h cls dd σ H1 (s.aft a).fin (ExcIs.unhide (s.aft a) e)
end
end DS

set_option maxRecDepth 100000
set_option maxHeartbeats 2000000
namespace DS
open PySem PySem.Spec PyProof.Rows L2 LamX NdefX

def sNil : DS := fun ρ m => .next ρ m
def sSeq (a b : DS) : DS := fun ρ m => match a ρ m with
  | .next ρ m => b ρ m
  | r => r
def sExpr (a : DE) : DS := fun ρ m => (a ρ m).thn fun _ m => .next ρ m
def sRet (a : DE) : DS := fun ρ m => (a ρ m).thn fun d m => .ret d m
def sRetN : DS := fun _ m => .ret .none m
def sIf (t : DT) (a b : DS) : DS := fun ρ m => (t ρ m).thn fun c m => if c = true then a ρ m else b ρ m
def sBrk : DS := fun ρ m => .brk ρ m
def sCont : DS := fun ρ m => .cont ρ m
section
variable {j : J} {st : Stmt} {rest body body2 : List Stmt} {g g1 g2 gb : DS} {e c tg iter : Expr} {ge : DE} {gt : DT} {pos pos' : Pos}
variable {w0 w : Vw} {H0 H : Hp} {ρ : List Slot} {m : Ms} {σ : L2.St}
theorem extN_refl {H : Hp} : ExtN H H := fun _ _ h _ => h
theorem SSs.nil : SSs j [] sNil := ⟨_, pss_nil, fun w0 H0 w ρ m σ H E s h => h w σ H s extN_refl⟩
theorem SSs.cons (h1 : SS j st g1) (h2 : SSs j rest g2) : SSs j (st :: rest) (sSeq g1 g2) := by
  obtain ⟨t1, p1, k1⟩ := h1
  obtain ⟨t2, p2, k2⟩ := h2
  refine ⟨_, pss_cons p1 p2, fun w0 H0 w ρ m σ H E s h => ?_⟩
  refine k1 w0 H0 w ρ m σ H _ s ?_
  unfold sSeq at h
  cases hg : g1 ρ m with
  | bad => rw [hg] at h; exact h
  | next ρ' m' =>
    rw [hg] at h
    exact fun w1 σ1 H1 s1 x => k2 w0 H0 w1 ρ' m' σ1 H1 E s1 (PostS.at h x)
  | ret d m' => rw [hg] at h; exact h
  | brk ρ' m' => rw [hg] at h; exact h
  | cont ρ' m' => rw [hg] at h; exact h
  | exc x m' => rw [hg] at h; exact h
theorem SSs.one (h1 : SS j st g) : SSs j [st] g := by
  obtain ⟨t1, p1, k1⟩ := h1
  exact ⟨_, pss_one p1, k1⟩
theorem SS.pass : SS j (.Pass pos) sNil := ⟨_, ps_pass, fun w0 H0 w ρ m σ H E s h => h w σ H s extN_refl⟩
theorem SS.brk : SS j (.Break pos) sBrk := ⟨_, ps_break, fun w0 H0 w ρ m σ H E s h => h w σ H s extN_refl⟩
theorem SS.cont : SS j (.Continue pos) sCont := ⟨_, ps_continue, fun w0 H0 w ρ m σ H E s h => h w σ H s extN_refl⟩
theorem SS.expr (he : SE j e ge) (hs : swapsWith e none pos.line j.X.env = pure false := by rfl) : SS j (.Expr e pos) (sExpr ge) := by
  obtain ⟨t1, p1, k1⟩ := he
  refine ⟨_, ps_expr p1 hs, fun w0 H0 w ρ m σ H E s h => ?_⟩
  exact k1 w ρ m σ H _ s.en (Post.thn s h fun d m1 _ v H1 s1 r h1 => h1 w σ H1 s1 extN_refl)
theorem SS.ret (he : SE j e ge) : SS j (.Return (some e) pos) (sRet ge) := by
  obtain ⟨t1, p1, k1⟩ := he
  refine ⟨_, ps_ret p1, fun w0 H0 w ρ m σ H E s h => ?_⟩
  exact k1 w ρ m σ H _ s.en (Post.thn s h fun d m1 _ v H1 s1 r h1 => h1 v H1 s1.fin (dp_ext s1.unhide _ _ r))
theorem SS.retN : SS j (.Return none pos) sRetN := ⟨_, ps_retN, fun w0 H0 w ρ m σ H E s h => h .non H s.fin .non⟩
theorem SS.ife (hc : ST j c gt) (ha : SSs j body g1) (hb : SSs j body2 g2) : SS j (.If c body body2 pos) (sIf gt g1 g2) := by
  obtain ⟨t0, p0, k0⟩ := hc
  obtain ⟨t1, p1, k1⟩ := ha
  obtain ⟨t2, p2, k2⟩ := hb
  refine ⟨_, ps_if p0 p1 p2, fun w0 H0 w ρ m σ H E s h => ?_⟩
  refine k0 w ρ m σ H _ s.en (Post.thn s h fun d m1 _ v H1 s1 r h1 => ?_)
  cases r
  cases d with
  | true => exact iteT (k1 w0 H0 w ρ m1 σ H1 E s1 h1)
  | false => exact iteF (k2 w0 H0 w ρ m1 σ H1 E s1 h1)

/-! ### targets: names, tuples of targets -/
abbrev DG := D → List Slot → Option (List Slot)
theorem wipe_get (σ : L2.St) : ∀ (vs : List Nat) (k : Nat), (wipe σ vs)[k]? = if k ∈ vs then (σ[k]?).map fun _ => none else σ[k]?
  | [], k => by simp [wipe]
  | v :: vs, k => by
    show (((wipe σ vs).set v none))[k]? = _
    rw [List.getElem?_set]
    have ih := wipe_get σ vs k
    by_cases e : v = k
    · subst e
      rw [if_pos rfl]
      simp only [List.mem_cons, true_or, if_true]
      by_cases hl : v < (wipe σ vs).length
      · rw [if_pos hl]
        have hl2 : v < σ.length := by rw [wipe_length] at hl; exact hl
        rw [List.getElem?_eq_getElem hl2]; rfl
      · rw [if_neg hl]
        have hl2 : ¬ v < σ.length := by rw [wipe_length] at hl; exact hl
        rw [List.getElem?_eq_none (by omega)]; rfl
    · rw [if_neg e, ih]
      have : (k ∈ v :: vs) = (k ∈ vs) := by simp [Ne.symm e]
      simp only [this]
theorem wipe_set {σ : L2.St} {vs : List Nat} {i : Nat} {x : Option V} (h : i ∈ vs) : wipe (σ.set i x) vs = wipe σ vs := by
  apply List.ext_getElem?
  intro k
  rw [wipe_get, wipe_get, List.getElem?_set]
  by_cases e : i = k
  · subst e
    rw [if_pos h, if_pos h, if_pos rfl]
    by_cases hl : i < σ.length
    · rw [if_pos hl, List.getElem?_eq_getElem hl]; rfl
    · rw [if_neg hl, List.getElem?_eq_none (by omega)]
  · rw [if_neg e]
def OwSub (ρ' ρ : List Slot) : Prop := ∀ (i k : Nat), ρ'[i]? = some (Slot.ow k) → ρ[i]? = some (Slot.ow k)
/-- only the slots is are stored -/
def SG (j : J) (tg : Expr) (is : List Nat) (g : DG) : Prop := ∃ t, PG j.X tg t ∧ ∀ w ρ m σ H d v ρ' Q, En j w ρ m σ H → RD j w d v H → g d ρ = some ρ' →
  (∀ σ', En j w ρ' m σ' H → (∀ vs : List Nat, (∀ i ∈ is, i ∈ vs) → wipe σ' vs = wipe σ vs) → OwSub ρ' ρ → Q σ' H) → t v σ H Q
def SGs (j : J) (tgs : List Expr) (is : List Nat) (g : List D → List Slot → Option (List Slot)) : Prop := ∃ t, PGs j.X tgs t ∧ ∀ w ρ m σ H ds vs ρ' Q, En j w ρ m σ H → RA j w ds vs H → g ds ρ = some ρ' →
  (∀ σ', En j w ρ' m σ' H → (∀ vs : List Nat, (∀ i ∈ is, i ∈ vs) → wipe σ' vs = wipe σ vs) → OwSub ρ' ρ → Q σ' H) → t vs σ H Q
def gV (i : Nat) : DG := fun d ρ => if i < ρ.length then some (ρ.set i (.v d)) else none
def gNil' : List D → List Slot → Option (List Slot) := fun ds ρ => match ds with
  | [] => some ρ
  | _ => none
def gCons' (a : DG) (b : List D → List Slot → Option (List Slot)) : List D → List Slot → Option (List Slot) := fun ds ρ => match ds with
  | d :: ds => (a d ρ).bind (b ds)
  | [] => none
def gTup' (n : Nat) (b : List D → List Slot → Option (List Slot)) : DG := fun d ρ => match d with
  | .tuple ds => if ds.length = n then b ds ρ else none
  | _ => none
theorem En.set {d : D} {v : V} {i : Nat} (E : En j w ρ m σ H) (hi : i < ρ.length) (r : RD j w d v H) : En j w (ρ.set i (.v d)) m (σ.set i (some v)) H := by
  refine ⟨E.tabs, E.obs, by rw [List.length_set, List.length_set]; exact E.len, fun k x h => ?_, E.bs⟩
  rw [List.getElem?_set] at h
  rw [List.getElem?_set]
  by_cases e : i = k
  · subst e
    rw [if_pos rfl, if_pos hi] at h
    cases h
    rw [if_pos rfl, if_pos (by rw [← E.len]; exact hi)]
    exact ⟨v, rfl, r⟩
  · rw [if_neg e] at h ⊢
    exact E.sl k x h
theorem ow_set {i k l : Nat} {d : D} (h : (ρ.set i (.v d))[l]? = some (.ow k)) : ρ[l]? = some (.ow k) := by
  rw [List.getElem?_set] at h
  split at h
  · split at h
    · cases h
    · cases h
  · exact h
theorem SG.name {k : Nat} (o : JOk j k) (i : Nat) {x : Str} (hi : j.X.N[i]? = some x := by rfl) (hx : Loc j.X.env.scope x := by first | exact Or.inl rfl | exact Or.inr rfl) (hf : j.X.fn x = true ∨ j.X.env.scope.names.lookup x = some .local := by first | exact .inl rfl | exact .inr rfl) : SG j (.Name x pos) [i] (gV i) := by
  refine ⟨_, pg_name o.nd hi hx hf, fun w ρ m σ H d v ρ' Q E r h q => ?_⟩
  unfold gV at h
  split at h
  · rename_i hl
    cases h
    exact q _ (E.set hl r) (fun vs hv => wipe_set (hv i (by simp))) fun l k h => ow_set h
  · cases h
theorem SGs.nil : SGs j [] [] gNil' := by
  refine ⟨_, pgs_nil, fun w ρ m σ H ds vs ρ' Q E r h q => ?_⟩
  cases ds with
  | nil => cases h; cases r; exact ⟨rfl, q σ E (fun _ _ => rfl) fun _ _ h => h⟩
  | cons d ds => cases h
theorem SGs.cons {tgs : List Expr} {is js : List Nat} {g : DG} {gs : List D → List Slot → Option (List Slot)} (h1 : SG j tg is g) (h2 : SGs j tgs js gs) (hs : (assignEach (tg :: tgs) j.X.env).map (·.2) = assign tg j.X.env :: (assignEach tgs j.X.env).map (·.2) := by rfl) : SGs j (tg :: tgs) (is ++ js) (gCons' g gs) := by
  obtain ⟨t1, p1, k1⟩ := h1
  obtain ⟨t2, p2, k2⟩ := h2
  refine ⟨_, pgs_cons p1 p2 hs, fun w ρ m σ H ds vs ρ' Q E r h q => ?_⟩
  cases ds with
  | nil => cases h
  | cons d ds =>
    cases r with
    | cons r1 r2 =>
      have h' : (g d ρ).bind (gs ds) = some ρ' := h
      cases hg : g d ρ with
      | none => rw [hg] at h'; cases h'
      | some ρ1 =>
        rw [hg] at h'
        refine ⟨_, _, rfl, k1 w ρ m σ H d _ ρ1 _ E r1 hg fun σ1 E1 w1 o1 => ?_⟩
        refine k2 w ρ1 m σ1 H ds _ ρ' Q E1 r2 h' fun σ2 E2 w2 o2 => q σ2 E2 (fun vs hv => ?_) fun i k h => o1 i k (o2 i k h)
        rw [w2 vs fun i hi => hv i (List.mem_append_right _ hi), w1 vs fun i hi => hv i (List.mem_append_left _ hi)]
theorem SG.tup {tgs : List Expr} {is : List Nat} {gs : List D → List Slot → Option (List Slot)} {k n kk : Nat} (o : JOk j k) (h : SGs j tgs is gs)
    (hn : (assignEach tgs j.X.env).length = n := by rfl) (hst : (assignEach tgs j.X.env).findIdx? (·.1) = none := by rfl) : SG j (.Tuple tgs kk pos) is (gTup' n gs) := by
  obtain ⟨t1, p1, k1⟩ := h
  refine ⟨_, pg_tup o.calm p1 hn hst, fun w ρ m σ H d v ρ' Q E r h q => ?_⟩
  cases d <;> simp only [gTup', reduceCtorEq] at h
  split at h
  · rename_i hl
    cases r with
    | tup q1 q2 => exact ⟨_, _, rfl, sqt_unmsk q1, by rw [dpa_len q2]; exact hl, k1 w ρ m σ H _ _ ρ' Q E q2 h q⟩
  · cases h
def sAsg (a : DE) (g : DG) : DS := fun ρ m => (a ρ m).thn fun d m => match g d ρ with
  | some ρ' => .next ρ' m
  | none => .bad
theorem StE.stored {w1 : Vw} {ρ' : List Slot} {σ' : L2.St} (s : StE j w0 H0 w ρ m σ H) (E : En j w ρ' m σ' H) (ho : OwSub ρ' ρ) : StE j w0 H0 w ρ' m σ' H :=
  ⟨E, s.ex, s.pre, s.grow, s.new, fun i k h => s.own i k (ho i k h)⟩
theorem asg_post {is : List Nat} {g : DG} {E : Ends} {d : D} {v : V} {t : TG} (k : ∀ w ρ m σ H d v ρ' Q, En j w ρ m σ H → RD j w d v H → g d ρ = some ρ' →
      (∀ σ', En j w ρ' m σ' H → (∀ vs : List Nat, (∀ i ∈ is, i ∈ vs) → wipe σ' vs = wipe σ vs) → OwSub ρ' ρ → Q σ' H) → t v σ H Q)
    (s : StE j w0 H0 w ρ m σ H) (r : RD j w d v H) (h : PostS j w0 H0 w H E (match g d ρ with | some ρ' => .next ρ' m | none => .bad)) : t v σ H E.nx := by
  cases hg : g d ρ with
  | none => rw [hg] at h; exact h.elim
  | some ρ' =>
    rw [hg] at h
    exact k w ρ m σ H d v ρ' _ s.en r hg fun σ' E' _ ho => h w σ' H (s.stored (w1 := w) E' ho) extN_refl
theorem SS.asg {is : List Nat} {g : DG} (he : SE j e ge) (hg : SG j tg is g) (hs : swapsWithSole [tg] e pos.line j.X.env = pure false := by rfl) (hw : swappedStores [tg] e j.X.env = pure none := by rfl)
    (h1 : (assignEach [tg] j.X.env).map (·.2) = [assign tg j.X.env] := by rfl) : SS j (.Assign [tg] e pos) (sAsg ge g) := by
  obtain ⟨t1, p1, k1⟩ := he
  obtain ⟨t2, p2, k2⟩ := hg
  refine ⟨_, ps_asg p1 p2 hs hw h1, fun w0 H0 w ρ m σ H E s h => ?_⟩
  exact k1 w ρ m σ H _ s.en (Post.thn s h fun d m1 _ v H1 s1 r h1 => asg_post (g := g) k2 s1 r h1)
/-- a, b = x, y, plain local names -/
def sPar (i k : Nat) (a : DA) : DS := fun ρ m => (a ρ m).thn fun ds m => match ds with
  | [d, e] => if i < ρ.length ∧ k < ρ.length then .next ((ρ.set i (.v d)).set k (.v e)) m else .bad
  | _ => .bad
theorem SS.par {kk : Nat} (o : JOk j kk) {a b : Expr} {x y : Str} {px py pt pt2 : Pos} {kt k2 i l : Nat} {ga : DA} (ha : SA j [a, b] ga) (hi : j.X.N[i]? = some x := by rfl) (hj : j.X.N[l]? = some y := by rfl) (hij : i ≠ l := by decide)
    (hx : j.X.env.scope.names.lookup x = some .local := by rfl) (hy : j.X.env.scope.names.lookup y = some .local := by rfl)
    (hw : swappedStores [.Tuple [.Name x px, .Name y py] kt pt] (.Tuple [a, b] k2 pt2) j.X.env = pure (some [x, y]) := by rfl)
    (hsp : starEach [a, b] j.X.env = (false, eval a j.X.env) :: (false, eval b j.X.env) :: [] := by rfl) :
    SS j (.Assign [.Tuple [.Name x px, .Name y py] kt pt] (.Tuple [a, b] k2 pt2) pos) (sPar i l ga) := by
  obtain ⟨t1, p1, k1⟩ := ha
  refine ⟨_, ps_par o.calm o.nd hi hj hij hx hy p1 hw, fun w0 H0 w ρ m σ H E s h => ?_⟩
  refine k1 w ρ m σ H _ s.en (Post.thn s h fun ds m1 _ vs H1 s1 r h1 => ?_)
  match ds, r, h1 with
  | [d, e], r, h1 =>
    obtain ⟨v, v', rfl, r1, r2⟩ := ra2' r
    simp only at h1
    split at h1
    · rename_i hl
      refine ⟨v, v', rfl, h1 w _ H1 (s1.stored (w1 := w) ((s1.en.set hl.1 r1).set (by rw [List.length_set]; exact hl.2) r2) fun i k h => ow_set (ow_set h)) extN_refl⟩
    · exact h1.elim
  | [], _, h1 => exact h1.elim
  | [_], _, h1 => exact h1.elim
  | _ :: _ :: _ :: _, _, h1 => exact h1.elim
end
end DS

set_option maxRecDepth 100000
set_option maxHeartbeats 2000000
namespace DS
open PySem PySem.Spec PyProof.Rows L2 LamX NdefX

/-! ### what is walked -/
def IsIt (K : PySem.W.Frag) (w : Vw) (ds : List D) (Jt : It) (H1 : Hp) : Prop := ∀ w' H', ExtN (msk w H1) (msk w' H') → (∀ b, Hid w' b → H' b ≠ none) → ∀ i, (i < ds.length → Jt.go i H') ∧ (i = ds.length → Jt.stop i H') ∧
  ∀ x H2, i < ds.length → Jt.yld i H' x H2 → (∀ b o, H' b = some o → H2 b = some o) ∧ ∃ d, ds[i]? = some d ∧ Rp K (msk w' H2) x d
abbrev DI := List Slot → Ms → Res (List D)
def SI (j : J) (tg iter : Expr) (g : DI) : Prop := ∃ wi, PI j.X tg iter wi ∧ ∀ w ρ m σ H R, En j w ρ m σ H → Post j w σ H (fun ds Jt H1 => IsIt j.X.K w ds Jt H1) R (g ρ m) → wi σ H R
section
variable {j : J} {tg iter l a b : Expr} {gl ga gb : DE} {pos : Pos}
def iAny (K : PySem.W.Frag) (tl : TE) : TI := fun σ H R => tl σ H fun x H1 => (∃ a, x = .ref a ∧ (∃ xs, SqL K H1 a xs) ∧ R (Itl K a) H1) ∨ (∃ a, x = .ref a ∧ (∃ xs, SqT K H1 a xs) ∧ R (Itt K a) H1) ∨ ∃ z, x = .str z ∧ R (Its z) H1
theorem pi_any {X : Cx} {l : Expr} {tl : TE} (hl : PE X l tl) : PI X tg l (iAny X.K tl) := by
  refine ⟨fun pins s σ H R I h => ?_⟩
  refine thn (hl.run pins s σ H _ I h) fun v s1 ⟨x, H1, I1, r1, q1⟩ => ?_
  rcases q1 with ⟨a, e, ⟨xs, hq⟩, q⟩ | ⟨a, e, ⟨xs, hq⟩, q⟩ | ⟨x, ex, q⟩
  · subst e
    cases r1
    obtain ⟨its, rv, p, hz⟩ := I1.list hq
    refine wpAny_pyIter_list p.isList ?_
    refine ⟨s1.heap.objs.size, [s1.heap.objs.size], _, _, H1, rfl, I1.kept (t' := s1.toks) fun b o e => Heap.get?_push_of_some _ e, turn_list a _, ⟨_, Heap.get?_push_size _ rfl, rfl, rfl⟩, fun b hb => ?_, q⟩
    have e : b = s1.heap.objs.size := by simpa using hb
    subst e
    exact I1.fpOk (Nat.le_refl _) (I1.hok.fresh (Nat.le_refl _))
  · subst e
    cases r1
    obtain ⟨its, rv, p, hz⟩ := I1.tuple hq
    refine wpAny_pyIter_tuple (show s1.heap.IsTuple a its.toArray from p) ?_
    refine ⟨s1.heap.objs.size, [s1.heap.objs.size], _, _, H1, rfl, I1.kept (t' := s1.toks) fun b o e => Heap.get?_push_of_some _ e, turn_tuple a _, ⟨_, Heap.get?_push_size _ rfl, rfl, rfl⟩, fun b hb => ?_, q⟩
    have e : b = s1.heap.objs.size := by simpa using hb
    subst e
    exact I1.fpOk (Nat.le_refl _) (I1.hok.fresh (Nat.le_refl _))
  · subst ex
    obtain ⟨t, rfl⟩ := r1
    cases ha : x.cps.all (· < 128)
    · exact wpAny_pyIter_wide ha (pi_one (tk := s1.toks) I1 _ (turn_str _ x t "str_iterator" (.inr rfl)) ⟨_, Heap.get?_push_size _ rfl, rfl, rfl⟩ q)
    · exact wpAny_pyIter_ascii ha (pi_one (tk := s1.toks) I1 _ (turn_str _ x t "str_ascii_iterator" (.inl rfl)) ⟨_, Heap.get?_push_size _ rfl, rfl, rfl⟩ q)
def signs (z : Str) : List D := z.cps.toList.map fun c => .str ⟨#[c]⟩
def itemsOf : D → Option (List D)
  | .list ds => some ds
  | .tuple ds => some ds
  | .str z => some (signs z)
  | _ => none
def iSeq (a : DE) : DI := fun ρ m => (a ρ m).bind fun d m => lift (itemsOf d) m
theorem isit_list {K : PySem.W.Frag} {w : Vw} {ds : List D} {vs : List V} {a : Addr} {H1 : Hp} (h : SqL K (msk w H1) a vs) (r : RpAll K (msk w H1) vs ds) : IsIt K w ds (Itl K a) H1 := by
  intro w' H' e _ i
  have hl := dpa_len r
  have h' : SqL K H' a vs := rd_unmsk (sql_ext e h)
  refine ⟨fun hi => walk_list.goes i H' (by omega) h', fun hi => by rw [hi, ← hl]; exact walk_list.stops H' h', fun x H2 hi y => ?_⟩
  obtain ⟨rfl, hx⟩ := walk_list.yields i H' x H2 (by omega) h' y
  obtain ⟨d, hd, hr⟩ := dpa_get' (dpa_ext e _ _ r) hx
  exact ⟨fun _ _ z => z, d, hd, hr⟩
theorem isit_tup {K : PySem.W.Frag} {w : Vw} {ds : List D} {vs : List V} {a : Addr} {H1 : Hp} (h : SqT K (msk w H1) a vs) (r : RpAll K (msk w H1) vs ds) : IsIt K w ds (Itt K a) H1 := by
  intro w' H' e _ i
  have hl := dpa_len r
  have h' : SqT K H' a vs := sqt_unmsk (sqt_ext e h)
  refine ⟨fun hi => walk_tup.goes i H' (by omega) h', fun hi => by rw [hi, ← hl]; exact walk_tup.stops H' h', fun x H2 hi y => ?_⟩
  obtain ⟨rfl, hx⟩ := walk_tup.yields i H' x H2 (by omega) h' y
  obtain ⟨d, hd, hr⟩ := dpa_get' (dpa_ext e _ _ r) hx
  exact ⟨fun _ _ z => z, d, hd, hr⟩
theorem isit_str {K : PySem.W.Frag} {w : Vw} {z : Str} {H1 : Hp} : IsIt K w (signs z) (Its z) H1 := by
  intro w' H' e _ i
  have hl : (signs z).length = z.cps.size := by simp [signs]
  rw [hl]
  refine ⟨fun hi => hi, fun hi => by rw [hi]; exact Nat.le_refl _, fun x H2 hi y => ?_⟩
  obtain ⟨rfl, c, hc, rfl⟩ := y
  refine ⟨fun _ _ z => z, .str ⟨#[c]⟩, ?_, .str _⟩
  simp [signs, hc]
theorem SI.seq (ha : SE j l gl) : SI j tg l (iSeq gl) := by
  obtain ⟨t1, p1, k1⟩ := ha
  refine ⟨_, pi_any p1, fun w ρ m σ H R E h => ?_⟩
  refine k1 w ρ m σ H _ E (Post.bind h fun d m1 _ v H1 A1 r1 h1 => ?_)
  obtain ⟨ds, hz, hq⟩ := post_lift h1
  cases d <;> simp only [itemsOf, reduceCtorEq] at hz
  · cases hz; cases r1
    exact .inr (.inr ⟨_, rfl, hq _ H1 ⟨.refl _ _, A1.tabs, A1.obs⟩ isit_str⟩)
  · cases hz
    cases r1 with
    | lst q1 q2 => exact .inl ⟨_, rfl, ⟨_, rd_unmsk q1⟩, hq _ H1 ⟨.refl _ _, A1.tabs, A1.obs⟩ (isit_list q1 q2)⟩
  · cases hz
    cases r1 with
    | tup q1 q2 => exact .inr (.inl ⟨_, rfl, ⟨_, sqt_unmsk q1⟩, hq _ H1 ⟨.refl _ _, A1.tabs, A1.obs⟩ (isit_tup q1 q2)⟩)
/-! ranges -/
def rng (lo hi : Int) : List D := (List.range (hi - lo).toNat).map fun i => .int (lo + (i : Nat))
theorem isit_rng {K : PySem.W.Frag} {w : Vw} {lo : Int} {n : Nat} {H1 : Hp} : IsIt K w ((List.range n).map fun i => .int (lo + (i : Nat))) (Itr lo n) H1 := by
  intro w' H' e _ i
  have hl : ((List.range n).map fun i => (PyData.int (lo + (i : Nat)) : D)).length = n := by simp
  rw [hl]
  refine ⟨fun hi => hi, fun hi => by rw [hi]; exact Nat.le_refl _, fun x H2 hi y => ?_⟩
  obtain ⟨rfl, rfl⟩ := y
  refine ⟨fun _ _ z => z, .int (lo + (i : Nat)), ?_, .int _⟩
  simp [hi]
def bound62 (i : Int) : Bool := decide (i.natAbs < 2 ^ 62)
def dRng1 : D → Option (List D)
  | .int j => if bound62 j then some (rng 0 j) else none
  | _ => none
def dRng2 : D → D → Option (List D)
  | .int i, .int j => if bound62 i && bound62 j then some (rng i j) else none
  | _, _ => none
def iRng1 (a : DE) : DI := fun ρ m => (a ρ m).bind fun x m => lift (dRng1 x) m
def iRng2 (a b : DE) : DI := fun ρ m => (a ρ m).bind fun x m => (b ρ m).bind fun y m => lift (dRng2 x y) m
theorem bound62_of {i : Int} (h : bound62 i = true) : -(2 ^ 62) ≤ i ∧ i < 2 ^ 62 := by
  unfold bound62 at h
  simp only [decide_eq_true_eq] at h
  omega
theorem bound62_iff (i : Int) : bound62 i = true ↔ i.natAbs < 2 ^ 62 := by unfold bound62; simp only [decide_eq_true_eq]
theorem SI.range1 {p : Pos} (hg : Gl j.X "range") (hm : j.X.mg "range" = none) (ha : SE j a ga) (hs : starEach [a] j.X.env = (false, eval a j.X.env) :: starEach [] j.X.env := by rfl) : SI j tg (.Call (.Name "range" p) [a] [] pos) (iRng1 ga) := by
  obtain ⟨t1, p1, k1⟩ := ha
  refine ⟨_, pi_range1 hg hm (pa_cons p1 pa_nil hs) hs, fun w ρ m σ H R E h => ?_⟩
  refine k1 w ρ m σ H _ E (Post.bind h fun d m1 _ v H1 A1 r1 h1 => ?_)
  obtain ⟨xs, hz, hq⟩ := post_lift h1
  cases d <;> simp only [dRng1, reduceCtorEq] at hz
  split at hz
  · rename_i hb
    cases hz; cases r1
    obtain ⟨b1, b2⟩ := bound62_of hb
    refine ⟨_, rfl, b1, b2, hq _ H1 ⟨.refl _ _, A1.tabs, A1.obs⟩ ?_⟩
    unfold rng
    rw [Int.sub_zero]
    exact isit_rng
  · cases hz
theorem SI.range2 {p : Pos} (hg : Gl j.X "range") (hm : j.X.mg "range" = none) (ha : SE j a ga) (hb : SE j b gb) (hs : starEach [a, b] j.X.env = (false, eval a j.X.env) :: starEach [b] j.X.env := by rfl) (hs2 : starEach [b] j.X.env = (false, eval b j.X.env) :: starEach [] j.X.env := by rfl) :
    SI j tg (.Call (.Name "range" p) [a, b] [] pos) (iRng2 ga gb) := by
  obtain ⟨t1, p1, k1⟩ := ha
  obtain ⟨t2, p2, k2⟩ := hb
  refine ⟨_, pi_range2 hg hm (pa_cons p1 (pa_cons p2 pa_nil hs2) hs) (by rw [hs, hs2]; rfl) hs2, fun w ρ m σ H R E h => ?_⟩
  refine k1 w ρ m σ H _ E (Post.bind h fun d m1 _ v H1 A1 r1 h1 => ?_)
  refine k2 w ρ m1 σ H1 _ (E.step A1) (Post.bind h1 fun d' m2 _ v' H2 A2 r2 h2 => ?_)
  obtain ⟨xs, hz, hq⟩ := post_lift h2
  replace r1 := dp_grow A2.grow r1
  cases d <;> cases d' <;> simp only [dRng2, reduceCtorEq] at hz
  split at hz
  · rename_i hb
    simp only [Bool.and_eq_true] at hb
    cases hz; cases r1; cases r2
    obtain ⟨b1, b2⟩ := bound62_of hb.1
    obtain ⟨b3, b4⟩ := bound62_of hb.2
    exact ⟨_, _, rfl, ⟨b1, b2, b3, b4⟩, hq _ H2 ⟨.refl _ _, A2.tabs, A2.obs⟩ isit_rng⟩
  · cases hz
end

/-! ### for -/
def forF (g : DG) (body : DS) : List D → List Slot → Ms → SR
  | [], ρ, m => .next ρ m
  | d :: ds, ρ, m => match g d ρ with
    | none => .bad
    | some ρ' => match body ρ' m with
      | .next ρ2 m2 => forF g body ds ρ2 m2
      | .cont ρ2 m2 => forF g body ds ρ2 m2
      | .brk ρ2 m2 => .next ρ2 m2
      | r => r
def sFor (gi : DI) (g : DG) (body : DS) : DS := fun ρ m => (gi ρ m).thn fun ds m => forF g body ds ρ m
def whileF (t : DT) (body : DS) : Nat → List Slot → Ms → SR
  | 0, _, _ => .bad
  | n + 1, ρ, m => (t ρ m).thn fun c m => if c = true then match body ρ m with
      | .next ρ2 m2 => whileF t body n ρ2 m2
      | .cont ρ2 m2 => whileF t body n ρ2 m2
      | .brk ρ2 m2 => .next ρ2 m2
      | r => r
    else .next ρ m
section
variable {j : J} {k : Nat} {tg iter c : Expr} {body : List Stmt} {gi : DI} {g : DG} {gb : DS} {gt : DT} {is : List Nat} {pos : Pos}
theorem SS.for (o : JOk j k) (hi : SI j tg iter gi) (hg : SG j tg is g) (hb : SSs j body gb) (hs : ∀ x, foldedSetIterable iter j.X.env x = pure x := by intro _; rfl) : SS j (.For tg iter body [] pos) (sFor gi g gb) := by
  obtain ⟨wi, pI, kI⟩ := hi
  obtain ⟨tG, pG, kG⟩ := hg
  obtain ⟨tB, pB, kB⟩ := hb
  refine ⟨_, ps_for o.po o.calm pI pG pB hs, fun w0 H0 w ρ m σ H E s h => ?_⟩
  refine kI w ρ m σ H _ s.en (Post.thn s h fun ds m1 _ Jt H1 s1 it h1 => ?_)
  refine ⟨fun i n σ' H' => i ≤ ds.length ∧ n = ds.length - i ∧ ∃ w' ρ' m', StE j w0 H0 w' ρ' m' σ' H' ∧ ExtN (msk w H1) (msk w' H') ∧ PostS j w0 H0 w' H' E (forF g gb (ds.drop i) ρ' m'), ⟨ds.length, Nat.zero_le _, rfl, w, ρ, m1, s1, extN_refl, h1⟩, ?_⟩
  rintro i n σ' H' ⟨hi, rfl, w', ρ', m', s', e', h'⟩
  obtain ⟨hgo, hst, hyl⟩ := it w' H' e' (fun b hb => hid_tracked s'.en.obs hb) i
  by_cases hlt : i < ds.length
  · refine .inr ⟨hgo hlt, fun σ2 H2 => ∃ w2 ρ2 m2, StE j w0 H0 w2 ρ2 m2 σ2 H2 ∧ ExtN (msk w H1) (msk w2 H2) ∧ PostS j w0 H0 w2 H2 E (forF g gb (ds.drop (i + 1)) ρ2 m2), ?_, ?_⟩
    · rintro σ2 H2 ⟨w2, ρ2, m2, s2, e2, h2⟩
      exact ⟨ds.length - (i + 1), by omega, hlt, rfl, w2, ρ2, m2, s2, e2, h2⟩
    · intro x H2 y
      obtain ⟨hx, d, hd, rd⟩ := hyl x H2 hlt y
      have A : Aft j w' m' H' H2 := ex_aft s'.en.tabs s'.en.obs hx
      have s2 := s'.aft A
      have h2 := PostS.at h' A.grow.ext
      have hcons : ds.drop i = d :: ds.drop (i + 1) := by
        rw [List.drop_eq_getElem_cons hlt]
        obtain ⟨q1, q2⟩ := List.getElem?_eq_some_iff.mp hd
        rw [q2]
      rw [hcons] at h2
      simp only [forF] at h2
      cases hg : g d ρ' with
      | none => rw [hg] at h2; exact h2.elim
      | some ρ2 =>
        rw [hg] at h2
        refine kG w' ρ' m' σ' H2 d x ρ2 _ s2.en rd hg fun σ3 E3 _ ho => ?_
        have s3 := s2.stored (w1 := w') E3 ho
        refine kB w0 H0 w' ρ2 m' σ3 H2 _ s3 ?_
        simp only at h2
        cases hbd : gb ρ2 m' with
        | bad => rw [hbd] at h2; exact h2
        | next ρ4 m4 =>
          rw [hbd] at h2
          exact fun w4 σ4 H4 s4 e4 => ⟨w4, ρ4, m4, s4, (e'.trans A.grow.ext).trans e4, PostS.at h2 e4⟩
        | cont ρ4 m4 =>
          rw [hbd] at h2
          exact fun w4 σ4 H4 s4 e4 => ⟨w4, ρ4, m4, s4, (e'.trans A.grow.ext).trans e4, PostS.at h2 e4⟩
        | brk ρ4 m4 => rw [hbd] at h2; exact h2
        | ret d4 m4 => rw [hbd] at h2; exact h2
        | exc x4 m4 => rw [hbd] at h2; exact h2
  · have hie : i = ds.length := by omega
    subst hie
    rw [List.drop_length] at h'
    exact .inl ⟨hst rfl, h' w' σ' H' s' extN_refl⟩
def sWhile (n : Nat) (t : DT) (body : DS) : DS := whileF t body n
theorem SS.while (o : JOk j k) (n : Nat) (hc : ST j c gt) (hb : SSs j body gb) : SS j (.While c body [] pos) (sWhile n gt gb) := by
  obtain ⟨tC, pC, kC⟩ := hc
  obtain ⟨tB, pB, kB⟩ := hb
  refine ⟨_, ps_while o.po pC pB, fun w0 H0 w ρ m σ H E s h => ?_⟩
  refine ⟨fun n σ' H' => ∃ w' ρ' m', StE j w0 H0 w' ρ' m' σ' H' ∧ PostS j w0 H0 w' H' E (whileF gt gb n ρ' m'), ⟨n, w, ρ, m, s, h⟩, ?_⟩
  rintro n σ' H' ⟨w', ρ', m', s', h'⟩
  cases n with
  | zero => exact h'.elim
  | succ n =>
    simp only [whileF] at h'
    refine kC w' ρ' m' σ' H' _ s'.en (Post.thn s' h' fun c m1 _ v H1 s1 r h1 => ?_)
    cases r
    cases c with
    | false => exact iteF (h1 w' σ' H1 s1 extN_refl)
    | true =>
      refine iteT ⟨fun σ2 H2 => ∃ w2 ρ2 m2, StE j w0 H0 w2 ρ2 m2 σ2 H2 ∧ PostS j w0 H0 w2 H2 E (whileF gt gb n ρ2 m2), fun σ2 H2 q => ⟨n, Nat.lt_succ_self _, q⟩, ?_⟩
      refine kB w0 H0 w' ρ' m1 σ' H1 _ s1 ?_
      rw [if_pos rfl] at h1
      cases hbd : gb ρ' m1 with
      | bad => rw [hbd] at h1; exact h1
      | next ρ4 m4 =>
        rw [hbd] at h1
        exact fun w4 σ4 H4 s4 e4 => ⟨w4, ρ4, m4, s4, PostS.at h1 e4⟩
      | cont ρ4 m4 =>
        rw [hbd] at h1
        exact fun w4 σ4 H4 s4 e4 => ⟨w4, ρ4, m4, s4, PostS.at h1 e4⟩
      | brk ρ4 m4 => rw [hbd] at h1; exact h1
      | ret d4 m4 => rw [hbd] at h1; exact h1
      | exc x4 m4 => rw [hbd] at h1; exact h1
end
end DS

set_option maxRecDepth 100000
set_option maxHeartbeats 2000000
namespace DS
open PySem PySem.Spec PyProof.Rows L2 LamX NdefX

/-! ### comprehensions -/
abbrev J.blk (j : J) (s : Shared) (H : Hp) (scope : Scope) (C : Addr) (cl : List (Str × Addr)) (fp : List Addr) : J := { j with X := j.X.blk s H scope (compEnvC scope cl C j.X.env) fp, W := fun _ _ _ _ => False }
theorem JOk.blk {j : J} {k : Nat} (o : JOk j k) (s : Shared) (H : Hp) (scope : Scope) (C : Addr) (cl : List (Str × Addr)) (fp : List Addr) : JOk (j.blk s H scope C cl fp) k :=
  ⟨⟨o.hr.hd, o.hr.dp, o.hr.un⟩, o.nd, o.calm, L2.takes0, PassesOwn.never, o.gd⟩
def Res.noX {α : Type} : Res α → Res α
  | .exc _ _ => .bad
  | r => r
@[simp] theorem Res.noX_ok {α : Type} (a : α) (m : Ms) : (Res.ok a m).noX = .ok a m := rfl
@[simp] theorem Res.noX_bad {α : Type} : (Res.bad : Res α).noX = .bad := rfl
def wipeS (ρ : List Slot) : List Nat → List Slot
  | [] => ρ
  | v :: vs => (wipeS ρ vs).set v .un
def lcF (g : DG) (t : DT) (e : DE) : List D → List Slot → Ms → Res (List D)
  | [], _, m => .ok [] m
  | d :: ds, ρ, m => match g d ρ with
    | none => .bad
    | some ρ' => (t ρ' m).noX.bind fun c m1 => if c = true then (e ρ' m1).noX.bind fun x m2 => (lcF g t e ds ρ m2).bind fun xs m3 => .ok (x :: xs) m3 else lcF g t e ds ρ m1
def eLc (gi : DI) (g : DG) (t : DT) (e : DE) (vs : List Nat) : DE := fun ρ m => (gi ρ m).bind fun ds m => if ds.length ≤ lineN then (lcF g t e ds (wipeS ρ vs) m).bind fun xs m => .ok (.list xs) m else .bad
def tTrue : DT := fun _ m => .ok true m
def STs (j : J) (ifs : List Expr) (g : DT) : Prop := ∃ t, PTs j.X ifs t ∧ ∀ w ρ m σ H Q, En j w ρ m σ H → Post j w σ H RB Q (g ρ m) → t σ H Q
section
variable {j : J} {k : Nat} {tg iter elt c : Expr} {ifs : List Expr} {gi : DI} {g : DG} {ge : DE} {gt : DT} {is : List Nat} {pos : Pos} {scope : Scope} {own : List (Str × Nat)}
theorem STs.nil : STs j [] tTrue := ⟨_, pts_nil, fun w ρ m σ H Q E h => h true H E.aft rfl⟩
theorem STs.one (h : ST j c gt) : STs j [c] gt := let ⟨t, p, k⟩ := h; ⟨t, pts_one p, k⟩
theorem wipeS_get (ρ : List Slot) : ∀ (vs : List Nat) (i : Nat) (x : Slot), (wipeS ρ vs)[i]? = some x → (ρ[i]? = some x ∧ i ∉ vs) ∨ x = .un
  | [], i, x, h => .inl ⟨h, by simp⟩
  | v :: vs, i, x, h => by
    have h' : ((wipeS ρ vs).set v Slot.un)[i]? = some x := h
    rw [List.getElem?_set] at h'
    by_cases e : v = i
    · rw [if_pos e] at h'
      split at h'
      · exact .inr (Option.some.inj h').symm
      · cases h'
    · rw [if_neg e] at h'
      rcases wipeS_get ρ vs i x h' with ⟨h1, h2⟩ | h1
      · exact .inl ⟨h1, by simp [Ne.symm e, h2]⟩
      · exact .inr h1
theorem wipeS_length (ρ : List Slot) : ∀ vs : List Nat, (wipeS ρ vs).length = ρ.length
  | [] => rfl
  | v :: vs => by unfold wipeS; rw [List.length_set, wipeS_length ρ vs]
theorem En.wipe {w : Vw} {ρ : List Slot} {m : Ms} {σ : L2.St} {H : Hp} (E : En j w ρ m σ H) (vs : List Nat) : En j w (wipeS ρ vs) m (L2.wipe σ vs) H := by
  refine ⟨E.tabs, E.obs, by rw [wipeS_length, wipe_length]; exact E.len, fun i x h => ?_, E.bs⟩
  rcases wipeS_get ρ vs i x h with ⟨h1, h2⟩ | rfl
  · rw [wipe_get, if_neg h2]
    exact E.sl i x h1
  · trivial
/-- more is hidden: the new list at D -/
theorem obs_hide {K : PySem.W.Frag} {w : Vw} {m : Ms} {H : Hp} {D : Addr} {vs : List V} (O : Obs K w m H) (hD : H D = none) : Obs K ⟨w.as, D :: w.ex⟩ m (upd H D (.lst vs)) := by
  have ext : ExtN (msk w H) (msk ⟨w.as, D :: w.ex⟩ (upd H D (.lst vs))) := fun b o h n => by
    obtain ⟨h1, h2⟩ := of_msk h
    have hb : b ≠ D := ne_of_none h1 hD
    refine msk_of (by rw [upd_ne hb]; exact h1) fun z => ?_
    rcases z with z | z
    · exact h2 (.inl z)
    · rcases List.mem_cons.mp z with z | z
      · exact hb z
      · exact h2 (.inr z)
  refine ⟨O.len, fun k a h => ?_, O.dead, O.inj, fun b hb => ?_⟩
  · obtain ⟨ds, us, h1, h2, h3⟩ := O.at_ k a h
    exact ⟨ds, us, h1, by rw [upd_ne (ne_of_none h2 hD)]; exact h2, dpa_ext ext _ _ h3⟩
  · rcases List.mem_cons.mp hb with e | hb
    · rw [e]
      refine ⟨⟨_, upd_same, fun ps z => by cases z⟩, fun z => ?_⟩
      obtain ⟨k, hk⟩ := List.getElem?_of_mem z
      obtain ⟨ds, us, _, h2, _⟩ := O.at_ k D hk
      rw [hD] at h2; cases h2
    · obtain ⟨⟨o, h1, h2⟩, h3⟩ := O.exs b hb
      exact ⟨⟨o, by rw [upd_ne (ne_of_none h1 hD)]; exact h1, h2⟩, h3⟩
theorem hide_ext {w : Vw} {H : Hp} {D : Addr} {o : HO} (hD : H D = none) : ExtN (msk w H) (msk ⟨w.as, D :: w.ex⟩ (upd H D o)) := fun b u h n => by
  obtain ⟨h1, h2⟩ := of_msk h
  have hb : b ≠ D := ne_of_none h1 hD
  refine msk_of (by rw [upd_ne hb]; exact h1) fun z => ?_
  rcases z with z | z
  · exact h2 (.inl z)
  · rcases List.mem_cons.mp z with z | z
    · exact hb z
    · exact h2 (.inr z)
theorem tabs_new {T : Tk} {H : Hp} {D : Addr} {o : HO} (t : Tb T H) (hD : H D = none) : Tb T (upd H D o) := t.ext (same_new hD)
/-- the hidden list is written -/
theorem tabs_lst {T : Tk} {H : Hp} {D : Addr} {xs ys : List V} (t : Tb T H) (hD : H D = some (.lst xs)) : Tb T (upd H D (.lst ys)) := ⟨fun p hp => by
  obtain ⟨ps, h1, h2, h3⟩ := t.tabs p hp
  refine ⟨ps, by rw [upd_ne (ne_of h1 hD (by intro z; cases z))]; exact h1, h2, fun pos cv hc => ?_⟩
  obtain ⟨c, e1, e2⟩ := h3 pos cv hc
  exact ⟨c, e1, by rw [upd_ne (ne_of e2 hD (by intro z; unfold CodeO at z; cases z))]; exact e2⟩, fun p hp => by
  obtain ⟨h1, φ, h2⟩ := t.fx p hp
  exact ⟨by rw [upd_ne (ne_of h1 hD (by intro z; rw [h2] at z; cases z))]; exact h1, φ, h2⟩⟩
theorem hid_write_ext {w : Vw} {H : Hp} {D : Addr} {o : HO} (h : Hid w D) : ExtN (msk w H) (msk w (upd H D o)) := fun b u e n => by
  obtain ⟨h1, h2⟩ := of_msk e
  have hb : b ≠ D := fun z => h2 (z ▸ h)
  exact msk_of (by rw [upd_ne hb]; exact h1) h2
theorem obs_write {K : PySem.W.Frag} {w : Vw} {m : Ms} {H : Hp} {D : Addr} {vs : List V} (O : Obs K w m H) (hD : D ∈ w.ex) : Obs K w m (upd H D (.lst vs)) := by
  have hne : ∀ b, some b ∈ w.as → b ≠ D := fun b hb z => (O.exs D hD).2 (z ▸ hb)
  refine ⟨O.len, fun k a h => ?_, O.dead, O.inj, fun b hb => ?_⟩
  · obtain ⟨ds, us, h1, h2, h3⟩ := O.at_ k a h
    exact ⟨ds, us, h1, by rw [upd_ne (hne a (List.mem_of_getElem? h))]; exact h2, dpa_ext (hid_write_ext (.inr hD)) _ _ h3⟩
  · obtain ⟨⟨o, h1, h2⟩, h3⟩ := O.exs b hb
    by_cases e : b = D
    · rw [e]; exact ⟨⟨_, upd_same, fun ps z => by cases z⟩, (O.exs D hD).2⟩
    · exact ⟨⟨o, by rw [upd_ne e]; exact h1, h2⟩, h3⟩
theorem obs_show {K : PySem.W.Frag} {w : Vw} {m : Ms} {H : Hp} {D : Addr} (O : Obs K ⟨w.as, D :: w.ex⟩ m H) : Obs K w m H ∧ ExtN (msk ⟨w.as, D :: w.ex⟩ H) (msk w H) := by
  have ext : ExtN (msk ⟨w.as, D :: w.ex⟩ H) (msk w H) := fun b o h n => by
    obtain ⟨h1, h2⟩ := of_msk h
    exact msk_of h1 fun z => h2 (z.elim .inl fun z => .inr (List.mem_cons_of_mem _ z))
  refine ⟨⟨O.len, fun k a h => ?_, O.dead, O.inj, fun b hb => O.exs b (List.mem_cons_of_mem _ hb)⟩, ext⟩
  obtain ⟨ds, us, h1, h2, h3⟩ := O.at_ k a h
  exact ⟨ds, us, h1, h2, dpa_ext ext _ _ h3⟩
theorem Post.el {α β γ δ : Type} {j' : J} {w w' : Vw} {σ σ' : L2.St} {H1 H2 : Hp} {R' : γ → δ → Hp → Prop} {Q : δ → Hp → Prop} {R : α → β → Hp → Prop} {Q1 : β → Hp → Prop} {r : Res α} {f : α → Ms → Res γ}
    (h : Post j w σ H1 R' Q (r.noX.bind f)) (kk : ∀ d m1, r = .ok d m1 → ∀ v H', Aft j' w' m1 H2 H' → R d v H' → Post j w σ H1 R' Q (f d m1) → Q1 v H') : Post j' w' σ' H2 R Q1 r := by
  cases r with
  | bad => exact h
  | ok d m1 => exact fun v H' a r => kk d m1 rfl v H' a r h
  | exc x m1 => exact False.elim h
theorem wipe_wipe (σ : L2.St) (vs : List Nat) : L2.wipe (L2.wipe σ vs) vs = L2.wipe σ vs := by
  apply List.ext_getElem?
  intro k
  rw [wipe_get, wipe_get]
  split
  · cases σ[k]? <;> rfl
  · rfl
theorem En.to {j j' : J} {w : Vw} {ρ : List Slot} {m : Ms} {σ : L2.St} {H : Hp} (E : En j w ρ m σ H) (h1 : j'.T = j.T) (h2 : j'.X.K = j.X.K) (h3 : j'.fs = j.fs) (h4 : j'.bs = j.bs) : En j' w ρ m σ H :=
  ⟨by rw [h1]; exact E.tabs, by rw [h2]; exact E.obs, E.len, by rw [h2, h3]; exact E.sl, by rw [h4]; exact E.bs⟩
/-- what a comprehension's turns ask -/
theorem lc_turns (hg : ∀ (s : Shared) (H : Hp) (C : Addr) (cl : List (Str × Addr)) (fp : List Addr), SG (j.blk s H scope C cl fp) tg is g) (ht : ∀ (s : Shared) (H : Hp) (C : Addr) (cl : List (Str × Addr)) (fp : List Addr), STs (j.blk s H scope C cl fp) ifs gt)
    (he : ∀ (s : Shared) (H : Hp) (C : Addr) (cl : List (Str × Addr)) (fp : List Addr), SE (j.blk s H scope C cl fp) elt ge) (his : ∀ i ∈ is, i ∈ own.map (·.2)) :
    ∃ (tg' : TG) (tt : TT) (te : TE), (∀ (s : Shared) (H : Hp) (C : Addr) (cl : List (Str × Addr)) (fp : List Addr), PG (j.X.blk s H scope (compEnvC scope cl C j.X.env) fp) tg tg') ∧
      (∀ (s : Shared) (H : Hp) (C : Addr) (cl : List (Str × Addr)) (fp : List Addr), PTs (j.X.blk s H scope (compEnvC scope cl C j.X.env) fp) ifs tt) ∧
      (∀ (s : Shared) (H : Hp) (C : Addr) (cl : List (Str × Addr)) (fp : List Addr), PE (j.X.blk s H scope (compEnvC scope cl C j.X.env) fp) elt te) ∧
      ∀ (w : Vw) (ρ : List Slot) (m : Ms) (σ : L2.St) (H1 : Hp) (ds : List D) (Jt : It) (Q : VK), En j w ρ m σ H1 → IsIt j.X.K w ds Jt H1 → Post j w σ H1 (RD j w) Q (if ds.length ≤ lineN then (lcF g gt ge ds (wipeS ρ (own.map (·.2))) m).bind fun xs m => .ok (.list xs) m else .bad) →
        ∀ L, H1 L = none → ∃ W : Nat → Nat → Hp → Prop, (∃ m, W 0 m (upd H1 L (.lst []))) ∧ ∀ i m H, W i m H →
          (Jt.stop i H ∧ Q (.ref L) H) ∨ (Jt.go i H ∧ ∃ Nx : Hp → Prop, (∀ H', Nx H' → ∃ m', m' < m ∧ W (i + 1) m' H') ∧ ∀ x H', Jt.yld i H x H' → tg' x (L2.wipe σ (own.map (·.2))) H' fun σ2 H2 => L2.wipe σ2 (own.map (·.2)) = L2.wipe σ (own.map (·.2)) ∧ tt σ2 H2 fun b H3 =>
            if b = true then te σ2 H3 fun y H4 => ∃ acc, H4 L = some (.lst acc) ∧ acc.length < sizeLine ∧ Nx (upd H4 L (.lst (acc ++ [y]))) else Nx H3) := by
  let P := Shared × Hp × Addr × List (Str × Addr) × List Addr
  have hg' : ∀ p : P, SG (j.blk p.1 p.2.1 scope p.2.2.1 p.2.2.2.1 p.2.2.2.2) tg is g := fun p => hg _ _ _ _ _
  have ht' : ∀ p : P, STs (j.blk p.1 p.2.1 scope p.2.2.1 p.2.2.2.1 p.2.2.2.2) ifs gt := fun p => ht _ _ _ _ _
  have he' : ∀ p : P, SE (j.blk p.1 p.2.1 scope p.2.2.1 p.2.2.2.1 p.2.2.2.2) elt ge := fun p => he _ _ _ _ _
  obtain ⟨fg, fg'⟩ := Classical.axiomOfChoice hg'
  obtain ⟨ft, ft'⟩ := Classical.axiomOfChoice ht'
  obtain ⟨fe, fe'⟩ := Classical.axiomOfChoice he'
  refine ⟨fun v σ H Q => ∀ p, fg p v σ H Q, fun σ H Q => ∀ p, ft p σ H Q, fun σ H Q => ∀ p, fe p σ H Q, fun s H C cl fp => ⟨fun pins s1 σ H v u Q I r h => (fg' (s, _, C, cl, fp)).1.run pins s1 σ H v u Q I r (h _)⟩,
    fun s H C cl fp => ⟨fun pins s1 σ H Q I h => (ft' (s, _, C, cl, fp)).1.run pins s1 σ H Q I (h _)⟩, fun s H C cl fp => ⟨fun pins s1 σ H Q I h => (fe' (s, _, C, cl, fp)).1.run pins s1 σ H Q I (h _)⟩, ?_⟩
  intro w ρ m σ H1 ds Jt Q E it h L hL
  split at h
  case isFalse => exact h.elim
  rename_i hlen
  let w' : Vw := ⟨w.as, L :: w.ex⟩
  have e1 : ExtN (msk w H1) (msk w' (upd H1 L (.lst []))) := hide_ext hL
  let vs := own.map (·.2)
  have nas : some L ∉ w.as := fun z => not_hid E.obs hL (.inl z)
  have hlx : L ∈ w'.ex := List.mem_cons_self
  refine ⟨fun i n H => i ≤ ds.length ∧ n = ds.length - i ∧ ∃ (done : List D) (acc : List V) (m' : Ms), En j w' (wipeS ρ vs) m' (L2.wipe σ vs) H ∧ Grow w H1 H ∧ ExtN (msk w H1) (msk w' H) ∧ H L = some (.lst acc) ∧ RpAll j.X.K (msk w' H) acc done ∧ done.length ≤ i ∧
    Post j w σ H1 (RD j w) Q ((lcF g gt ge (ds.drop i) (wipeS ρ vs) m').bind fun xs m => .ok (.list (done ++ xs)) m), ⟨ds.length, Nat.zero_le _, rfl, [], [], m, ?_, ?_, e1, upd_same, .nil, Nat.le_refl _, ?_⟩, ?_⟩
  · refine ⟨tabs_new E.tabs hL, obs_hide E.obs hL, (E.wipe vs).len, fun i x hx => ((E.wipe vs).sl i x hx).ext e1 fun _ _ z => .inl z, fun q hq => (E.bs q hq).trans e1⟩
  · exact .of (same_new hL)
  · exact h
  rintro i n H ⟨hi, rfl, done, acc, m', E', g', e', hacc, racc, hdl, h'⟩
  obtain ⟨hgo, hst, hyl⟩ := it w' H e' (fun b hb => hid_tracked E'.obs hb) i
  by_cases hlt : i < ds.length
  · refine .inr ⟨hgo hlt, fun H => ∃ (done : List D) (acc : List V) (m' : Ms), En j w' (wipeS ρ vs) m' (L2.wipe σ vs) H ∧ Grow w H1 H ∧ ExtN (msk w H1) (msk w' H) ∧ H L = some (.lst acc) ∧ RpAll j.X.K (msk w' H) acc done ∧ done.length ≤ i + 1 ∧
      Post j w σ H1 (RD j w) Q ((lcF g gt ge (ds.drop (i + 1)) (wipeS ρ vs) m').bind fun xs m => .ok (.list (done ++ xs)) m), fun H' q => ⟨ds.length - (i + 1), by omega, hlt, rfl, q⟩, fun x H2 y p => ?_⟩
    obtain ⟨hx, d, hd, rd⟩ := hyl x H2 hlt y
    have A : Aft j w' m' H H2 := ex_aft E'.tabs E'.obs hx
    have hcons : ds.drop i = d :: ds.drop (i + 1) := by
      rw [List.drop_eq_getElem_cons hlt]
      obtain ⟨q1, q2⟩ := List.getElem?_eq_some_iff.mp hd
      rw [q2]
    rw [hcons] at h'
    simp only [lcF] at h'
    cases hgd : g d (wipeS ρ vs) with
    | none => rw [hgd] at h'; exact h'.elim
    | some ρ2 =>
      rw [hgd] at h'
      simp only at h'
      refine (fg' p).2 w' _ m' _ H2 d x ρ2 _ ((E'.step A).to rfl rfl rfl rfl) rd hgd fun σ3 E3 hw _ => ?_
      refine ⟨by have q := hw vs his; rw [q]; exact wipe_wipe _ _, fun p2 => ?_⟩
      have E3' : En j w' ρ2 m' σ3 H2 := E3.to rfl rfl rfl rfl
      have h2 : Post j w σ H1 (RD j w) Q ((gt ρ2 m').noX.bind fun c m1 => (if c = true then (ge ρ2 m1).noX.bind fun x m2 => (lcF g gt ge (ds.drop (i + 1)) (wipeS ρ vs) m2).bind fun xs m3 => .ok (x :: xs) m3 else lcF g gt ge (ds.drop (i + 1)) (wipeS ρ vs) m1).bind fun xs m => .ok (.list (done ++ xs)) m) := by
        have q := h'
        cases hq : (gt ρ2 m') with
        | bad => rw [hq] at q; exact q
        | exc _ _ => rw [hq] at q; exact q
        | ok c m1 => rw [hq] at q; exact q
      refine (ft' p2).2 w' ρ2 m' σ3 H2 _ (E3'.to rfl rfl rfl rfl) (Post.el h2 fun c m1 _ v H3 A3 r3 h3 => ?_)
      cases r3
      have A3 : Aft j w' m1 H2 H3 := ⟨A3.grow, A3.tabs, A3.obs⟩
      have l2 : H2 L = some (.lst acc) := hx _ _ hacc
      have l3 : H3 L = some (.lst acc) := A3.grow.keep _ _ l2 (fun ps z => by cases z) nas
      have A13 : Aft j w' m1 H H3 := A.trans A3
      have g13 : Grow w H1 H3 := g'.trans ⟨A13.grow.keep, A13.grow.there⟩
      cases c with
      | false =>
        refine iteF ⟨done, acc, m1, E'.step A13, g13, e'.trans A13.grow.ext, l3, dpa_ext A13.grow.ext _ _ racc, by omega, ?_⟩
        exact h3
      | true =>
        refine iteT fun p3 => ?_
        have h4 : Post j w σ H1 (RD j w) Q ((ge ρ2 m1).noX.bind fun x m2 => (lcF g gt ge (ds.drop (i + 1)) (wipeS ρ vs) m2).bind fun xs m3 => .ok (.list (done ++ x :: xs)) m3) := by
          have q := h3
          rw [if_pos rfl] at q
          cases hq : (ge ρ2 m1) with
          | bad => rw [hq] at q; exact q
          | exc _ _ => rw [hq] at q; exact q
          | ok x m2 =>
            rw [hq] at q
            simp only [Res.noX_ok, Res.bind_ok] at q ⊢
            cases hq2 : lcF g gt ge (ds.drop (i + 1)) (wipeS ρ vs) m2 with
            | bad => rw [hq2] at q; exact q
            | exc _ _ => rw [hq2] at q; exact q
            | ok xs m3 => rw [hq2] at q; exact q
        refine (fe' p3).2 w' ρ2 m1 σ3 H3 _ ((E3'.step A3).to rfl rfl rfl rfl) (Post.el h4 fun y m2 _ u H4 A4 r4 h5 => ?_)
        have A4 : Aft j w' m2 H3 H4 := ⟨A4.grow, A4.tabs, A4.obs⟩
        have l4 : H4 L = some (.lst acc) := A4.grow.keep _ _ l3 (fun ps z => by cases z) nas
        have A14 : Aft j w' m2 H H4 := A13.trans A4
        have rac4 := dpa_ext A14.grow.ext _ _ racc
        have wx : ExtN (msk w' H4) (msk w' (upd H4 L (.lst (acc ++ [u])))) := hid_write_ext (.inr hlx)
        refine ⟨acc, l4, lineN_lt (by rw [dpa_len rac4]; omega), done ++ [y], acc ++ [u], m2, ?_, ?_, (e'.trans A14.grow.ext).trans wx, upd_same, ?_, by rw [List.length_append]; simp; omega, ?_⟩
        · have E4 := E'.step A14
          exact ⟨tabs_lst E4.tabs l4, obs_write E4.obs hlx, E4.len, fun i x hx => (E4.sl i x hx).ext wx fun _ _ z => .inl z, fun q hq => (E4.bs q hq).trans wx⟩
        · refine ⟨fun b o hb hn hz => ?_, fun b hb => ?_⟩
          · have q := (g'.trans ⟨A14.grow.keep, A14.grow.there⟩).keep b o hb hn hz
            rw [upd_ne (ne_of_none hb hL)]; exact q
          · by_cases hbl : b = L
            · rw [hbl]; exact .of hL
            · refine g'.there b (A14.grow.there b fun o q => hb o ?_)
              rw [upd_ne hbl]; exact q
        · exact dpa_app (dpa_ext wx _ _ rac4) (.cons (dp_ext wx _ _ r4) .nil)
        · have q := h5
          cases hq2 : lcF g gt ge (ds.drop (i + 1)) (wipeS ρ vs) m2 with
          | bad => rw [hq2] at q; exact q
          | exc _ _ => rw [hq2] at q; exact q
          | ok xs m3 => rw [hq2] at q; simpa using q
  · have hie : i = ds.length := by omega
    subst hie
    rw [List.drop_length] at h'
    obtain ⟨o1, o2⟩ := obs_show E'.obs
    refine .inl ⟨hst rfl, ?_⟩
    have h3 : Post j w σ H1 (RD j w) Q (.ok (.list (done ++ [])) m') := h'
    rw [List.append_nil] at h3
    exact h3 (.ref L) H ⟨g', E'.tabs, o1⟩ (.lst (.inl (.inl (msk_of hacc (not_hid E.obs hL)))) (dpa_ext o2 _ _ racc))
theorem SE.lc (o : JOk j k) (hi : SI j tg iter gi) (hg : ∀ (s : Shared) (H : Hp) (C : Addr) (cl : List (Str × Addr)) (fp : List Addr), SG (j.blk s H scope C cl fp) tg is g) (ht : ∀ (s : Shared) (H : Hp) (C : Addr) (cl : List (Str × Addr)) (fp : List Addr), STs (j.blk s H scope C cl fp) ifs gt)
    (he : ∀ (s : Shared) (H : Hp) (C : Addr) (cl : List (Str × Addr)) (fp : List Addr), SE (j.blk s H scope C cl fp) elt ge) (ok : BlkOk j.X.N j.X.env.scope scope own) (his : ∀ i ∈ is, i ∈ own.map (·.2)) (hs : ∀ x, foldedSetIterable iter j.X.env x = pure x := by intro _; rfl) :
    SE j (.ListComp elt [⟨tg, iter, ifs, 0⟩] scope pos) (eLc gi g gt ge (own.map (·.2))) := by
  obtain ⟨wi, pI, kI⟩ := hi
  obtain ⟨tg', tt, te, pg, pt, pe, kk⟩ := lc_turns (own := own) hg ht he his
  refine ⟨_, pe_lc o.calm o.nd pI ok pg pt pe hs, fun w ρ m σ H Q E h => ?_⟩
  exact kI w ρ m σ H _ E (Post.bind h fun ds m1 _ Jt H1 A1 it h1 => kk w ρ m1 σ H1 ds Jt Q (E.step A1) it h1)
/-- y = [..] on one line, y a local -/
theorem SS.setLc {i : Nat} {y : Str} {py spos : Pos} (o : JOk j k) (hi : SI j tg iter gi) (hg : ∀ (s : Shared) (H : Hp) (C : Addr) (cl : List (Str × Addr)) (fp : List Addr), SG (j.blk s H scope C cl fp) tg is g) (ht : ∀ (s : Shared) (H : Hp) (C : Addr) (cl : List (Str × Addr)) (fp : List Addr), STs (j.blk s H scope C cl fp) ifs gt)
    (he : ∀ (s : Shared) (H : Hp) (C : Addr) (cl : List (Str × Addr)) (fp : List Addr), SE (j.blk s H scope C cl fp) elt ge) (ok : BlkOk j.X.N j.X.env.scope scope own) (his : ∀ i ∈ is, i ∈ own.map (·.2)) (hy : j.X.N[i]? = some y)
    (hsw : (j.X.env.scope.names.lookup y = some .local ∧ swapsWith (.ListComp elt [⟨tg, iter, ifs, 0⟩] scope pos) (some (.Name y py)) spos.line j.X.env = pure true) ∨ (Loc j.X.env.scope y ∧ swapsWith (.ListComp elt [⟨tg, iter, ifs, 0⟩] scope pos) (some (.Name y py)) spos.line j.X.env = pure false ∧ j.X.fn y = true) := by first | exact .inl ⟨rfl, rfl⟩ | exact .inr ⟨Or.inl rfl, rfl, rfl⟩ | exact .inr ⟨Or.inr rfl, rfl, rfl⟩) (hs : ∀ x, foldedSetIterable iter j.X.env x = pure x := by intro _; rfl) :
    SS j (.Assign [.Name y py] (.ListComp elt [⟨tg, iter, ifs, 0⟩] scope pos) spos) (sAsg (eLc gi g gt ge (own.map (·.2))) (gV i)) := by
  obtain ⟨wi, pI, kI⟩ := hi
  obtain ⟨tg', tt, te, pg, pt, pe, kk⟩ := lc_turns (own := own) hg ht he his
  have ps : PS j.X (.Assign [.Name y py] (.ListComp elt [⟨tg, iter, ifs, 0⟩] scope pos) spos) (tAsg (tLc wi tg' tt te (own.map (·.2))) (gName i)) := by
    rcases hsw with ⟨hyl, hsw⟩ | ⟨hx, hsw, hf⟩
    · exact ps_setLc o.calm o.nd hy hyl hsw pI ok pg pt pe hs
    · exact ps_set o.nd hy hx (pe_lc o.calm o.nd pI ok pg pt pe hs) hsw (.inl hf)
  refine ⟨_, ps, fun w0 H0 w ρ m σ H E s h => ?_⟩
  have h' : PostS j w0 H0 w H E ((gi ρ m).thn fun ds m => (if ds.length ≤ lineN then (lcF g gt ge ds (wipeS ρ (own.map (·.2))) m).bind fun xs m => .ok (.list xs) m else (.bad : Res D)).thn fun d m => match gV i d ρ with | some ρ' => .next ρ' m | none => .bad) := by
    unfold sAsg eLc at h
    cases hq : gi ρ m with
    | bad => rw [hq] at h; exact h
    | exc _ _ => rw [hq] at h; exact h
    | ok ds m1 => rw [hq] at h; exact h
  refine kI w ρ m σ H _ s.en (Post.thn s h' fun ds m1 _ Jt H1 s1 it h1 => ?_)
  refine kk w ρ m1 σ H1 ds Jt (fun x H1 => gName i x σ H1 E.nx) s1.en it (Post.thn s1 h1 fun d m2 _ v H2 s2 r2 h2 => ?_)
  refine asg_post (g := gV i) (is := [i]) (t := gName i) (fun w ρ m σ H d v ρ' Q E r h q => ?_) s2 r2 h2
  unfold gV at h
  split at h
  · rename_i hl
    cases h
    exact q _ (E.set hl r) (fun vs hv => wipe_set (hv i (by simp))) fun l k h => ow_set h
  · cases h
end
end DS

set_option maxRecDepth 100000
set_option maxHeartbeats 2000000
namespace DS
open PySem PySem.Spec PyProof.Rows L2 LamX NdefX

/-! ### what a def promises -/
def argB : Slot → Bool
  | .ow _ => false
  | _ => true
def ArgsOk (K : PySem.W.Frag) (w : Vw) (H : Hp) : List Slot → List V → Prop
  | [], [] => True
  | x :: xs, v :: vs => (argB x = true ∧ SlotOk K [] w H (some (some v)) x) ∧ ArgsOk K w H xs vs
  | _, _ => False
def PostF (K : PySem.W.Frag) (T : List (Addr × Str)) (mg : Str → Option Value) (w : Vw) (H : Hp) (Q : VK) (E : XK) : Res D → Prop
  | .bad => False
  | .ok d m => ∀ v H', Grow w H H' → Tabs T H' → Obs K w m H' → Rp K (msk w H') v d → Q v H'
  | .exc x m => ∀ cls dd H', Grow w H H' → Tabs T H' → Obs K w m H' → ExcIs K mg w x cls dd H' → E cls dd H'
def spF (K : PySem.W.Frag) (T : List (Addr × Str)) (mg : Str → Option Value) (n : Nat) (F : FnSem) : Sp := fun vs H Q E => ∃ (w : Vw) (m : Ms) (args : List Slot), Tabs T H ∧ Obs K w m H ∧ args.length = n ∧ ArgsOk K w H args vs ∧ PostF K T mg w H Q E (F args m)
theorem ArgsOk.len {K : PySem.W.Frag} {w : Vw} {H : Hp} : ∀ {xs : List Slot} {vs : List V}, ArgsOk K w H xs vs → vs.length = xs.length
  | [], [], _ => rfl
  | _ :: _, _ :: _, h => by simp [ArgsOk.len h.2]
  | [], _ :: _, h => h.elim
  | _ :: _, [], h => h.elim
theorem ArgsOk.get {K : PySem.W.Frag} {w : Vw} {H : Hp} : ∀ {xs : List Slot} {vs : List V}, ArgsOk K w H xs vs → ∀ (i : Nat) (x : Slot), xs[i]? = some x → ∃ v, vs[i]? = some v ∧ argB x = true ∧ SlotOk K [] w H (some (some v)) x
  | [], [], _, i, x, e => by simp at e
  | _ :: _, _ :: _, h, 0, x, e => by simp at e; subst e; exact ⟨_, rfl, h.1⟩
  | _ :: _, _ :: _, h, i + 1, x, e => by
    obtain ⟨v, h1, h2⟩ := ArgsOk.get h.2 i x (by simpa using e)
    exact ⟨v, by simpa using h1, h2⟩
  | [], _ :: _, h, _, _, _ => h.elim
  | _ :: _, [], h, _, _, _ => h.elim
theorem ArgsOk.ext {K : PySem.W.Frag} {w : Vw} {H H' : Hp} (g : Grow w H H') : ∀ {xs : List Slot} {vs : List V}, ArgsOk K w H xs vs → ArgsOk K w H' xs vs
  | [], [], _ => trivial
  | _ :: _, _ :: _, h => ⟨⟨h.1.1, h.1.2.ext g.ext fun _ _ z => .inl z⟩, ArgsOk.ext g h.2⟩
  | [], _ :: _, h => h.elim
  | _ :: _, [], h => h.elim
theorem ArgsOk.app {K : PySem.W.Frag} {w : Vw} {H : Hp} : ∀ {xs ys : List Slot} {vs us : List V}, ArgsOk K w H xs vs → ArgsOk K w H ys us → ArgsOk K w H (xs ++ ys) (vs ++ us)
  | [], _, [], _, _, h => h
  | _ :: _, _, _ :: _, _, h, h' => ⟨h.1, ArgsOk.app h.2 h'⟩
  | [], _, _ :: _, _, h, _ => h.elim
  | _ :: _, _, [], _, h, _ => h.elim
/-- the arguments' slots, as the callee sees them -/
def toArg : Slot → Slot
  | .ow k => .ob k
  | x => x
/-- a body's run as a function -/
def fnD (N : Nat) (body : DS) : FnSem := fun args m => match body (args ++ List.replicate (N - args.length) .un) m with
  | .ret d m' => .ok d (m'.take m.length)
  | .next _ m' => .ok .none (m'.take m.length)
  | .exc x m' => .exc x (m'.take m.length)
  | _ => .bad
abbrev J.fn (P : Program) (w : World) (K : PySem.W.Frag) (mg : Str → Option Value) (base : Heap) (T : List (Addr × Str)) (N : List Str) (qual : Str) (sc : Scope) (f : Addr) (cdv : Value) (A : Around) (outer : List PySem.Env) (s : Shared) (H : Hp) (E : XK) : J :=
  ⟨cxOf (L2.CX P w) P w K mg base N qual sc f cdv A outer s H E, ⟨T, []⟩, [], [], fun cls dd _ H => E cls dd H⟩
section
variable {P : Program} {w : World} {K : PySem.W.Frag} {mg : Str → Option Value} {base : Heap}
/-- a def's promise (as FnOk, where no repr is under way) -/
structure FnG (P : Program) (w : World) (K : PySem.W.Frag) (mg : Str → Option Value) (base : Heap) (T : List (Addr × Str)) (k : Nat) (f : Addr) (fd : FuncData) (ps : List Str) (F : FnSem) : Prop where
  run : ∀ (A : Around) (outer : List PySem.Env) (s : Shared) (H : Hp) (args : Args) (us : List Value) (vs : List V) (Q : VK) (E : XK), Room k A → A.guards = some [] → Env0 P w K mg base A outer s H → BindsTo s fd args (ps.zip us) → Vals vs us → spF K T mg ps.length F vs H Q E →
    codeAny (model P w) A (.call (.ref f) args) (CR (L2.CX P w) outer P w H s Q E) s
theorem FnG.mono {T : List (Addr × Str)} {k k' : Nat} {f : Addr} {fd : FuncData} {ps : List Str} {F : FnSem} (g : FnG P w K mg base T k f fd ps F) (h : k ≤ k') : FnG P w K mg base T k' f fd ps F :=
  ⟨fun A outer s H args us vs Q E hr => g.run A outer s H args us vs Q E (hr.mono h)⟩
theorem fn_body {x qual : Str} {st : Stmt} {f : Addr} {fd : FuncData} {N ps : List Str} {k : Nat} {T : List (Addr × Str)} {g : DS} (F : Fun K x qual st f fd) (S : FnScope N ps (defScope st))
    (hbody : ∀ (cdv : Value), fd.code = cdv → ∀ (A : Around) (outer : List PySem.Env) (s : Shared) (H : Hp) (E : XK), JOk (J.fn P w K mg base T N qual (defScope st) f cdv A outer s H E) k → SSs (J.fn P w K mg base T N qual (defScope st) f cdv A outer s H E) (defBody st) g) :
    FnG P w K mg base T (k + 1) f fd ps (fnD N.length g) := by
  obtain ⟨oc, od, kV, doc, pm, an, cdv, ct, osl, rfl, lk, hcd⟩ := F.ex
  refine ⟨fun A outer s H args0 us vs Q E hr hgd e0 hbd r h => ?_⟩
  obtain ⟨v, m, args, h1, h2, h3, h4, h5⟩ := h
  refine run_ofS (CX := L2.CX P w) lk hcd S hr e0 hbd r (by rw [h4.len, h3]) fun hr' => ?_
  · have jo : JOk (J.fn P w K mg base T N qual (defScope st) f cdv A outer s H E) k := ⟨hr', S.nd, rfl, takes_of rfl rfl rfl rfl, passes_of rfl, hgd⟩
    obtain ⟨t, pt, kt⟩ := hbody cdv rfl A outer s H E jo
    refine ⟨t, pt, ?_⟩
    have hl := h4.len
    have nle : args.length ≤ N.length := by
      rw [h3]
      have := congrArg List.length S.pre
      rw [List.length_take] at this
      omega
    have en : En (J.fn P w K mg base T N qual (defScope st) f cdv A outer s H E) v (args ++ List.replicate (N.length - args.length) .un) m (L2.start N vs) H := by
      refine ⟨⟨h1, fun p hp => absurd (show p ∈ ([] : List (Addr × HO)) from hp) (by simp)⟩, h2, ?_, fun i x hx => ?_, fun p hp => absurd (show p ∈ ([] : List (Vw × Hp)) from hp) (by simp)⟩
      · unfold L2.start
        simp only [List.length_append, List.length_replicate, List.length_map]
        omega
      · rw [List.getElem?_append] at hx
        split at hx
        · rename_i hi
          obtain ⟨u, e1, _, e2⟩ := h4.get i x hx
          have e3 : (L2.start N vs)[i]? = some (some u) := by
            unfold L2.start
            rw [List.getElem?_append_left (by rw [List.length_map, hl]; exact hi), List.getElem?_map, e1]; rfl
          rw [e3]
          exact e2
        · rw [List.getElem?_replicate] at hx
          split at hx
          · cases hx; trivial
          · cases hx
    have se : StE (J.fn P w K mg base T N qual (defScope st) f cdv A outer s H E) v H v (args ++ List.replicate (N.length - args.length) .un) m (L2.start N vs) H := by
      refine ⟨en, rfl, List.take_length, .refl _ _, fun k a q1 q2 => ?_, fun i k q => ?_⟩
      · have := (List.getElem?_eq_some_iff.mp q2).1
        omega
      · exfalso
        rw [List.getElem?_append] at q
        split at q
        · obtain ⟨_, _, e1, _⟩ := h4.get i _ q
          cases e1
        · rw [List.getElem?_replicate] at q
          split at q <;> cases q
    have hle : v.as.length = m.length := h2.len
    refine kt v H v _ m _ H _ se ?_
    unfold fnD at h5
    cases hb : g (args ++ List.replicate (N.length - args.length) .un) m with
    | bad => rw [hb] at h5; exact h5.elim
    | brk ρ' m' => rw [hb] at h5; exact h5.elim
    | cont ρ' m' => rw [hb] at h5; exact h5.elim
    | next ρ' m' =>
      rw [hb] at h5
      exact fun w1 σ1 H1 s1 _ => let q := s1.fin; h5 .non H1 q.grow q.tabs.tabs (by rw [← hle]; exact q.obs) .non
    | ret d m' =>
      rw [hb] at h5
      exact fun u H1 q r => h5 u H1 q.grow q.tabs.tabs (by rw [← hle]; exact q.obs) r
    | exc x m' =>
      rw [hb] at h5
      exact fun cls dd σ1 H1 q r => h5 cls dd H1 q.grow q.tabs.tabs (by rw [← hle]; exact q.obs) r
end

/-- a def of the module, as its callers use it; ns: by how many positional arguments it is called (the others by keywords, in order) -/
structure FnT (P : Program) (w : World) (K : PySem.W.Frag) (mg : Str → Option Value) (base : Heap) (T : List (Addr × Str)) (k : Nat) (x : Str) (ps : List Str) (ns : List Nat) (F : FnSem) : Prop where
  ex : ∃ f fd, mg x = some (.ref f) ∧ PySem.W.keepIn K (.ref f) = true ∧ FnG P w K mg base T k f fd ps F ∧
    ∀ n1 ∈ ns, ∀ (s : Shared) (us ws : List Value), K.In s.heap → us.length = n1 → us.length + ws.length = ps.length → BindsTo s fd ⟨us, (ps.drop n1).zip ws⟩ (ps.zip (us ++ ws))

/-! ### arguments of own defs -/
abbrev DX := List Slot → Ms → Res Slot
abbrev DXs := List Slot → Ms → Res (List Slot)
def RX (j : J) (w : Vw) : Slot → V → Hp → Prop := fun x v H => argB x = true ∧ SlotOk j.X.K [] w H (some (some v)) x
def RXs (j : J) (w : Vw) : List Slot → List V → Hp → Prop := fun xs vs H => ArgsOk j.X.K w H xs vs
def SX (j : J) (e : Expr) (g : DX) : Prop := ∃ t, PE j.X e t ∧ ∀ w ρ m σ H Q, En j w ρ m σ H → Post j w σ H (RX j w) Q (g ρ m) → t σ H Q
def LenIs (g : DXs) (n : Nat) : Prop := ∀ ρ m xs m', g ρ m = .ok xs m' → xs.length = n
def SXs (j : J) (es : List Expr) (g : DXs) : Prop := LenIs g es.length ∧ ∃ t, PA j.X es t ∧ ∀ w ρ m σ H Q, En j w ρ m σ H → Post j w σ H (RXs j w) Q (g ρ m) → t σ H Q
def SKs (j : J) (kws : List Keyword) (g : DXs) : Prop := LenIs g kws.length ∧ ∃ t, PK j.X kws t ∧ ∀ w ρ m σ H Q, En j w ρ m σ H → Post j w σ H (RXs j w) Q (g ρ m) → t σ H Q
def xV (a : DE) : DX := fun ρ m => (a ρ m).bind fun d m => .ok (.v d) m
def xO (i : Nat) : DX := fun ρ m => match ρ[i]? with
  | some (.ob k) => .ok (.ob k) m
  | some (.ow k) => .ok (.ob k) m
  | _ => .bad
def xNil : DXs := fun _ m => .ok [] m
def xCons (a : DX) (b : DXs) : DXs := fun ρ m => (a ρ m).bind fun x m => (b ρ m).bind fun xs m => .ok (x :: xs) m
section
variable {j : J} {e : Expr} {es : List Expr} {kws : List Keyword} {ga : DE} {gx : DX} {gs ks : DXs} {pos kpos : Pos} {nm : Option Str}
theorem SX.val (ha : SE j e ga) : SX j e (xV ga) := by
  obtain ⟨t1, p1, k1⟩ := ha
  refine ⟨_, p1, fun w ρ m σ H Q E h => ?_⟩
  exact k1 w ρ m σ H _ E (Post.bind h fun d m1 _ v H1 A1 r1 h1 => h1 v H1 ⟨.refl _ _, A1.tabs, A1.obs⟩ ⟨rfl, v, rfl, r1⟩)
theorem SX.obj (i : Nat) {x : Str} (hN : j.X.N[i]? = some x := by rfl) (hv : Vis j.X.env.scope x := by first | exact Or.inl rfl | exact Or.inr (Or.inl rfl) | exact Or.inr (Or.inr rfl)) (hd : (x == ("__debug__" : Str)) = false := by decide)
    (hcd : (x == ("__classdict__" : Str)) = false := by decide) : SX j (.Name x pos) (xO i) := by
  refine ⟨_, pe_var hN hv hd hcd, fun w ρ m σ H Q E h => ?_⟩
  unfold xO at h
  cases hx : ρ[i]? with
  | none => rw [hx] at h; exact h.elim
  | some x =>
    rw [hx] at h
    have s := E.sl i x hx
    cases x with
    | un => exact h.elim
    | v d => exact h.elim
    | fn k => exact h.elim
    | os k => exact h.elim
    | ob k =>
      obtain ⟨a, e1, e2⟩ := s
      exact ⟨_, e1, h _ H E.aft ⟨rfl, a, rfl, e2⟩⟩
    | ow k =>
      obtain ⟨a, e1, e2⟩ := s
      exact ⟨_, e1, h _ H E.aft ⟨rfl, a, rfl, e2⟩⟩
theorem LenIs.nil : LenIs xNil 0 := fun ρ m xs m' h => by cases h; rfl
theorem LenIs.cons {n : Nat} (h : LenIs gs n) : LenIs (xCons gx gs) (n + 1) := fun ρ m xs m' q => by
  unfold xCons at q
  cases h1 : gx ρ m with
  | bad => rw [h1] at q; cases q
  | exc _ _ => rw [h1] at q; cases q
  | ok x m1 =>
    rw [h1] at q
    simp only [Res.bind_ok] at q
    cases h2 : gs ρ m1 with
    | bad => rw [h2] at q; cases q
    | exc _ _ => rw [h2] at q; cases q
    | ok ys m2 => rw [h2] at q; cases q; simp [h _ _ _ _ h2]
theorem SXs.nil : SXs j [] xNil := ⟨.nil, _, pa_nil, fun w ρ m σ H Q E h => h [] H E.aft trivial⟩
theorem SXs.cons (ha : SX j e gx) (hr : SXs j es gs) (hs : starEach (e :: es) j.X.env = (false, eval e j.X.env) :: starEach es j.X.env := by rfl) : SXs j (e :: es) (xCons gx gs) := by
  obtain ⟨t1, p1, k1⟩ := ha
  obtain ⟨ln, t2, p2, k2⟩ := hr
  refine ⟨ln.cons, _, pa_cons p1 p2 hs, fun w ρ m σ H Q E h => ?_⟩
  refine k1 w ρ m σ H _ E (Post.bind h fun d m1 _ v H1 A1 r1 h1 => ?_)
  refine k2 w ρ m1 σ H1 _ (E.step A1) (Post.bind h1 fun ds m2 _ vs H2 A2 r2 h2 => ?_)
  exact h2 _ H2 ⟨.refl _ _, A2.tabs, A2.obs⟩ ⟨⟨r1.1, SlotOk.ext A2.grow.ext (fun _ _ z => .inl z) r1.2⟩, r2⟩
theorem SKs.nil : SKs j [] xNil := ⟨.nil, _, pk_nil, fun w ρ m σ H Q E h => h [] H E.aft trivial⟩
theorem SKs.cons (ha : SX j e gx) (hr : SKs j kws gs) : SKs j (⟨nm, e, kpos⟩ :: kws) (xCons gx gs) := by
  obtain ⟨t1, p1, k1⟩ := ha
  obtain ⟨ln, t2, p2, k2⟩ := hr
  refine ⟨ln.cons, _, pk_cons p1 p2, fun w ρ m σ H Q E h => ?_⟩
  refine k1 w ρ m σ H _ E (Post.bind h fun d m1 _ v H1 A1 r1 h1 => ?_)
  refine k2 w ρ m1 σ H1 _ (E.step A1) (Post.bind h1 fun ds m2 _ vs H2 A2 r2 h2 => ?_)
  exact h2 _ H2 ⟨.refl _ _, A2.tabs, A2.obs⟩ ⟨⟨r1.1, SlotOk.ext A2.grow.ext (fun _ _ z => .inl z) r1.2⟩, r2⟩
/-! ### calls of own defs -/
def eCall (F : FnSem) (a : DXs) : DE := fun ρ m => (a ρ m).bind fun xs m => F xs m
def eCallK (F : FnSem) (a b : DXs) : DE := fun ρ m => (a ρ m).bind fun xs m => (b ρ m).bind fun ys m => F (xs ++ ys) m
variable {P : Program} {k k' : Nat} {x : Str} {p : Pos} {ps : List Str} {ns : List Nat} {F : FnSem}
theorem Tb.grow {t : Tk} {w : Vw} {H H' : Hp} {K : PySem.W.Frag} {m : Ms} (h : Tb t H) (O : Obs K w m H) (g : Grow w H H') (t' : Tabs t.tabs H') : Tb t H' := ⟨t', fun p hp => by
  obtain ⟨h1, φ, h2⟩ := h.fx p hp
  refine ⟨g.keep _ _ h1 (fun ps z => by rw [h2] at z; cases z) fun z => ?_, φ, h2⟩
  obtain ⟨k, hk⟩ := List.getElem?_of_mem z
  obtain ⟨ds, vs, _, h3, _⟩ := O.at_ k _ hk
  rw [h1, h2] at h3; cases h3⟩
theorem post_F {w : Vw} {σ : L2.St} {H : Hp} {m : Ms} {Q : VK} {r : Res D} (T : Tb j.T H) (O : Obs j.X.K w m H) (h : Post j w σ H (RD j w) Q r) : PostF j.X.K j.T.tabs j.X.mg w H Q (WE j.W σ) r := by
  cases r with
  | bad => exact h
  | ok d m => exact fun v H' g t o r => h v H' ⟨g, T.grow O g t, o⟩ r
  | exc x m => exact fun cls dd H' g t o r => h cls dd H' ⟨g, T.grow O g t, o⟩ r
/-- with keywords -/
def tCallKS (sp : Sp) (E : L2.St → XK) (t tk : TA) : TE := fun σ H Q => t σ H fun vs H1 => tk σ H1 fun zs H2 => sp (vs ++ zs) H2 Q (E σ)
theorem run_kw {X : Cx} {T : List (Addr × Str)} {f : Addr} {fd : FuncData} {E : L2.St → XK} {pins : List (Addr × Obj)} {σ : L2.St} {H : Hp} {s : Shared} {Q : VK} {us ws : List Value} {vs zs : List V} {n1 : Nat} (hf : FnG X.prog X.w X.K X.mg X.base T k f fd ps F) (hr : Room k X.A) (hgd : X.A.guards = some [])
    (hb : ∀ (s : Shared) (us ws : List Value), X.K.In s.heap → us.length = n1 → us.length + ws.length = ps.length → BindsTo s fd ⟨us, (ps.drop n1).zip ws⟩ (ps.zip (us ++ ws))) (hx : PassesAt (L2.CX X.prog X.w) X σ (E σ)) (I : Inv X pins σ H s) (r : Vals vs us) (rz : Vals zs ws) (hn : us.length = n1) (h : spF X.K T X.mg ps.length F (vs ++ zs) H Q (E σ)) :
    wpAny (model X.prog X.w) X.A (PySem.call (.ref f) us ((ps.drop n1).zip ws)) (EP X pins σ Q) X.xe s := by
  have r2 := r.append rz
  have hl : us.length + ws.length = ps.length := by
    obtain ⟨_, _, args, _, _, h3, h4, _⟩ := h
    have q1 := r2.length
    have q2 := h4.len
    rw [List.length_append, List.length_append] at q1
    rw [List.length_append] at q2
    omega
  refine wpAny_call (codeAny_mono (hf.run X.A X.stack s H ⟨us, (ps.drop n1).zip ws⟩ (us ++ ws) (vs ++ zs) Q (E σ) hr hgd I.env0 (hb s us ws I.kIn hn hl) r2 h) fun r s' hq => ?_)
  cases r with
  | error e => exact hx pins H s e s' I hq
  | ok fl =>
    cases fl with
    | ret u => exact I.after hq
    | next => exact False.elim hq
    | brk => exact False.elim hq
    | cont => exact False.elim hq
theorem SE.call (h : FnT j.X.prog j.X.w j.X.K j.X.mg j.X.base j.T.tabs k x ps ns F) (o : JOk j k') (hk : k ≤ k') (hg : Gl j.X x) (ha : SXs j (e :: es) gs) (hl : (e :: es).length = ps.length := by rfl) (hn : ps.length ∈ ns := by decide) (hdb : (x == ("__debug__" : Str)) = false := by decide)
    (he : starEach (e :: es) j.X.env = (false, eval e j.X.env) :: starEach es j.X.env := by rfl) (hpl : (backTo pos (starEach es j.X.env)).any (·.1) = false := by rfl) : SE j (.Call (.Name x p) (e :: es) [] pos) (eCall F gs) := by
  obtain ⟨f, fd, hm, hkp, hf, hb⟩ := h.ex
  obtain ⟨ln, t1, p1, k1⟩ := ha
  refine ⟨fun σ H Q => t1 σ H fun vs H1 => vs.length = ps.length ∧ spF j.X.K j.T.tabs j.X.mg ps.length F vs H1 Q (WE j.W σ), ⟨fun pins s σ H Q I hw => ?_⟩, fun w ρ m σ H Q E h => ?_⟩
  · refine wpAny_Call_Name_kw (ld_glob I hg hm ?_ hdb)
    refine PySem.W.callWith_K (h₀ := j.X.base) I.ok.mod.kin hkp (thn (p1.run pos pins s σ H _ I hw) fun us s1 ⟨vs, H1, I1, r, hv, hq⟩ => ⟨I1.kIn, ?_⟩) he hpl
    have z : (ps.drop ps.length).zip ([] : List Value) = [] := by simp
    have g := run_kw (n1 := ps.length) (ps := ps) (ws := []) (zs := []) hf (o.hr.mono hk) o.gd (hb _ hn) (passAt o.tk σ) I1 r .nil (by rw [← r.length]; exact hv) (by rw [List.append_nil]; exact hq)
    rw [z] at g
    exact g
  · refine k1 w ρ m σ H _ E (Post.bind h fun xs m1 hx vs H1 A1 r1 h1 => ?_)
    have hxl := (ln _ _ _ _ hx).trans hl
    exact ⟨by rw [ArgsOk.len r1]; exact hxl, w, m1, xs, A1.tabs.tabs, A1.obs, hxl, r1, post_F A1.tabs A1.obs h1⟩
theorem SE.callK0 (h : FnT j.X.prog j.X.w j.X.K j.X.mg j.X.base j.T.tabs k x ps ns F) (o : JOk j k') (hk : k ≤ k') (hg : Gl j.X x) (hkw : SKs j kws ks) (hl : kws.length = ps.length := by rfl) (hn : 0 ∈ ns := by decide) (hall : (backToKw pos (keywordEach kws j.X.env)).all (·.1.isSome) = true := by rfl)
    (hks : (backToKw pos (keywordEach kws j.X.env)).filterMap (·.1) = ps := by rfl) (hdb : (x == ("__debug__" : Str)) = false := by decide) (hpl : (backToKw pos (keywordEach kws j.X.env)).any (·.1.isNone) = false := by rfl) :
    SE j (.Call (.Name x p) [] kws pos) (eCall F ks) := by
  obtain ⟨f, fd, hm, hkp, hf, hb⟩ := h.ex
  obtain ⟨ln, t2, p2, k2⟩ := hkw
  refine ⟨tCallKS (spF j.X.K j.T.tabs j.X.mg ps.length F) (WE j.W) tNil t2, ⟨fun pins s σ H Q I hw => ?_⟩, fun w ρ m σ H Q E h => ?_⟩
  · refine wpAny_Call_Name_kw (ld_glob I hg hm ?_ hdb)
    refine PySem.W.callWith_KW0 (h₀ := j.X.base) I.ok.mod.kin hkp hall ?_ hpl
    refine thn (p2.run pos pins s σ H _ I hw) fun ws s2 ⟨zs, H2, I2, rz, q2⟩ => ⟨I2.kIn, ?_⟩
    rw [hks]
    exact run_kw (n1 := 0) (ps := ps) hf (o.hr.mono hk) o.gd (hb 0 hn) (passAt o.tk σ) I2 .nil rz rfl q2
  · refine k2 w ρ m σ H _ E (Post.bind h fun xs m1 hx vs H1 A1 r1 h1 => ?_)
    exact ⟨w, m1, xs, A1.tabs.tabs, A1.obs, (ln _ _ _ _ hx).trans hl, r1, post_F A1.tabs A1.obs h1⟩
/-- f(e, .., k = v, ..) -/
theorem SE.callK (h : FnT j.X.prog j.X.w j.X.K j.X.mg j.X.base j.T.tabs k x ps ns F) (o : JOk j k') (hk : k ≤ k') (hg : Gl j.X x) (ha : SXs j (e :: es) gs) (hkw : SKs j kws ks) (hl : (e :: es).length + kws.length = ps.length := by rfl) (hn : (e :: es).length ∈ ns := by decide)
    (hall : (backToKw pos (keywordEach kws j.X.env)).all (·.1.isSome) = true := by rfl) (hks : (backToKw pos (keywordEach kws j.X.env)).filterMap (·.1) = ps.drop (e :: es).length := by rfl) (hdb : (x == ("__debug__" : Str)) = false := by decide)
    (he : starEach (e :: es) j.X.env = (false, eval e j.X.env) :: starEach es j.X.env := by rfl) (hpl : ((backTo pos (starEach (e :: es) j.X.env)).any (·.1) || (backToKw pos (keywordEach kws j.X.env)).any (·.1.isNone)) = false := by rfl) :
    SE j (.Call (.Name x p) (e :: es) kws pos) (eCallK F gs ks) := by
  obtain ⟨f, fd, hm, hkp, hf, hb⟩ := h.ex
  obtain ⟨ln1, t1, p1, k1⟩ := ha
  obtain ⟨ln2, t2, p2, k2⟩ := hkw
  have run : ∀ (pins : List (Addr × Obj)) (σ : L2.St) (H : Hp) (s : Shared) (Q : VK) (us ws : List Value) (vs zs : List V), Inv j.X pins σ H s → Vals vs us → Vals zs ws → us.length = (e :: es).length → spF j.X.K j.T.tabs j.X.mg ps.length F (vs ++ zs) H Q (WE j.W σ) →
      wpAny (model j.X.prog j.X.w) j.X.A (PySem.call (.ref f) us ((ps.drop (e :: es).length).zip ws)) (EP j.X pins σ Q) j.X.xe s := fun pins σ H s Q us ws vs zs I r rz hn' hq =>
    run_kw (n1 := (e :: es).length) (ps := ps) hf (o.hr.mono hk) o.gd (hb _ hn) (passAt o.tk σ) I r rz hn' hq
  refine ⟨fun σ H Q => t1 σ H fun vs H1 => vs.length = (e :: es).length ∧ t2 σ H1 fun zs H2 => spF j.X.K j.T.tabs j.X.mg ps.length F (vs ++ zs) H2 Q (WE j.W σ), ⟨fun pins s σ H Q I hw => ?_⟩, fun w ρ m σ H Q E h => ?_⟩
  · refine wpAny_Call_Name_kw (ld_glob I hg hm ?_ hdb)
    refine PySem.W.callWith_KW (h₀ := j.X.base) I.ok.mod.kin hkp hall (thn (p1.run pos pins s σ H _ I hw) fun us s1 ⟨vs, H1, I1, r, hv, q⟩ => ?_) hpl he
    refine thn (p2.run pos pins s1 σ H1 _ I1 q) fun ws s2 ⟨zs, H2, I2, rz, q2⟩ => ⟨I2.kIn, ?_⟩
    rw [hks]
    exact run pins σ H2 s2 Q us ws vs zs I2 r rz (by rw [← r.length]; exact hv) q2
  · refine k1 w ρ m σ H _ E (Post.bind h fun xs m1 hx vs H1 A1 r1 h1 => ⟨by rw [ArgsOk.len r1]; exact ln1 _ _ _ _ hx, ?_⟩)
    refine k2 w ρ m1 σ H1 _ (E.step A1) (Post.bind h1 fun ys m2 hy us H2 A2 r2 h2 => ?_)
    refine ⟨w, m2, xs ++ ys, A2.tabs.tabs, A2.obs, ?_, ArgsOk.app (ArgsOk.ext A2.grow r1) r2, post_F A2.tabs A2.obs h2⟩
    rw [List.length_append, ln1 _ _ _ _ hx, ln2 _ _ _ _ hy]; exact hl
end
end DS

set_option maxRecDepth 100000
set_option maxHeartbeats 2000000
namespace DS
open PySem PySem.Spec PyProof.Rows L2 LamX NdefX

/-! ### mutable lists -/
/-- what a slot's value is at a time -/
def slotD (x : Slot) (m : Ms) : Option D := match x with
  | .v d => some d
  | .ob k => match m[k]? with
    | some (some ds) => some (.list ds)
    | _ => none
  | _ => none
def slotsD (xs : List Slot) (m : Ms) : Option (List D) := match xs with
  | [] => some []
  | x :: xs => (slotD x m).bind fun d => (slotsD xs m).map (d :: ·)
section
variable {j : J} {w : Vw} {H : Hp} {m : Ms}
theorem obj_at {K : PySem.W.Frag} (O : Obs K w m H) {k : Nat} {a : Addr} {ds : List D} (h : w.as[k]? = some (some a) ∨ w.as[k]? = some none) (hm : m[k]? = some (some ds)) : w.as[k]? = some (some a) ∧ ∃ vs, H a = some (.lst vs) ∧ RpAll K (msk w H) vs ds := by
  rcases h with h | h
  · obtain ⟨ds', vs, h1, h2, h3⟩ := O.at_ k a h
    rw [hm] at h1; cases h1
    exact ⟨h, vs, h2, h3⟩
  · rw [O.dead k h] at hm; cases hm
theorem rt_slot {x : Slot} {v : V} {d : D} (O : Obs j.X.K w m H) (r : SlotOk j.X.K [] w H (some (some v)) x) (h : slotD x m = some d) : RT j w d v H := by
  cases x with
  | v d' => cases h; obtain ⟨v', e, r⟩ := r; cases e; exact .inl r
  | ob k =>
    obtain ⟨a, e, r⟩ := r
    cases e
    have h : (match m[k]? with | some (some ds) => some (PyData.list ds) | _ => none) = some d := h
    split at h
    · rename_i ds hm
      cases h
      obtain ⟨_, vs, h1, h2⟩ := obj_at O r hm
      exact .inr ⟨a, vs, ds, rfl, rfl, .inl (.inl h1), h2⟩
    · cases h
  | un => cases h
  | ow k => cases h
  | fn k => cases h
  | os k => cases h
theorem rts_slots (O : Obs j.X.K w m H) : ∀ {xs : List Slot} {vs : List V} {ds : List D}, ArgsOk j.X.K w H xs vs → slotsD xs m = some ds → RTs j w ds vs H
  | [], [], ds, _, h => by cases h; trivial
  | x :: xs, v :: vs, ds, r, h => by
    unfold slotsD at h
    cases h1 : slotD x m with
    | none => rw [h1] at h; cases h
    | some d =>
      rw [h1] at h
      cases h2 : slotsD xs m with
      | none => rw [h2] at h; cases h
      | some es =>
        rw [h2] at h
        cases h
        exact ⟨rt_slot O r.1.2 h1, rts_slots O r.2 h2⟩
  | [], _ :: _, _, r, _ => r.elim
  | _ :: _, [], _, r, _ => r.elim
end
/-- operations, calls of built-ins where a part may be a mutable list -/
def eBinS (f : D → D → Option D) (a b : DX) : DE := fun ρ m => (a ρ m).bind fun x m => (b ρ m).bind fun y m => lift ((slotD x m).bind fun d => (slotD y m).bind fun e => f d e) m
def eBiS (f : List D → Option D) (a : DXs) : DE := fun ρ m => (a ρ m).bind fun xs m => lift ((slotsD xs m).bind f) m
section
variable {j : J} {a b e : Expr} {es : List Expr} {xa xb : DX} {xs : DXs} {ge : DE} {pos : Pos}
theorem slot2 {w : Vw} {m : Ms} {H : Hp} {x y : Slot} {f : D → D → Option D} {z : D} (h : ((slotD x m).bind fun d => (slotD y m).bind fun e => f d e) = some z) : ∃ d e, slotD x m = some d ∧ slotD y m = some e ∧ f d e = some z := by
  cases h1 : slotD x m with
  | none => rw [h1] at h; cases h
  | some d =>
    rw [h1] at h
    cases h2 : slotD y m with
    | none => rw [h2] at h; cases h
    | some e => rw [h2] at h; exact ⟨d, e, rfl, rfl, h⟩
theorem SE.opS {op : Operator} {f : D → D → Option D} (ho : OpD j (binaryOp op) f) (ha : SX j a xa) (hb : SX j b xb) : SE j (.BinOp a op b pos) (eBinS f xa xb) := by
  obtain ⟨r, hr, k⟩ := ho
  obtain ⟨t1, p1, k1⟩ := ha
  obtain ⟨t2, p2, k2⟩ := hb
  refine ⟨_, pe_op hr p1 p2, fun w ρ m σ H Q E h => ?_⟩
  refine k1 w ρ m σ H _ E (Post.bind h fun x m1 _ v H1 A1 r1 h1 => ?_)
  refine k2 w ρ m1 σ H1 _ (E.step A1) (Post.bind h1 fun y m2 _ v' H2 A2 r2 h2 => ?_)
  obtain ⟨z, hz, hq⟩ := post_lift h2
  obtain ⟨d, d', e1, e2, e3⟩ := slot2 (w := w) (H := H) hz
  exact k w m2 H2 v v' d d' z Q A2.tabs A2.obs (rt_slot A2.obs (SlotOk.ext A2.grow.ext (fun _ _ z => .inl z) r1.2) e1) (rt_slot A2.obs r2.2 e2) e3 fun v H' x r => hq v H' (ex_aft A2.tabs A2.obs x) r
theorem SE.cmpS {op : CmpOp} {f : D → D → Option D} (ho : OpD j (compareOp op) f) (ha : SX j a xa) (hb : SX j b xb) (hm : behindInMarks op b = false := by first | exact nomark _ | rfl) : SE j (.Compare a [op] [b] pos) (eBinS f xa xb) := by
  obtain ⟨r, hr, k⟩ := ho
  obtain ⟨t1, p1, k1⟩ := ha
  obtain ⟨t2, p2, k2⟩ := hb
  refine ⟨_, pe_cmpR hr p1 p2 hm, fun w ρ m σ H Q E h => ?_⟩
  refine k1 w ρ m σ H _ E (Post.bind h fun x m1 _ v H1 A1 r1 h1 => ?_)
  refine k2 w ρ m1 σ H1 _ (E.step A1) (Post.bind h1 fun y m2 _ v' H2 A2 r2 h2 => ?_)
  obtain ⟨z, hz, hq⟩ := post_lift h2
  obtain ⟨d, d', e1, e2, e3⟩ := slot2 (w := w) (H := H) hz
  exact k w m2 H2 v v' d d' z Q A2.tabs A2.obs (rt_slot A2.obs (SlotOk.ext A2.grow.ext (fun _ _ z => .inl z) r1.2) e1) (rt_slot A2.obs r2.2 e2) e3 fun v H' x r => hq v H' (ex_aft A2.tabs A2.obs x) r
theorem ST.cmpS {op : CmpOp} {f : D → D → Option D} (ho : OpD j (compareOp op) f) (ha : SX j a xa) (hb : SX j b xb) (hm : behindInMarks op b = false := by first | exact nomark _ | rfl) : ST j (.Compare a [op] [b] pos) (tV (eBinS f xa xb)) := by
  obtain ⟨r, hr, k⟩ := ho
  obtain ⟨t1, p1, k1⟩ := ha
  obtain ⟨t2, p2, k2⟩ := hb
  refine ⟨_, pt_cmpR hr p1 p2 hm, fun w ρ m σ H Q E h => ?_⟩
  have h' : Post j w σ H RB Q ((xa ρ m).bind fun x m => (xb ρ m).bind fun y m => (lift ((slotD x m).bind fun d => (slotD y m).bind fun e => f d e) m).bind fun z m => match z with | .bool k => .ok k m | _ => .bad) := by
    have e : (tV (eBinS f xa xb)) ρ m = ((xa ρ m).bind fun x m => (xb ρ m).bind fun y m => (lift ((slotD x m).bind fun d => (slotD y m).bind fun e => f d e) m).bind fun z m => match z with | .bool k => .ok k m | _ => .bad) := by
      unfold tV eBinS
      cases xa ρ m with
      | bad => rfl
      | exc => rfl
      | ok d m1 =>
        simp only [Res.bind_ok]
        cases xb ρ m1 <;> rfl
    rw [e] at h; exact h
  refine k1 w ρ m σ H _ E (Post.bind h' fun x m1 _ v H1 A1 r1 h1 => ?_)
  refine k2 w ρ m1 σ H1 _ (E.step A1) (Post.bind h1 fun y m2 _ v' H2 A2 r2 h2 => ?_)
  cases hz : ((slotD x m2).bind fun d => (slotD y m2).bind fun e => f d e) with
  | none => rw [hz] at h2; exact h2.elim
  | some z =>
    rw [hz] at h2
    obtain ⟨d, d', e1, e2, e3⟩ := slot2 (w := w) (H := H) hz
    refine k w m2 H2 v v' d d' z _ A2.tabs A2.obs (rt_slot A2.obs (SlotOk.ext A2.grow.ext (fun _ _ z => .inl z) r1.2) e1) (rt_slot A2.obs r2.2 e2) e3 fun u H3 x3 r3 => ?_
    have A3 := ex_aft A2.tabs A2.obs x3
    exact post_bool (Post.at h2 A3.grow) r3 ⟨.refl _ _, A3.tabs, A3.obs⟩
theorem SE.ixS (ha : SX j a xa) (hb : SX j b xb) (hs : PlainIx b) : SE j (.Subscript a b pos) (eBinS dIx xa xb) := by
  obtain ⟨t1, p1, k1⟩ := ha
  obtain ⟨t2, p2, k2⟩ := hb
  refine ⟨_, pe_ix (.or ix_list (.or ix_tup ix_str)) p1 p2 hs, fun w ρ m σ H Q E h => ?_⟩
  refine k1 w ρ m σ H _ E (Post.bind h fun x m1 _ v H1 A1 r1 h1 => ?_)
  refine k2 w ρ m1 σ H1 _ (E.step A1) (Post.bind h1 fun y m2 _ v' H2 A2 r2 h2 => ?_)
  obtain ⟨z, hz, hq⟩ := post_lift h2
  obtain ⟨d, d', e1, e2, e3⟩ := slot2 (w := w) (H := H) hz
  exact ix_val A2.tabs A2.obs (rt_slot A2.obs (SlotOk.ext A2.grow.ext (fun _ _ z => .inl z) r1.2) e1) (rt_slot A2.obs r2.2 e2) e3 fun v H' x r => hq v H' (ex_aft A2.tabs A2.obs x) r
theorem slots_of {xs : List Slot} {m : Ms} {f : List D → Option D} {z : D} (h : (slotsD xs m).bind f = some z) : ∃ ds, slotsD xs m = some ds ∧ f ds = some z := by
  cases h1 : slotsD xs m with
  | none => rw [h1] at h; cases h
  | some ds => rw [h1] at h; exact ⟨ds, rfl, h⟩
theorem SE.callBS {id : String} {f : List D → Option D} {x : Str} {p : Pos} (hc : CallD j (.builtin id) f) (hg : Gl j.X x) (hm : j.X.mg x = none) (hv : bootBuiltins x = some (.builtin id)) (ha : SXs j (e :: es) xs) (hn : x ≠ "__name__" := by decide) (hdb : (x == ("__debug__" : Str)) = false := by decide)
    (he : starEach (e :: es) j.X.env = (false, eval e j.X.env) :: starEach es j.X.env := by rfl) (hpl : (backTo pos (starEach es j.X.env)).any (·.1) = false := by rfl) : SE j (.Call (.Name x p) (e :: es) [] pos) (eBiS f xs) := by
  obtain ⟨r, hr, k⟩ := hc
  obtain ⟨_, t1, p1, k1⟩ := ha
  refine ⟨_, pe_callB hr hg hm hv p1 hn hdb he hpl, fun w ρ m σ H Q E h => ?_⟩
  refine k1 w ρ m σ H _ E (Post.bind h fun xs m1 _ vs H1 A1 r1 h1 => ?_)
  obtain ⟨z, hz, hq⟩ := post_lift h1
  obtain ⟨ds, e1, e2⟩ := slots_of hz
  exact k w m1 H1 vs ds z Q A1.tabs A1.obs (rts_slots A1.obs r1 e1) e2 fun v H' x r => hq v H' (ex_aft A1.tabs A1.obs x) r
theorem SE.callTyS {id : String} {f : List D → Option D} {x : Str} {p : Pos} (hc : CallD j (.type id) f) (hg : Gl j.X x) (hm : j.X.mg x = none) (hv : bootBuiltins x = some (.type id)) (ha : SXs j (e :: es) xs) (hn : x ≠ "__name__" := by decide) (hdb : (x == ("__debug__" : Str)) = false := by decide)
    (he : starEach (e :: es) j.X.env = (false, eval e j.X.env) :: starEach es j.X.env := by rfl) (hpl : (backTo pos (starEach es j.X.env)).any (·.1) = false := by rfl) : SE j (.Call (.Name x p) (e :: es) [] pos) (eBiS f xs) := by
  obtain ⟨r, hr, k⟩ := hc
  obtain ⟨_, t1, p1, k1⟩ := ha
  refine ⟨_, pe_callTy hr hg hm hv p1 hn hdb he hpl, fun w ρ m σ H Q E h => ?_⟩
  refine k1 w ρ m σ H _ E (Post.bind h fun xs m1 _ vs H1 A1 r1 h1 => ?_)
  obtain ⟨z, hz, hq⟩ := post_lift h1
  obtain ⟨ds, e1, e2⟩ := slots_of hz
  exact k w m1 H1 vs ds z Q A1.tabs A1.obs (rts_slots A1.obs r1 e1) e2 fun v H' x r => hq v H' (ex_aft A1.tabs A1.obs x) r
end

/-! ### stores to a mutable list -/
section
variable {K : PySem.W.Frag} {w : Vw} {m : Ms} {H : Hp}
theorem obs_put {k : Nat} {a : Addr} {ds : List D} {us : List V} (O : Obs K w m H) (h : w.as[k]? = some (some a)) (r : RpAll K (msk w H) us ds) : Obs K w (m.set k (some ds)) (upd H a (.lst us)) := by
  have hid : Hid w a := .inl (List.mem_of_getElem? h)
  have ext : ExtN (msk w H) (msk w (upd H a (.lst us))) := fun b u e n => by
    obtain ⟨h1, h2⟩ := of_msk e
    have hb : b ≠ a := fun z => h2 (z ▸ hid)
    exact msk_of (by rw [upd_ne hb]; exact h1) h2
  have hk : k < m.length := by rw [← O.len]; exact (List.getElem?_eq_some_iff.mp h).1
  refine ⟨by rw [List.length_set]; exact O.len, fun i b hb => ?_, fun i hi => ?_, O.inj, fun b hb => ?_⟩
  · by_cases e : i = k
    · subst e
      rw [h] at hb; cases hb
      exact ⟨ds, us, by rw [List.getElem?_set_self hk], upd_same, dpa_ext ext _ _ r⟩
    · obtain ⟨ds', vs', h1, h2, h3⟩ := O.at_ i b hb
      have hab : b ≠ a := fun z => e (O.inj i k a (z ▸ hb) h)
      exact ⟨ds', vs', by rw [List.getElem?_set_ne (Ne.symm e)]; exact h1, by rw [upd_ne hab]; exact h2, dpa_ext ext _ _ h3⟩
  · by_cases e : i = k
    · subst e; rw [h] at hi; cases hi
    · rw [List.getElem?_set_ne (Ne.symm e)]; exact O.dead i hi
  · obtain ⟨⟨o, h1, h2⟩, h3⟩ := O.exs b hb
    have hab : b ≠ a := fun z => h3 (z ▸ List.mem_of_getElem? h)
    exact ⟨⟨o, by rw [upd_ne hab]; exact h1, h2⟩, h3⟩
/-- a store to the mutable list at a -/
theorem aft_put {j : J} {k : Nat} {a : Addr} {vs : List V} {ds : List D} {us : List V} (T : Tb j.T H) (O : Obs j.X.K w m H) (h : w.as[k]? = some (some a)) (ha : H a = some (.lst vs)) (r : RpAll j.X.K (msk w H) us ds) : Aft j w (m.set k (some ds)) H (upd H a (.lst us)) := by
  refine ⟨⟨fun b o hb n z => ?_, fun b hb => ?_⟩, tabs_lst T ha, obs_put O h r⟩
  · have : b ≠ a := fun q => z (q ▸ List.mem_of_getElem? h)
    rw [upd_ne this]; exact hb
  · by_cases e : b = a
    · rw [e] at hb
      obtain ⟨ps, q⟩ := hb _ upd_same
      cases q
    · intro o q
      exact hb o (by rw [upd_ne e]; exact q)
end
def objAt (i : Nat) (ρ : List Slot) : Option Nat := match ρ[i]? with
  | some (.ob k) => some k
  | some (.ow k) => some k
  | _ => none
def mAt (k : Nat) (m : Ms) : Option (List D) := match m[k]? with
  | some (some ds) => some ds
  | _ => none
theorem mAt_of {k : Nat} {m : Ms} {ds : List D} (h : mAt k m = some ds) : m[k]? = some (some ds) := by
  unfold mAt at h
  split at h
  · rename_i e; cases h; exact e
  · cases h
theorem En.obj {j : J} {w : Vw} {ρ : List Slot} {m : Ms} {σ : L2.St} {H : Hp} (E : En j w ρ m σ H) {i k : Nat} (h : objAt i ρ = some k) : ∃ a, σ[i]? = some (some (.ref a)) ∧ (w.as[k]? = some (some a) ∨ w.as[k]? = some none) := by
  unfold objAt at h
  split at h
  · rename_i e; cases h; exact E.sl i _ e
  · rename_i e; cases h; exact E.sl i _ e
  · cases h
/-- x.append(e), x a mutable list -/
def appD (k : Nat) (d : D) (ρ : List Slot) (m : Ms) : SR := match mAt k m with
  | none => .bad
  | some ds => if ds.length < lineN then .next ρ (m.set k (some (ds ++ [d]))) else .bad
def sApp (i : Nat) (a : DE) : DS := fun ρ m => match objAt i ρ with
  | none => .bad
  | some k => match mAt k m with
    | none => .bad
    | some _ => (a ρ m).thn fun d m => appD k d ρ m
/-- x[b] = e -/
def setD (k : Nat) (d e : D) (ρ : List Slot) (m : Ms) : SR := match e with
  | .int n => match mAt k m with
    | none => .bad
    | some ds => match ixN ds.length n with
      | none => .bad
      | some l => .next ρ (m.set k (some (ds.set l d)))
  | _ => .bad
def sSetI (i : Nat) (b : DE) (a : DE) : DS := fun ρ m => match objAt i ρ with
  | none => .bad
  | some k => (a ρ m).thn fun d m => (b ρ m).thn fun e m => setD k d e ρ m
section
variable {j : J} {e b : Expr} {ge gb : DE} {pos apos pos' p1 p2 : Pos}
variable {w0 w : Vw} {H0 H : Hp} {ρ : List Slot} {m : Ms} {σ : L2.St}
theorem SS.append (i : Nat) {x : Str} {kw : Nat} (o : JOk j kw) (he : SE j e ge) (hN : j.X.N[i]? = some x := by rfl) (hv : Vis j.X.env.scope x := by first | exact Or.inl rfl | exact Or.inr (Or.inl rfl) | exact Or.inr (Or.inr rfl)) (hd : (x == ("__debug__" : Str)) = false := by decide)
    (hcd : (x == ("__classdict__" : Str)) = false := by decide) (hs : swapsWith (.Call (.Attribute (.Name x p1) "append" apos) [e] [] pos) none pos'.line j.X.env = pure false := by rfl)
    (hbase : attributeBase (.Name x p1) "append" j.X.env (eval (.Name x p1) j.X.env) = eval (.Name x p1) j.X.env := by rfl) (hline : (apos.endLine == pos.line) = true := by rfl)
    (hfew : ((((backTo pos (starEach [e] j.X.env)).all fun x => !x.fst) && (backToKw pos (keywordEach [] j.X.env)).all fun x => x.fst.isSome) && decide (([e].length + ([] : List Keyword).length + if ([] : List Keyword).isEmpty = true then 0 else 1) < 30)) = true := by rfl)
    (hst : starEach [e] j.X.env = (false, eval e j.X.env) :: starEach [] j.X.env := by rfl) : SS j (.Expr (.Call (.Attribute (.Name x p1) "append" apos) [e] [] pos) pos') (sApp i ge) := by
  obtain ⟨t1, q1, k1⟩ := he
  refine ⟨_, ps_expr (pe_bm PySem.F.plainAttrs_list PySem.F.slot_list_append PySem.F.type_list_append mt_append (pe_var hN hv hd hcd) (pa_cons q1 pa_nil hst) hbase hfew hline hst) hs, fun w0 H0 w ρ m σ H E s h => ?_⟩
  unfold sApp at h
  cases ho : objAt i ρ with
  | none => rw [ho] at h; exact h.elim
  | some k =>
    rw [ho] at h
    simp only at h
    obtain ⟨a, ea, hk⟩ := s.en.obj ho
    cases hm0 : mAt k m with
    | none => rw [hm0] at h; exact h.elim
    | some ds0 =>
    rw [hm0] at h
    obtain ⟨_, vs0, h03, _⟩ := obj_at s.en.obs hk (mAt_of hm0)
    refine ⟨_, ea, ?_, ?_⟩
    · exact Or.inl ⟨rfl, _, Or.inl (Or.inl h03)⟩
    · refine k1 w ρ m σ H _ s.en (Post.thn s h fun d m1 _ v H1 s1 r h1 => ?_)
      simp only [appD] at h1
      split at h1
      · exact h1.elim
      rename_i ds hm
      split at h1
      case isFalse => exact h1.elim
      rename_i hl
      obtain ⟨h2, vs, h3, h4⟩ := obj_at s1.en.obs hk (mAt_of hm)
      have A := aft_put (us := vs ++ [v]) s1.en.tabs s1.en.obs h2 h3 (dpa_app h4 (.cons r .nil))
      exact ⟨a, vs, v, rfl, rfl, h3, by rw [dpa_len h4]; exact Nat.lt_trans hl (by decide), h1 w σ _ (s1.aft A) A.grow.ext⟩
theorem SS.setI (i : Nat) {x : Str} {kw : Nat} (o : JOk j kw) (he : SE j e ge) (hb : SE j b gb) (hN : j.X.N[i]? = some x := by rfl) (hv : Vis j.X.env.scope x := by first | exact Or.inl rfl | exact Or.inr (Or.inl rfl) | exact Or.inr (Or.inr rfl)) (hd : (x == ("__debug__" : Str)) = false := by decide)
    (hcd : (x == ("__classdict__" : Str)) = false := by decide) (hs : swapsWithSole [.Subscript (.Name x p1) b p2] e pos.line j.X.env = pure false := by rfl) (hw : swappedStores [.Subscript (.Name x p1) b p2] e j.X.env = pure none := by rfl)
    (h1 : (assignEach [.Subscript (.Name x p1) b p2] j.X.env).map (·.2) = [assign (.Subscript (.Name x p1) b p2) j.X.env] := by rfl)
    (ha : ∀ v, assign (.Subscript (.Name x p1) b p2) j.X.env v = (do
      let ov ← holding [v] (eval (.Name x p1) j.X.env)
      let iv ← holding [v, ov] (eval b j.X.env)
      standAt p2
      holding [v, ov, iv] (setItem ov iv v)
      release [v, ov, iv] []) := by intro _; rfl) : SS j (.Assign [.Subscript (.Name x p1) b p2] e pos) (sSetI i gb ge) := by
  obtain ⟨t1, q1, k1⟩ := he
  obtain ⟨t2, q2, k2⟩ := hb
  refine ⟨_, ps_asg q1 (pg_sub (pe_var hN hv hd hcd) q2 set_list ha) hs hw h1, fun w0 H0 w ρ m σ H E s h => ?_⟩
  unfold sSetI at h
  cases ho : objAt i ρ with
  | none => rw [ho] at h; exact h.elim
  | some k =>
    rw [ho] at h
    obtain ⟨a, ea, hk⟩ := s.en.obj ho
    refine k1 w ρ m σ H _ s.en (Post.thn s h fun d m1 _ v H1 s1 r h1 => ⟨_, ea, ?_⟩)
    refine k2 w ρ m1 σ H1 _ s1.en (Post.thnA s1 h1 fun n m2 _ u H2 A2 s2 r2 h2 => ?_)
    have rgrow := dp_grow A2.grow r
    cases n <;> simp only [setD] at h2 <;> try exact h2.elim
    split at h2
    · exact h2.elim
    rename_i ds hm
    split at h2
    · exact h2.elim
    rename_i l hl
    obtain ⟨h3, vs, h4, h5⟩ := obj_at s2.en.obs hk (mAt_of hm)
    cases r2
    have rg : RD j w d v H2 := by
      have e1 := s1.en.obs
      exact rgrow
    have A := aft_put (us := vs.set l v) s2.en.tabs s2.en.obs h3 h4 (dpa_set l h5 rg)
    exact ⟨a, vs, _, l, rfl, rfl, h4, by rw [dpa_len h5]; exact hl, h2 w σ _ (s2.aft A) A.grow.ext⟩
end
end DS

set_option maxRecDepth 100000
set_option maxHeartbeats 2000000
namespace DS
open PySem PySem.Spec PyProof.Rows L2 LamX NdefX

/-! ### a new mutable list; it becomes a value -/
/-- an expression that makes a new list -/
def PostN (j : J) (w : Vw) (σ : L2.St) (H : Hp) (Q : VK) : Res (List D) → Prop
  | .bad => False
  | .ok ds m => ∀ a vs H', NT H a → Grow w H H' → Tb j.T H' → H' a = some (.lst vs) → Obs j.X.K ⟨w.as, a :: w.ex⟩ m H' → RpAll j.X.K (msk ⟨w.as, a :: w.ex⟩ H') vs ds → Q (.ref a) H'
  | .exc x m => ∀ cls dd H', Aft j w m H H' → ExcIs j.X.K j.X.mg w x cls dd H' → j.W cls dd σ H'
def SN (j : J) (e : Expr) (g : DA) : Prop := ∃ t, PE j.X e t ∧ ∀ w ρ m σ H Q, En j w ρ m σ H → PostN j w σ H Q (g ρ m) → t σ H Q
def sNew (i : Nat) (a : DA) : DS := fun ρ m => (a ρ m).thn fun ds m => if i < ρ.length then .next (ρ.set i (.ow m.length)) (m ++ [some ds]) else .bad
def aLen (a : DA) : DA := fun ρ m => (a ρ m).bind fun ds m => if ds.length ≤ lineN then .ok ds m else .bad
section
variable {j : J} {e : Expr} {es : List Expr} {gs : DA} {pos pos' : Pos} {i : Nat} {x : Str}
variable {w0 w : Vw} {H0 H H1 : Hp} {ρ : List Slot} {m : Ms} {σ : L2.St}
theorem SN.lst (h : SA j es gs) : SN j (.List es pos) (aLen gs) := by
  obtain ⟨t1, p1, k1⟩ := h
  refine ⟨_, pe_lst p1, fun w ρ m σ H Q E h => ?_⟩
  unfold aLen at h
  refine k1 w ρ m σ H _ E ?_
  cases hg : gs ρ m with
  | bad => rw [hg] at h; exact h
  | exc x m1 => rw [hg] at h; exact h
  | ok ds m1 =>
    rw [hg] at h
    intro vs H1 A1 r1
    have e := dpa_len r1
    simp only [Res.bind_ok] at h
    split at h
    · rename_i hl
      refine ⟨lineN_le (by omega), fun p hp => ?_⟩
      have x := same_new (o := .lst vs) hp
      exact h p vs _ (A1.grow.there p (.of hp)) (A1.grow.trans (.of x)) (tabs_new A1.tabs hp) upd_same (obs_hide A1.obs hp) (dpa_ext (hide_ext hp) _ _ r1)
    · exact h.elim
/-- a new object is one of the own mutable lists -/
theorem obs_new {K : PySem.W.Frag} {a : Addr} {ds : List D} {vs : List V} (O : Obs K ⟨w.as, a :: w.ex⟩ m H1) (hx : a ∉ w.ex) (ha : H1 a = some (.lst vs)) (r : RpAll K (msk ⟨w.as, a :: w.ex⟩ H1) vs ds) :
    Obs K ⟨w.as ++ [some a], w.ex⟩ (m ++ [some ds]) H1 ∧ msk ⟨w.as ++ [some a], w.ex⟩ H1 = msk ⟨w.as, a :: w.ex⟩ H1 := by
  have hn : some a ∉ w.as := (O.exs a List.mem_cons_self).2
  have e : ∀ b, Hid ⟨w.as ++ [some a], w.ex⟩ b ↔ Hid ⟨w.as, a :: w.ex⟩ b := fun b => by
    unfold Hid
    simp only [List.mem_append, List.mem_singleton, List.mem_cons, Option.some.injEq, List.not_mem_nil, or_false]
    constructor
    · rintro ((h | h) | h)
      · exact .inl h
      · exact .inr (.inl h)
      · exact .inr (.inr h)
    · rintro (h | h | h)
      · exact .inl (.inl h)
      · exact .inl (.inr h)
      · exact .inr h
  have em : msk ⟨w.as ++ [some a], w.ex⟩ H1 = msk ⟨w.as, a :: w.ex⟩ H1 := by
    funext b
    unfold msk
    by_cases h : Hid ⟨w.as ++ [some a], w.ex⟩ b
    · rw [if_pos h, if_pos ((e b).mp h)]
    · rw [if_neg h, if_neg fun z => h ((e b).mpr z)]
  have hl : w.as.length = m.length := O.len
  refine ⟨⟨by simp [hl], fun k b h => ?_, fun k h => ?_, fun k l b h h' => ?_, fun b hb => ?_⟩, em⟩
  · rw [em]
    rw [List.getElem?_append] at h
    split at h
    · rename_i hlt
      obtain ⟨ds', vs', h1, h2, h3⟩ := O.at_ k b h
      exact ⟨ds', vs', by rw [List.getElem?_append_left (by rw [← hl]; exact hlt)]; exact h1, h2, h3⟩
    · rename_i hlt
      have hk0 : k = w.as.length := by
        have := (List.getElem?_eq_some_iff.mp h).1
        simp at this; omega
      subst hk0
      simp at h
      subst h
      exact ⟨ds, vs, by rw [hl]; simp, ha, r⟩
  · rw [List.getElem?_append] at h
    split at h
    · rename_i hlt
      rw [List.getElem?_append_left (by rw [← hl]; exact hlt)]
      exact O.dead k h
    · have := (List.getElem?_eq_some_iff.mp h).1
      simp at this
      have hk0 : k - w.as.length = 0 := by omega
      rw [hk0] at h; simp at h
  · rw [List.getElem?_append] at h h'
    split at h
    · split at h'
      · exact O.inj k l b h h'
      · have := (List.getElem?_eq_some_iff.mp h').1
        simp at this
        have hk0 : l - w.as.length = 0 := by omega
        rw [hk0] at h'; simp at h'
        subst h'
        exact absurd (List.mem_of_getElem? h) hn
    · have := (List.getElem?_eq_some_iff.mp h).1
      simp at this
      have hk0 : k - w.as.length = 0 := by omega
      rw [hk0] at h; simp at h
      subst h
      split at h'
      · exact absurd (List.mem_of_getElem? h') hn
      · have := (List.getElem?_eq_some_iff.mp h').1
        simp at this
        omega
  · obtain ⟨h1, h2⟩ := O.exs b (List.mem_cons_of_mem _ hb)
    refine ⟨h1, fun z => ?_⟩
    rcases List.mem_append.mp z with z | z
    · exact h2 z
    · simp at z; subst z; exact hx hb
/-- nothing that stood ahead of H' leans on the new list at a -/
theorem rp_hide {K : PySem.W.Frag} {H' : Hp} {a : Addr} (g : Grow w H H') (ha : NT H a) : ExtN (msk w H) (msk ⟨w.as, a :: w.ex⟩ H') := fun b o h n => by
  obtain ⟨h1, h2⟩ := of_msk h
  have hb : b ≠ a := ha.ne h1 n
  refine msk_of (g.keep b o h1 n fun z => h2 (.inl z)) fun z => ?_
  rcases z with z | z
  · exact h2 (.inl z)
  · rcases List.mem_cons.mp z with z | z
    · exact hb z
    · exact h2 (.inr z)
theorem st_new {a : Addr} {ds : List D} {vs : List V} {m1 : Ms} {H' : Hp} (s : StE j w0 H0 w ρ m σ H) (hi : i < ρ.length) (hn : NT H a) (g : Grow w H H') (T : Tb j.T H') (ha : H' a = some (.lst vs)) (O : Obs j.X.K ⟨w.as, a :: w.ex⟩ m1 H') (r : RpAll j.X.K (msk ⟨w.as, a :: w.ex⟩ H') vs ds) :
    StE j w0 H0 ⟨w.as ++ [some a], w.ex⟩ (ρ.set i (.ow m1.length)) (m1 ++ [some ds]) (σ.set i (some (.ref a))) H' ∧ ExtN (msk w H) (msk ⟨w.as ++ [some a], w.ex⟩ H') := by
  have hx : a ∉ w.ex := fun z => by
    obtain ⟨⟨o, h, hno⟩, _⟩ := s.en.obs.exs a z
    exact hn.ne h hno rfl
  obtain ⟨O', em⟩ := obs_new O hx ha r
  have ext : ExtN (msk w H) (msk ⟨w.as ++ [some a], w.ex⟩ H') := by
    rw [em]; exact rp_hide (K := j.X.K) g hn
  have hl : w.as.length = m1.length := O.len
  refine ⟨⟨⟨T, O', by rw [List.length_set, List.length_set]; exact s.en.len, fun k x hx => ?_, fun p hp => (s.en.bs p hp).trans ext⟩, s.ex, ?_, ?_, fun k b hk hb => ?_, fun k l hk => ?_⟩, ext⟩
  · rw [List.getElem?_set] at hx ⊢
    by_cases e : i = k
    · subst e
      rw [if_pos rfl, if_pos hi] at hx
      cases hx
      rw [if_pos rfl, if_pos (by rw [← s.en.len]; exact hi)]
      exact ⟨a, rfl, .inl (by rw [← hl]; simp)⟩
    · rw [if_neg e] at hx ⊢
      refine (s.en.sl k x hx).ext ext fun l o hz => .inl ?_
      rw [List.getElem?_append_left (List.getElem?_eq_some_iff.mp hz).1]; exact hz
  · show (w.as ++ [some a]).take w0.as.length = w0.as
    rw [List.take_append_of_le_length s.len]; exact s.pre
  · refine ⟨fun b o hb n z => ?_, fun b hb => s.grow.there b (g.there b hb)⟩
    have h1 := s.grow.keep b o hb n z
    refine g.keep b o h1 n fun q => ?_
    obtain ⟨k, hk⟩ := List.getElem?_of_mem q
    by_cases hlk : w0.as.length ≤ k
    · exact (s.new k b hlk hk).ne hb n rfl
    · refine z ?_
      have e : w0.as[k]? = some (some b) := by
        rw [← s.pre, List.getElem?_take_of_lt (by omega)]; exact hk
      exact List.mem_of_getElem? e
  · have hb : (w.as ++ [some a])[k]? = some (some b) := hb
    rw [List.getElem?_append] at hb
    split at hb
    · exact s.new k b hk hb
    · have := (List.getElem?_eq_some_iff.mp hb).1
      simp at this
      have hk0 : k - w.as.length = 0 := by omega
      rw [hk0] at hb; simp at hb; subst hb
      exact s.grow.there a hn
  · rw [List.getElem?_set] at hk
    split at hk
    · first | (split at hk; (cases hk; rw [← hl]; exact s.len); cases hk) | (cases hk; rw [← hl]; exact s.len)
    · exact s.own k l hk
theorem SS.new {kk : Nat} (o : JOk j kk) (he : SN j e gs) (hi : j.X.N[i]? = some x := by rfl) (hx : Loc j.X.env.scope x := by first | exact Or.inl rfl | exact Or.inr rfl) (hs : swapsWith e (some (.Name x pos')) pos.line j.X.env = pure false := by rfl)
    (hf : j.X.fn x = true ∨ j.X.env.scope.names.lookup x = some .local := by first | exact .inl rfl | exact .inr rfl) : SS j (.Assign [.Name x pos'] e pos) (sNew i gs) := by
  obtain ⟨t1, p1, k1⟩ := he
  refine ⟨_, ps_set o.nd hi hx p1 hs hf, fun w0 H0 w ρ m σ H E s h => ?_⟩
  refine k1 w ρ m σ H _ s.en ?_
  unfold sNew at h
  cases hg : gs ρ m with
  | bad => rw [hg] at h; exact h
  | exc x m1 =>
    rw [hg] at h
    exact fun cls dd H1 a e => h cls dd σ H1 (s.aft a).fin (ExcIs.unhide (s.aft a) e)
  | ok ds m1 =>
    rw [hg] at h
    simp only [Res.thn_ok] at h
    split at h
    · rename_i hlt
      intro a vs H' hn g T ha O r
      obtain ⟨s', e'⟩ := st_new s hlt hn g T ha O r
      exact h _ _ _ s' e'
    · exact h.elim
/-- from here on an own mutable list is a value (it changes no more) -/
def sFrz (i : Nat) (g : DS) : DS := fun ρ m => match ρ[i]? with
  | some (.ow k) => match mAt k m with
    | some ds => g (ρ.set i (.v (.list ds))) (m.set k none)
    | none => .bad
  | _ => .bad
theorem frz_st {k : Nat} {ds : List D} (s : StE j w0 H0 w ρ m σ H) (hi : ρ[i]? = some (.ow k)) (hm : mAt k m = some ds) : ∃ w', StE j w0 H0 w' (ρ.set i (.v (.list ds))) (m.set k none) σ H ∧ ExtN (msk w H) (msk w' H) := by
  obtain ⟨a, ea, hk⟩ := s.en.sl i _ hi
  obtain ⟨h1, vs, h2, h3⟩ := obj_at s.en.obs hk (mAt_of hm)
  have hil := (List.getElem?_eq_some_iff.mp hi).1
  have hkl := (List.getElem?_eq_some_iff.mp h1).1
  have O := s.en.obs
  have hle := s.own i k hi
  let w' : Vw := ⟨w.as.set k none, w.ex⟩
  have hid : ∀ b, Hid w' b → Hid w b := fun b z => by
    rcases z with z | z
    · obtain ⟨l, hl⟩ := List.getElem?_of_mem z
      have hl : (w.as.set k none)[l]? = some (some b) := hl
      rw [List.getElem?_set] at hl
      split at hl
      · first | (split at hl <;> cases hl) | cases hl
      · exact .inl (List.mem_of_getElem? hl)
    · exact .inr z
  have nh : ¬ Hid w' a := fun z => by
    rcases z with z | z
    · obtain ⟨l, hl⟩ := List.getElem?_of_mem z
      have hl : (w.as.set k none)[l]? = some (some a) := hl
      rw [List.getElem?_set] at hl
      split at hl
      · first | (split at hl <;> cases hl) | cases hl
      · rename_i ne
        exact ne (O.inj l k a hl h1).symm
    · exact (O.exs a z).2 (List.mem_of_getElem? h1)
  have ext : ExtN (msk w H) (msk w' H) := fun b o h n => by
    obtain ⟨q1, q2⟩ := of_msk h
    exact msk_of q1 fun z => q2 (hid b z)
  refine ⟨w', ⟨⟨s.en.tabs, ⟨?_, fun l b hb => ?_, fun l hl => ?_, fun l l' b hb hb' => ?_, fun b hb => ?_⟩, by rw [List.length_set]; exact s.en.len, fun l x hx => ?_, fun p hp => (s.en.bs p hp).trans ext⟩, s.ex, ?_, s.grow, fun l b hl hb => ?_, fun l l' hl => ow_frz hl⟩, ext⟩
  · show (w.as.set k none).length = (m.set k none).length
    rw [List.length_set, List.length_set]; exact O.len
  · have hb : (w.as.set k none)[l]? = some (some b) := hb
    rw [List.getElem?_set] at hb
    split at hb
    · first | (split at hb <;> cases hb) | cases hb
    · rename_i ne
      obtain ⟨ds', vs', q1, q2, q3⟩ := O.at_ l b hb
      exact ⟨ds', vs', by rw [List.getElem?_set_ne ne]; exact q1, q2, dpa_ext ext _ _ q3⟩
  · have hl : (w.as.set k none)[l]? = some none := hl
    rw [List.getElem?_set] at hl ⊢
    split at hl
    · rename_i e
      subst e
      rw [if_pos rfl, if_pos (by rw [← O.len]; exact hkl)]
    · rename_i ne
      rw [if_neg ne]
      exact O.dead l hl
  · have hb : (w.as.set k none)[l]? = some (some b) := hb
    have hb' : (w.as.set k none)[l']? = some (some b) := hb'
    rw [List.getElem?_set] at hb hb'
    split at hb
    · first | (split at hb <;> cases hb) | cases hb
    · split at hb'
      · first | (split at hb' <;> cases hb') | cases hb'
      · exact O.inj l l' b hb hb'
  · obtain ⟨q1, q2⟩ := O.exs b hb
    refine ⟨q1, fun z => ?_⟩
    obtain ⟨l, hl⟩ := List.getElem?_of_mem z
    have hl : (w.as.set k none)[l]? = some (some b) := hl
    rw [List.getElem?_set] at hl
    split at hl
    · first | (split at hl <;> cases hl) | cases hl
    · exact q2 (List.mem_of_getElem? hl)
  · rw [List.getElem?_set] at hx
    split at hx
    · rename_i e
      subst e
      cases hx
      exact ⟨_, ea, .lst (.inl (.inl (msk_of h2 nh))) (dpa_ext ext _ _ h3)⟩
    · refine (s.en.sl l x hx).ext ext fun n o hz => ?_
      by_cases e : k = n
      · subst e
        exact .inr (by show (w.as.set k none)[k]? = _; rw [List.getElem?_set_self hkl])
      · exact .inl (by show (w.as.set k none)[n]? = _; rw [List.getElem?_set_ne e]; exact hz)
  · show (w.as.set k none).take w0.as.length = w0.as
    rw [List.take_set_of_le hle]; exact s.pre
  · have hb : (w.as.set k none)[l]? = some (some b) := hb
    rw [List.getElem?_set] at hb
    split at hb
    · first | (split at hb <;> cases hb) | cases hb
    · exact s.new l b hl hb
  where ow_frz {ds : List D} {l l' : Nat} (h : (ρ.set i (Slot.v (.list ds)))[l]? = some (.ow l')) : w0.as.length ≤ l' := s.own l l' (ow_set h)
theorem SSs.frz {sts : List Stmt} {g : DS} (i : Nat) (h : SSs j sts g) : SSs j sts (sFrz i g) := by
  obtain ⟨t1, p1, k1⟩ := h
  refine ⟨_, p1, fun w0 H0 w ρ m σ H E s h => ?_⟩
  unfold sFrz at h
  split at h
  · rename_i k hi
    split at h
    · rename_i ds hm
      obtain ⟨w', s', e'⟩ := frz_st s hi hm
      exact k1 w0 H0 w' _ _ σ H E s' (PostS.at h e')
    · exact h.elim
  · exact h.elim
/-- x[n], y = e -/
def subD (k : Nat) (n : Int) (l : Nat) (d : D) (ρ : List Slot) (m : Ms) : SR := match d with
  | .tuple [a, b] => match mAt k m with
    | none => .bad
    | some ds => match ixN ds.length n with
      | none => .bad
      | some i => if l < ρ.length then .next (ρ.set l (.v b)) (m.set k (some (ds.set i a))) else .bad
  | _ => .bad
def sSubN (i : Nat) (n : Int) (l : Nat) (ge : DE) : DS := fun ρ m => match objAt i ρ with
  | none => .bad
  | some k => (ge ρ m).thn fun d m => subD k n l d ρ m
theorem SS.subN {ge : DE} {kk : Nat} {n : Int} {l kt kc : Nat} {y : Str} {p1 p2 p3 p4 p5 : Pos} (i : Nat) (o : JOk j kk) (he : SE j e ge) (hN : j.X.N[i]? = some x := by rfl) (hv : Vis j.X.env.scope x := by first | exact Or.inl rfl | exact Or.inr (Or.inl rfl) | exact Or.inr (Or.inr rfl)) (hd : (x == ("__debug__" : Str)) = false := by decide)
    (hcd : (x == ("__classdict__" : Str)) = false := by decide) (hl : j.X.N[l]? = some y := by rfl) (hy : Loc j.X.env.scope y := by first | exact Or.inl rfl | exact Or.inr rfl) (hf : j.X.fn y = true ∨ j.X.env.scope.names.lookup y = some .local := by first | exact .inl rfl | exact .inr rfl)
    (hs : swapsWithSole [.Tuple [.Subscript (.Name x p1) (.Constant (.int n) kc p2) p3, .Name y p4] kt p5] e pos.line j.X.env = pure false := by rfl) (hw : swappedStores [.Tuple [.Subscript (.Name x p1) (.Constant (.int n) kc p2) p3, .Name y p4] kt p5] e j.X.env = pure none := by rfl)
    (h1 : (assignEach [.Tuple [.Subscript (.Name x p1) (.Constant (.int n) kc p2) p3, .Name y p4] kt p5] j.X.env).map (·.2) = [assign (.Tuple [.Subscript (.Name x p1) (.Constant (.int n) kc p2) p3, .Name y p4] kt p5) j.X.env] := by rfl)
    (hn2 : (assignEach [.Subscript (.Name x p1) (.Constant (.int n) kc p2) p3, .Name y p4] j.X.env).length = 2 := by rfl) (hst : (assignEach [.Subscript (.Name x p1) (.Constant (.int n) kc p2) p3, .Name y p4] j.X.env).findIdx? (·.1) = none := by rfl)
    (hq1 : (assignEach [.Subscript (.Name x p1) (.Constant (.int n) kc p2) p3, .Name y p4] j.X.env).map (·.2) = assign (.Subscript (.Name x p1) (.Constant (.int n) kc p2) p3) j.X.env :: (assignEach [.Name y p4] j.X.env).map (·.2) := by rfl)
    (hq2 : (assignEach [.Name y p4] j.X.env).map (·.2) = assign (.Name y p4) j.X.env :: (assignEach [] j.X.env).map (·.2) := by rfl)
    (ha : ∀ v, assign (.Subscript (.Name x p1) (.Constant (.int n) kc p2) p3) j.X.env v = (do
      let ov ← holding [v] (eval (.Name x p1) j.X.env)
      let iv ← holding [v, ov] (eval (.Constant (.int n) kc p2) j.X.env)
      standAt p3
      holding [v, ov, iv] (setItem ov iv v)
      release [v, ov, iv] []) := by intro _; rfl) :
    SS j (.Assign [.Tuple [.Subscript (.Name x p1) (.Constant (.int n) kc p2) p3, .Name y p4] kt p5] e pos) (sSubN i n l ge) := by
  obtain ⟨t1, q1, k1⟩ := he
  refine ⟨_, ps_asg q1 (pg_tup o.calm (pgs_cons (pg_sub (pe_var hN hv hd hcd) pe_int set_list ha) (pgs_cons (pg_name o.nd hl hy hf) pgs_nil hq2) hq1) hn2 hst) hs hw h1, fun w0 H0 w ρ m σ H E s h => ?_⟩
  unfold sSubN at h
  cases ho : objAt i ρ with
  | none => rw [ho] at h; exact h.elim
  | some k =>
    rw [ho] at h
    obtain ⟨a, ea, hk⟩ := s.en.obj ho
    refine k1 w ρ m σ H _ s.en (Post.thn s h fun d m1 _ v H1 s1 r h1 => ?_)
    unfold subD at h1
    split at h1
    case h_2 => exact h1.elim
    rename_i d1 d2
    split at h1
    · exact h1.elim
    rename_i ds hm
    split at h1
    · exact h1.elim
    rename_i ii hii
    split at h1
    case isFalse => exact h1.elim
    rename_i hll
    obtain ⟨h3, vs, h4, h5⟩ := obj_at s1.en.obs hk (mAt_of hm)
    cases r with
    | tup r1 r2 =>
      obtain ⟨v1, v2, rfl, r3, r4⟩ := ra2' r2
      have A := aft_put (us := vs.set ii v1) s1.en.tabs s1.en.obs h3 h4 (dpa_set ii h5 r3)
      refine ⟨_, _, rfl, sqt_unmsk r1, rfl, v1, [v2], rfl, .ref a, ea, a, vs, n, ii, rfl, rfl, h4, by rw [dpa_len h5]; exact hii, v2, [], rfl, rfl, ?_⟩
      have s2 := s1.aft A
      exact h1 w _ _ (s2.stored (w1 := w) (s2.en.set hll (dp_grow A.grow r4)) fun i k h => ow_set h) A.grow.ext
end
end DS

set_option maxRecDepth 100000
set_option maxHeartbeats 2000000
namespace DS
open PySem PySem.Spec PyProof.Rows L2 LamX NdefX

/-! ### closures handed to own defs -/
/-- what stood there stays, the frames at Fr aside -/
def Later (Fr : List Addr) (s : Shared) (H : Hp) (s1 : Shared) (H1 : Hp) : Prop := ∀ b o, s.heap.get? b = some o → H b = none → b ∉ Fr → s1.heap.get? b = some o ∧ H1 b = none
/-- the function at f, made at s, H (what it captured: told in wc, Hc), answers as G tells -/
structure ClAt (P : Program) (w : World) (K : PySem.W.Frag) (mg : Str → Option Value) (base : Heap) (T : List (Addr × Str)) (k n : Nat) (f : Addr) (fx : List (Addr × HO)) (wc : Vw) (Hc : Hp) (G : FnSem) (Fr : List Addr) (s : Shared) (H : Hp) : Prop where
  fn : ∀ s1 H1, Later Fr s H s1 H1 → PySem.W.FnAt f s1.heap
  run : ∀ (A : Around) (outer : List PySem.Env) (s1 : Shared) (H1 : Hp) (us : List Value) (vs : List V) (Q : VK) (E : XK) (v : Vw) (m : Ms) (args : List Slot), Room k A → A.guards = some [] → Env0 P w K mg base A outer s1 H1 → Later Fr s H s1 H1 → (∀ p ∈ fx, H1 p.1 = some p.2) → Vals vs us →
    Tabs T H1 → Obs K v m H1 → args.length = n → ArgsOk K v H1 args vs → ExtN (msk wc Hc) (msk v H1) → PostF K T mg v H1 Q E (G args m) → codeAny (model P w) A (.call (.ref f) ⟨us, []⟩) (CR (L2.CX P w) outer P w H1 s1 Q E) s1
section
variable {X : Cx} {pins : List (Addr × Obj)} {σ : L2.St} {H : Hp} {s : Shared}
theorem later_inv (I : Inv X pins σ H s) (hx : X.ex = []) : Later X.fs X.s_0 X.H_0 s H := fun b o e n hb =>
  ⟨I.base.keep b o e n hb (by rw [hx]; simp), I.base.free b o e n (by rw [hx]; simp)⟩
theorem later_pass (I : Inv X pins σ H s) (hx : X.ex = []) {s2 : Shared} {H2 : Hp} (l : Later (frs X.stack) s H s2 H2) : Later X.fs X.s_0 X.H_0 s2 H2 := fun b o e n hb => by
  obtain ⟨h1, h2⟩ := later_inv I hx b o e n hb
  refine l b o h1 h2 fun z => ?_
  rcases List.mem_cons.mp (I.stkSub b z) with z | z
  · have q := Nat.lt_of_lt_of_le (Heap.lt_size e) I.ok.above
    rw [z] at q
    exact Nat.lt_irrefl _ q
  · exact hb z
theorem ClAt.pass {P : Program} {w : World} {K : PySem.W.Frag} {mg : Str → Option Value} {base : Heap} {T : List (Addr × Str)} {k n : Nat} {f : Addr} {fx : List (Addr × HO)} {wc : Vw} {Hc : Hp} {G : FnSem} (c : ClAt P w K mg base T k n f fx wc Hc G X.fs X.s_0 X.H_0) (I : Inv X pins σ H s) (hx : X.ex = []) :
    ClAt P w K mg base T k n f fx wc Hc G (frs X.stack) s H :=
  ⟨fun s1 H1 l => c.fn s1 H1 (later_pass I hx l), fun A outer s1 H1 us vs Q E v m args hr hgd e0 l => c.run A outer s1 H1 us vs Q E v m args hr hgd e0 (later_pass I hx l)⟩
end
/-- the closure l that was handed in -/
structure ClX (j : J) (l k n : Nat) (G : FnSem) : Prop where
  ex : ∃ f fx p, j.fs[l]? = some f ∧ (∀ q ∈ fx, q ∈ j.T.fx) ∧ p ∈ j.bs ∧ ClAt j.X.prog j.X.w j.X.K j.X.mg j.X.base j.T.tabs k n f fx p.1 p.2 G j.X.fs j.X.s_0 j.X.H_0
  nex : j.X.ex = []
def fnAtS (i l : Nat) (ρ : List Slot) : Bool := match ρ[i]? with
  | some (.fn l') => l' == l
  | _ => false
def eCallC (i l : Nat) (G : FnSem) (a : DXs) : DE := fun ρ m => if fnAtS i l ρ = true then (a ρ m).bind fun xs m => G xs m else .bad
theorem fnAt_slot {j : J} {w : Vw} {ρ : List Slot} {m : Ms} {σ : L2.St} {H : Hp} (E : En j w ρ m σ H) {i l : Nat} (h : fnAtS i l ρ = true) : ∃ a, σ[i]? = some (some (.ref a)) ∧ j.fs[l]? = some a := by
  unfold fnAtS at h
  split at h
  · rename_i l' e
    obtain rfl : l' = l := by simpa using h
    exact E.sl i _ e
  · cases h
section
variable {j : J} {k kc n l : Nat} {G : FnSem} {e : Expr} {es : List Expr} {gs : DXs} {x : Str} {p pos : Pos}
theorem SE.callC (i : Nat) (c : ClX j l kc n G) (o : JOk j k) (hk : kc ≤ k) (ha : SXs j (e :: es) gs) (hl : (e :: es).length = n := by rfl) (hN : j.X.N[i]? = some x := by rfl) (hv : Vis j.X.env.scope x := by first | exact Or.inl rfl | exact Or.inr (Or.inl rfl) | exact Or.inr (Or.inr rfl))
    (hd : (x == ("__debug__" : Str)) = false := by decide) (hcd : (x == ("__classdict__" : Str)) = false := by decide) (he : starEach (e :: es) j.X.env = (false, eval e j.X.env) :: starEach es j.X.env := by rfl) (hpl : (backTo pos (starEach es j.X.env)).any (·.1) = false := by rfl) :
    SE j (.Call (.Name x p) (e :: es) [] pos) (eCallC i l G gs) := by
  obtain ⟨⟨f, fx, bp, hf, hfx, hbp, cl⟩, hex⟩ := c
  obtain ⟨ln, t1, p1, k1⟩ := ha
  refine ⟨fun σ H Q => σ[i]? = some (some (.ref f)) ∧ t1 σ H fun vs H1 => ∃ (v : Vw) (m : Ms) (args : List Slot), (∀ p ∈ fx, H1 p.1 = some p.2) ∧ Tabs j.T.tabs H1 ∧ Obs j.X.K v m H1 ∧ args.length = n ∧ ArgsOk j.X.K v H1 args vs ∧ ExtN (msk bp.1 bp.2) (msk v H1) ∧ PostF j.X.K j.T.tabs j.X.mg v H1 Q (WE j.W σ) (G args m),
    ⟨fun pins s σ H Q I h => ?_⟩, fun w ρ m σ H Q E h => ?_⟩
  · obtain ⟨hs, h⟩ := h
    refine wpAny_Call_Name_kw (thn ((pe_var (pos := p) hN hv hd hcd).run pins s σ H (fun v H1 => v = .ref f ∧ H1 = H) I ⟨.ref f, hs, rfl, rfl⟩) fun u s1 ⟨v, H1, I1, r1, q1⟩ => ?_)
    obtain ⟨ev, eH⟩ := q1
    subst ev
    rw [eH] at I1
    obtain rfl : u = Value.ref f := r1
    refine PySem.W.callWith_F (first := []) (cl.fn _ _ (later_inv I1 hex)) (thn (p1.run pos pins s1 σ H _ I1 h) fun us s2 ⟨vs, H2, I2, r, hq⟩ => ⟨cl.fn _ _ (later_inv I2 hex), ?_⟩) he hpl
    obtain ⟨v, m, args, q1, q2, q3, q4, q5, q6, q7⟩ := hq
    refine wpAny_call (codeAny_mono (cl.run j.X.A j.X.stack s2 H2 us vs Q (WE j.W σ) v m args (o.hr.mono hk) o.gd I2.env0 (later_inv I2 hex) q1 r q2 q3 q4 q5 q6 q7) fun r s' hq => ?_)
    cases r with
    | error e => exact passAt o.tk σ pins H2 s2 e s' I2 hq
    | ok fl =>
      cases fl with
      | ret u => exact I2.after hq
      | next => exact False.elim hq
      | brk => exact False.elim hq
      | cont => exact False.elim hq
  · unfold eCallC at h
    split at h
    case isFalse => exact h.elim
    rename_i hs
    obtain ⟨a, e1, e2⟩ := fnAt_slot E hs
    rw [hf] at e2; cases e2
    refine ⟨e1, k1 w ρ m σ H _ E (Post.bind h fun xs m1 hx vs H1 A1 r1 h1 => ?_)⟩
    exact ⟨w, m1, xs, fun p hp => (A1.tabs.fx p (hfx p hp)).1, A1.tabs.tabs, A1.obs, (ln _ _ _ _ hx).trans hl, r1, (E.step A1).bs bp hbp, post_F A1.tabs A1.obs h1⟩
end

/-! ### defs that are handed a closure, last -/
def fnDH (N : Nat) (body : FnSem → DS) (G : FnSem) : FnSem := fun args m => match body G (args ++ .fn 0 :: List.replicate (N - args.length - 1) .un) m with
  | .ret d m' => .ok d (m'.take m.length)
  | .next _ m' => .ok .none (m'.take m.length)
  | .exc x m' => .exc x (m'.take m.length)
  | _ => .bad
abbrev J.fnH (P : Program) (w : World) (K : PySem.W.Frag) (mg : Str → Option Value) (base : Heap) (T : List (Addr × Str)) (N : List Str) (qual : Str) (sc : Scope) (f : Addr) (cdv : Value) (A : Around) (outer : List PySem.Env) (s : Shared) (H : Hp) (E : XK) (cf : Addr) (cfx : List (Addr × HO)) (bp : Vw × Hp) : J :=
  ⟨cxOf (L2.CX P w) P w K mg base N qual sc f cdv A outer s H E, ⟨T, cfx⟩, [cf], [bp], fun cls dd _ H => E cls dd H⟩
/-- its promise: called with a closure -/
structure FnH (P : Program) (w : World) (K : PySem.W.Frag) (mg : Str → Option Value) (base : Heap) (T : List (Addr × Str)) (k : Nat) (x : Str) (ps : List Str) (kc n : Nat) (F : FnSem → FnSem) : Prop where
  ex : ∃ f fd, mg x = some (.ref f) ∧ PySem.W.keepIn K (.ref f) = true ∧ (∀ (s : Shared) (us : List Value), K.In s.heap → us.length = ps.length → BindsTo s fd ⟨us, []⟩ (ps.zip us)) ∧
    ∀ (A : Around) (outer : List PySem.Env) (s : Shared) (H : Hp) (us : List Value) (vs : List V) (Q : VK) (E : XK) (cf : Addr) (cfx : List (Addr × HO)) (bp : Vw × Hp) (G : FnSem) (v : Vw) (m : Ms) (args : List Slot), Room k A → A.guards = some [] → Env0 P w K mg base A outer s H → BindsTo s fd ⟨us, []⟩ (ps.zip us) → Vals (vs ++ [.ref cf]) us →
      ClAt P w K mg base T kc n cf cfx bp.1 bp.2 G (frs outer) s H → (∀ p ∈ cfx, H p.1 = some p.2 ∧ ∃ φ, p.2 = .ext φ) → ExtN (msk bp.1 bp.2) (msk v H) → Tabs T H → Obs K v m H → args.length + 1 = ps.length → ArgsOk K v H args vs → PostF K T mg v H Q E (F G args m) →
      codeAny (model P w) A (.call (.ref f) ⟨us, []⟩) (CR (L2.CX P w) outer P w H s Q E) s
section
variable {P : Program} {w : World} {K : PySem.W.Frag} {mg : Str → Option Value} {base : Heap}
theorem fnH_body {x qual : Str} {st : Stmt} {f : Addr} {fd : FuncData} {N ps : List Str} {k kc n : Nat} {T : List (Addr × Str)} {g : FnSem → DS} (F : Fun K x qual st f fd) (hm : mg x = some (.ref f)) (S : FnScope N ps (defScope st))
    (hb : ∀ (s : Shared) (us : List Value), K.In s.heap → us.length = ps.length → BindsTo s fd ⟨us, []⟩ (ps.zip us))
    (hbody : ∀ (cdv : Value), fd.code = cdv → ∀ (A : Around) (outer : List PySem.Env) (s : Shared) (H : Hp) (E : XK) (cf : Addr) (cfx : List (Addr × HO)) (bp : Vw × Hp) (G : FnSem), JOk (J.fnH P w K mg base T N qual (defScope st) f cdv A outer s H E cf cfx bp) k → ClX (J.fnH P w K mg base T N qual (defScope st) f cdv A outer s H E cf cfx bp) 0 kc n G →
      SSs (J.fnH P w K mg base T N qual (defScope st) f cdv A outer s H E cf cfx bp) (defBody st) (g G)) :
    FnH P w K mg base T (k + 1) x ps kc n (fnDH N.length g) := by
  refine ⟨f, fd, hm, F.kp, hb, fun A outer s H us vs Q E cf cfx bp G v m args hr hgd e0 hbd r cl hfx hxt ht ho hl ha h => ?_⟩
  obtain ⟨oc, od, kV, doc, pm, an, cdv, ct, osl, rfl, lk, hcd⟩ := F.ex
  have hal := ha.len
  have hlv : (vs ++ [V.ref cf]).length = ps.length := by rw [List.length_append, hal]; exact hl
  refine run_ofS (CX := L2.CX P w) lk hcd S hr e0 hbd r hlv fun hr' => ?_
  let j := J.fnH P w K mg base T N qual (defScope st) f cdv A outer s H E cf cfx bp
  have jo : JOk j k := ⟨hr', S.nd, rfl, takes_of rfl rfl rfl rfl, passes_of rfl, hgd⟩
  have cx : ClX j 0 kc n G := ⟨⟨cf, cfx, bp, rfl, fun q hq => hq, List.mem_singleton.mpr rfl, cl⟩, rfl⟩
  obtain ⟨t, pt, kt⟩ := hbody cdv rfl A outer s H E cf cfx bp G jo cx
  refine ⟨t, pt, ?_⟩
  have nle : ps.length ≤ N.length := by
    have := congrArg List.length S.pre
    rw [List.length_take] at this
    omega
  have en : En j v (args ++ .fn 0 :: List.replicate (N.length - args.length - 1) .un) m (L2.start N (vs ++ [V.ref cf])) H := by
    refine ⟨⟨ht, hfx⟩, ho, ?_, fun i y hy => ?_, fun p hp => ?_⟩
    · unfold L2.start
      simp only [List.length_append, List.length_replicate, List.length_map, List.length_cons, List.length_nil]
      omega
    · rw [List.getElem?_append] at hy
      split at hy
      · rename_i hi
        obtain ⟨u, e1, _, e2⟩ := ha.get i y hy
        have e3 : (L2.start N (vs ++ [V.ref cf]))[i]? = some (some u) := by
          unfold L2.start
          rw [List.getElem?_append_left (by simp; omega), List.getElem?_map, List.getElem?_append_left (by omega), e1]; rfl
        rw [e3]
        cases y with
        | un => trivial
        | v d => exact e2
        | ob k => exact e2
        | ow k => exact e2
        | fn l => obtain ⟨_, _, z⟩ := e2; cases z
        | os ks => exact e2
      · rename_i hi
        have hia : i - args.length = 0 ∨ ∃ q, i - args.length = q + 1 := by
          cases i - args.length with
          | zero => exact .inl rfl
          | succ q => exact .inr ⟨q, rfl⟩
        rcases hia with hz | ⟨q, hz⟩
        · rw [hz] at hy
          simp at hy
          subst hy
          have hie : i = vs.length := by omega
          refine ⟨cf, ?_, rfl⟩
          unfold L2.start
          rw [List.getElem?_append_left (by simp; omega), List.getElem?_map, hie]
          simp
        · rw [hz] at hy
          rw [List.getElem?_cons_succ, List.getElem?_replicate] at hy
          split at hy
          · cases hy; trivial
          · cases hy
    · have hp : p ∈ [bp] := hp
      rw [List.mem_singleton.mp hp]
      exact hxt
  have se : StE j v H v (args ++ .fn 0 :: List.replicate (N.length - args.length - 1) .un) m (L2.start N (vs ++ [V.ref cf])) H := by
    refine ⟨en, rfl, List.take_length, .refl _ _, fun k a q1 q2 => ?_, fun i k q => ?_⟩
    · have := (List.getElem?_eq_some_iff.mp q2).1
      omega
    · exfalso
      rw [List.getElem?_append] at q
      split at q
      · obtain ⟨_, _, e1, _⟩ := ha.get i _ q
        cases e1
      · cases hz : i - args.length with
        | zero => rw [hz] at q; simp at q
        | succ z =>
          rw [hz, List.getElem?_cons_succ, List.getElem?_replicate] at q
          split at q <;> cases q
  have hle : v.as.length = m.length := ho.len
  refine kt v H v _ m _ H _ se ?_
  unfold fnDH at h
  cases hb : g G (args ++ .fn 0 :: List.replicate (N.length - args.length - 1) .un) m with
  | bad => rw [hb] at h; exact h.elim
  | brk ρ' m' => rw [hb] at h; exact h.elim
  | cont ρ' m' => rw [hb] at h; exact h.elim
  | next ρ' m' =>
    rw [hb] at h
    exact fun w1 σ1 H1 s1 _ => let q := s1.fin; h .non H1 q.grow q.tabs.tabs (by rw [← hle]; exact q.obs) .non
  | ret d m' =>
    rw [hb] at h
    exact fun u H1 q r => h u H1 q.grow q.tabs.tabs (by rw [← hle]; exact q.obs) r
  | exc x m' =>
    rw [hb] at h
    exact fun cls dd σ1 H1 q r => h cls dd H1 q.grow q.tabs.tabs (by rw [← hle]; exact q.obs) r
end
end DS

set_option maxRecDepth 100000
set_option maxHeartbeats 2000000
namespace DS
open PySem PySem.Spec PyProof.Rows L2 LamX NdefX

/-! ### handing a closure on -/
/-- arguments of which the last is the closure l, in slot i -/
def SHs (j : J) (i l : Nat) (es : List Expr) (cf : Addr) (g : DXs) : Prop := LenIs g (es.length - 1) ∧ es ≠ [] ∧ ∃ t, PA j.X es t ∧ ∀ w ρ m σ H Q, En j w ρ m σ H → fnAtS i l ρ = true → Post j w σ H (fun args vs H' => ∃ us, vs = us ++ [.ref cf] ∧ ArgsOk j.X.K w H' args us) Q (g ρ m) → t σ H Q
section
variable {j : J} {k kc n i l : Nat} {G : FnSem} {e : Expr} {es : List Expr} {gx : DX} {gs : DXs} {x y : Str} {p p1 pos : Pos} {cf : Addr}
theorem SHs.last (i l : Nat) (hf : j.fs[l]? = some cf) (hN : j.X.N[i]? = some y := by rfl) (hv : Vis j.X.env.scope y := by first | exact Or.inl rfl | exact Or.inr (Or.inl rfl) | exact Or.inr (Or.inr rfl)) (hd : (y == ("__debug__" : Str)) = false := by decide)
    (hcd : (y == ("__classdict__" : Str)) = false := by decide) (hs : starEach [.Name y p1] j.X.env = (false, eval (.Name y p1) j.X.env) :: starEach [] j.X.env := by rfl) : SHs j i l [.Name y p1] cf xNil := by
  refine ⟨.nil, by simp, _, pa_cons (pe_var hN hv hd hcd) pa_nil hs, fun w ρ m σ H Q E hfn h => ?_⟩
  obtain ⟨a, e1, e2⟩ := fnAt_slot E hfn
  rw [hf] at e2; cases e2
  exact ⟨_, e1, h [.ref cf] H E.aft ⟨[], rfl, trivial⟩⟩
theorem SHs.cons (ha : SX j e gx) (hr : SHs j i l es cf gs) (hs : starEach (e :: es) j.X.env = (false, eval e j.X.env) :: starEach es j.X.env := by rfl) : SHs j i l (e :: es) cf (xCons gx gs) := by
  obtain ⟨t1, p1, k1⟩ := ha
  obtain ⟨ln, ne, t2, p2, k2⟩ := hr
  have hl : (e :: es).length - 1 = (es.length - 1) + 1 := by
    cases es with
    | nil => exact absurd rfl ne
    | cons a b => simp
  refine ⟨by rw [hl]; exact ln.cons, by simp, _, pa_cons p1 p2 hs, fun w ρ m σ H Q E hfn h => ?_⟩
  refine k1 w ρ m σ H _ E (Post.bind h fun d m1 _ v H1 A1 r1 h1 => ?_)
  refine k2 w ρ m1 σ H1 _ (E.step A1) hfn (Post.bind h1 fun ds m2 _ vs H2 A2 r2 h2 => ?_)
  obtain ⟨us, e, r2⟩ := r2
  exact h2 _ H2 ⟨.refl _ _, A2.tabs, A2.obs⟩ ⟨v :: us, by rw [e]; rfl, ⟨r1.1, SlotOk.ext A2.grow.ext (fun _ _ z => .inl z) r1.2⟩, r2⟩
def eCallH (i l : Nat) (F : FnSem → FnSem) (G : FnSem) (a : DXs) : DE := fun ρ m => if fnAtS i l ρ = true then (a ρ m).bind fun xs m => F G xs m else .bad
theorem SE.callHC {ps : List Str} {kf : Nat} {F : FnSem → FnSem} (h : FnH j.X.prog j.X.w j.X.K j.X.mg j.X.base j.T.tabs kf x ps kc n F) (c : ClX j l kc n G) (o : JOk j k) (hk : kf ≤ k) (hg : Gl j.X x) (ha : ∀ cf, j.fs[l]? = some cf → SHs j i l (e :: es) cf gs) (hl : (e :: es).length = ps.length := by rfl)
    (hdb : (x == ("__debug__" : Str)) = false := by decide) (he : starEach (e :: es) j.X.env = (false, eval e j.X.env) :: starEach es j.X.env := by rfl) (hpl : (backTo pos (starEach es j.X.env)).any (·.1) = false := by rfl) :
    SE j (.Call (.Name x p) (e :: es) [] pos) (eCallH i l F G gs) := by
  obtain ⟨f, fd, hm, hkp, hb, run⟩ := h.ex
  obtain ⟨⟨cf, cfx, bp, hf, hfx, hbp, cl⟩, hex⟩ := c
  obtain ⟨ln, _, t1, p1, k1⟩ := ha cf hf
  refine ⟨fun σ H Q => t1 σ H fun vs H1 => ∃ (us : List V) (v : Vw) (m : Ms) (args : List Slot), vs = us ++ [.ref cf] ∧ (∀ p ∈ cfx, H1 p.1 = some p.2 ∧ ∃ φ, p.2 = .ext φ) ∧ ExtN (msk bp.1 bp.2) (msk v H1) ∧ Tabs j.T.tabs H1 ∧ Obs j.X.K v m H1 ∧ args.length + 1 = ps.length ∧ ArgsOk j.X.K v H1 args us ∧ PostF j.X.K j.T.tabs j.X.mg v H1 Q (WE j.W σ) (F G args m),
    ⟨fun pins s σ H Q I h => ?_⟩, fun w ρ m σ H Q E h => ?_⟩
  · refine wpAny_Call_Name_kw (ld_glob I hg hm ?_ hdb)
    refine PySem.W.callWith_K (h₀ := j.X.base) I.ok.mod.kin hkp (thn (p1.run pos pins s σ H _ I h) fun us s1 ⟨vs, H1, I1, r, hq⟩ => ⟨I1.kIn, ?_⟩) he hpl
    obtain ⟨us', v, m, args, ev, q1, q2, q3, q4, q5, q6, q7⟩ := hq
    subst ev
    have hul : us.length = ps.length := by rw [← r.length, List.length_append, q6.len]; exact q5
    refine wpAny_call (codeAny_mono (run j.X.A j.X.stack s1 H1 us us' Q (WE j.W σ) cf cfx bp G v m args (o.hr.mono hk) o.gd I1.env0 (hb s1 us I1.kIn hul) r (cl.pass I1 hex) q1 q2 q3 q4 q5 q6 q7) fun r s' hq => ?_)
    cases r with
    | error e => exact passAt o.tk σ pins H1 s1 e s' I1 hq
    | ok fl =>
      cases fl with
      | ret u => exact I1.after hq
      | next => exact False.elim hq
      | brk => exact False.elim hq
      | cont => exact False.elim hq
  · unfold eCallH at h
    split at h
    case isFalse => exact h.elim
    rename_i hs
    refine k1 w ρ m σ H _ E hs (Post.bind h fun xs m1 hx vs H1 A1 r1 h1 => ?_)
    obtain ⟨us, ev, r1⟩ := r1
    refine ⟨us, w, m1, xs, ev, fun p hp => A1.tabs.fx p (hfx p hp), (E.step A1).bs bp hbp, A1.tabs.tabs, A1.obs, ?_, r1, post_F A1.tabs A1.obs h1⟩
    have q := ln _ _ _ _ hx
    simp only [List.length_cons, Nat.add_sub_cancel] at q
    rw [q]
    simpa using hl
end

/-! ### a lambda handed to a def, last -/
/-- the maker's code object and its table -/
structure Mkr (X : Cx) (T : List (Addr × Str)) (q : Str) (c P : Addr) : Prop where
  code : X.env.code = .ref c
  tb : TabB X.base X.mg c P
  mem : (P, q) ∈ T
  one : ∀ p ∈ T, p.1 = P → p.2 = q
structure PAL (X : Cx) (T : List (Addr × Str)) (params : Arguments) (body : Expr) (scope : Scope) (lpos : Pos) (es : List Expr) (t : TA) : Prop where
  run : ∀ (pos : Pos) (pins : List (Addr × Obj)) (s : Shared) (σ : L2.St) (H : Hp) (Q : List V → Hp → Prop), Inv X pins σ H s → t σ H Q → (∀ vs H1, Q vs H1 → Tabs T H1) →
    wpAny (model X.prog X.w) X.A (spliced (backTo pos (starEach (es ++ [.Lambda params body scope lpos]) X.env))) (fun us s' => ∃ (vs : List V) (us' : List Value) (H1 : Hp) (f c' : Addr) (pm ctv : Value) (H2 : Hp), Vals vs us' ∧ us = us' ++ [.ref f] ∧ Q vs H1 ∧ Inv X pins σ H2 s' ∧ ExtN H1 H2 ∧ Tabs T H2 ∧
      s'.heap.get? f = some (PySem.W.kla_obj "<lambda>" (X.env.qual ++ "<lambda>") params body scope (cloFrom X.env.cells scope.names []) pm c' ctv) ∧ H2 f = none ∧ f ∉ frs X.stack ∧ H2 c' = some (CodeO c' (X.env.qual ++ "<lambda>"))) X.xe s
section
variable {X : Cx} {T : List (Addr × Str)} {params : Arguments} {body : Expr} {scope : Scope} {lpos : Pos} {es : List Expr} {e : Expr} {c P : Addr} {te : TE} {t : TA}
theorem pal_nil (M : Mkr X T (X.env.qual ++ "<lambda>") c P) (hdef : defaultsOf params X.env = ([], [])) (hfree : X.Ok → ∀ y ∈ scope.names, y.2 = .free → ∃ c, X.env.cells.lookup y.1 = some c)
    (hs : starEach [.Lambda params body scope lpos] X.env = (false, eval (.Lambda params body scope lpos) X.env) :: starEach [] X.env := by rfl) : PAL X T params body scope lpos [] tNil := by
  refine ⟨fun pos pins s σ H Q I h hT => ?_⟩
  have hb : ∀ l : List (Bool × Sem Value), backTo pos ((false, eval (.Lambda params body scope lpos) X.env) :: l) = (false, eval (.Lambda params body scope lpos) X.env) :: backTo pos l := fun l => rfl
  rw [List.nil_append, hs, hb]
  refine Calls.spliced_cons (lam_make2 I M.tb M.code M.mem M.one (hT _ _ h) hdef (hfree I.ok) fun f c' pm ctv H1 s' I1 eN T1 hf hfn hfr hco => ?_)
  exact Calls.spliced_nil ⟨[], [], H, f, c', pm, ctv, H1, .nil, rfl, h, I1, eN, T1, hf, hfn, hfr, hco⟩
theorem pal_cons (ha : PE X e te) (hr : PAL X T params body scope lpos es t) (hs : starEach (e :: (es ++ [.Lambda params body scope lpos])) X.env = (false, eval e X.env) :: starEach (es ++ [.Lambda params body scope lpos]) X.env := by rfl) : PAL X T params body scope lpos (e :: es) (tCons te t) := by
  refine ⟨fun pos pins s σ H Q I h hT => ?_⟩
  have hc : e :: es ++ [.Lambda params body scope lpos] = e :: (es ++ [.Lambda params body scope lpos]) := List.cons_append
  have hb : ∀ l : List (Bool × Sem Value), backTo pos ((false, eval e X.env) :: l) = (false, eval e X.env) :: backTo pos l := fun l => rfl
  rw [hc, hs, hb]
  refine Calls.spliced_cons (thn (ha.run pins s σ H _ I h) fun u s1 ⟨x, H1, I1, r1, q1⟩ => ?_)
  refine thn (hr.run pos pins s1 σ H1 _ I1 q1 fun vs H1 q => hT _ _ q) fun us s2 ⟨vs, us', H2, f, c', pm, ctv, H3, rv, eu, hq, rest⟩ => ?_
  exact ⟨x :: vs, u :: us', H2, f, c', pm, ctv, H3, .cons r1 rv, by rw [eu]; rfl, hq, rest⟩
/-- the cells of a def's own frame are no frames -/
theorem cell_frame {pins : List (Addr × Obj)} {σ : L2.St} {H : Hp} {s : Shared} (I : Inv X pins σ H s) (hfn : ∀ x, X.fn x = true) {y : Str} {c : Addr} (hc : X.env.cells.lookup y = some c) : c ∉ frs X.stack := fun z => by
  rcases List.mem_cons.mp (I.stkSub c z) with z | z
  · exact I.cne y c hc z
  · obtain ⟨_, o, ho, _⟩ := I.ok.funs.mem z
    exact Nat.lt_irrefl _ (Nat.lt_of_lt_of_le (Heap.lt_size ho) (I.ok.cab y c (hfn y) hc))
end
/-- the body's run: parameters, then what is captured -/
def lamD (N : Nat) (caps : List Slot) (g : DE) : FnSem := fun args m => g (args ++ (caps ++ List.replicate (N - args.length - caps.length) .un)) m
abbrev lamNF (qual : Str) (params : Arguments) (scope : Scope) (cl : List (Str × Addr)) (c' : Addr) : NF := ⟨"<lambda>", qual, params, [], scope, cl, c'⟩
abbrev J.lam (P : Program) (w : World) (K : PySem.W.Frag) (mg : Str → Option Value) (base : Heap) (T : List (Addr × Str)) (N : List Str) (F : NF) (f : Addr) (A : Around) (outer : List PySem.Env) (s : Shared) (H : Hp) (E : XK) : J :=
  ⟨ncx (L2.CX P w) P w K mg base N F f A outer s H E, ⟨T, []⟩, [], [], fun cls dd _ H => E cls dd H⟩
/-- captured: values alone -/
def capB : Slot → Bool
  | .v _ => true
  | .un => true
  | _ => false
section
variable {P : Program} {w : World} {K : PySem.W.Frag} {mg : Str → Option Value} {base : Heap} {T : List (Addr × Str)} {N ps fr : List Str} {k : Nat}
theorem clAt_lam {qual : Str} {params : Arguments} {body : Expr} {scope : Scope} {cl : List (Str × Addr)} {pm ctv : Value} {f c' : Addr} {s : Shared} {H Hc : Hp} {Fr : List Addr} {ws : List (Option V)} {wc : Vw} {caps : List Slot} {g : DE}
    (S : NScope N ps fr scope) (hf : s.heap.get? f = some (PySem.W.kla_obj "<lambda>" qual params body scope cl pm c' ctv)) (hfn : H f = none) (hfr : f ∉ Fr) (C : CellsAt cl fr ws s.heap H) (hcf : ∀ y c, cl.lookup y = some c → c ∉ Fr)
    (hb : ∀ us : List Value, us.length = ps.length → bindArgs (PySem.W.kla_fn "<lambda>" qual params body scope cl pm (.ref c') ctv) ⟨us, []⟩ = pure (ps.zip us))
    (hcap : caps.length = fr.length ∧ ∀ (i : Nat) x, caps[i]? = some x → capB x = true ∧ SlotOk K [] wc Hc ws[i]? x)
    (hbody : ∀ (A : Around) (outer : List PySem.Env) (s1 : Shared) (H1 : Hp) (E : XK), JOk (J.lam P w K mg base T N (lamNF qual params scope cl c') f A outer s1 H1 E) k → SE (J.lam P w K mg base T N (lamNF qual params scope cl c') f A outer s1 H1 E) body g) :
    ClAt P w K mg base T (k + 1) ps.length f [(c', CodeO c' qual)] wc Hc (lamD N.length caps g) Fr s H := by
  refine ⟨fun s1 H1 l => ⟨_, _, _, _, (l f _ hf hfn hfr).1⟩, fun A outer s1 H1 us vs Q E v m args hr hgd e0 l hfx r ht ho hl ha hx h => ?_⟩
  have of1 := (l f _ hf hfn hfr).1
  have hco : H1 c' = some (CodeO c' qual) := hfx _ (List.mem_singleton.mpr rfl)
  have hvl : vs.length = ps.length := by rw [ha.len]; exact hl
  have C1 : CellsAt cl fr ws s1.heap H1 := by
    refine ⟨C.len, fun y c hc => ?_, C.inj, fun i y hy => ?_⟩
    · obtain ⟨h1, u, o, h2, h3⟩ := C.all y c hc
      obtain ⟨q1, q2⟩ := l c o h2 h1 (hcf y c hc)
      exact ⟨q2, u, o, q1, h3⟩
    · obtain ⟨c, hc, hw⟩ := C.has i y hy
      refine ⟨c, hc, fun u hu => ?_⟩
      obtain ⟨u', r', o, h2, h3⟩ := hw u hu
      exact ⟨u', r', o, (l c o h2 (C.all y c hc).1 (hcf y c hc)).1, h3⟩
  have lim : s1.heap.NoLimit := e0.mod.nolimit.keeps fun b o e => (e0.bs b o e).1
  refine PySem.W.kla_callFunE hr.depth of1 rfl S.co S.gen rfl (codeO_at e0.hok hco) ?_
  rw [hb us (by rw [← r.length]; exact hvl)]
  refine wpAny_pure (wpAny_newFunctionEnv S.nocell (fun ⟨y, _⟩ hy => S.par y (List.of_mem_zip hy).1) (fun h₁ hns hsb => ⟨lim.fresh _ hsb, ?_⟩) S.kind)
  let F := lamNF qual params scope cl c'
  show codeAny _ _ (.expr body (envF F f s1.heap.objs.size)) _ _
  have kp : ∀ b o, s1.heap.get? b = some o → h₁.get? b = some o := fun b o e => hsb.extBut b o (Nat.ne_of_lt (Heap.lt_size e)) (Heap.get?_push_of_some _ e)
  let j := J.lam P w K mg base T N F f A outer s1 H1 E
  have I : Inv j.X [] (startF N vs ws) H1 { s1 with heap := h₁, toks := s1.toks + (ps.zip us).length } := inv_startN S hr.hd e0 hvl r C1 hns kp
  have jo : JOk j k := ⟨hr.deeper _, S.nd, rfl, takes_of rfl rfl rfl rfl, passes_of rfl, hgd⟩
  obtain ⟨t, pt, kt⟩ := hbody A outer s1 H1 E jo
  have hfrN : ps.length + fr.length ≤ N.length := by
    have q := congrArg List.length S.pre
    rw [List.length_take, List.length_append] at q
    omega
  have cl0 := C1.len
  have hcl := hcap.1
  have en : En j v (args ++ (caps ++ List.replicate (N.length - args.length - caps.length) .un)) m (startF N vs ws) H1 := by
    refine ⟨⟨ht, fun p hp => absurd (show p ∈ ([] : List (Addr × HO)) from hp) (by simp)⟩, ho, ?_, fun i x hi => ?_, fun p hp => absurd (show p ∈ ([] : List (Vw × Hp)) from hp) (by simp)⟩
    · unfold startF
      simp only [List.length_append, List.length_replicate, List.length_map]
      omega
    · rw [List.getElem?_append] at hi
      split at hi
      · rename_i hlt
        obtain ⟨u, e1, _, e2⟩ := ha.get i x hi
        have e3 : (startF N vs ws)[i]? = some (some u) := by
          unfold startF
          rw [List.getElem?_append_left (by rw [List.length_map]; omega), List.getElem?_map, e1]; rfl
        rw [e3]; exact e2
      · rename_i hge
        rw [List.getElem?_append] at hi
        split at hi
        · rename_i hlt
          obtain ⟨h1, h2⟩ := hcap.2 _ _ hi
          have e3 : (startF N vs ws)[i]? = ws[i - args.length]? := by
            unfold startF
            rw [List.getElem?_append_right (by rw [List.length_map]; omega), List.length_map, List.getElem?_append_left (by omega), hvl, hl]
          rw [e3]
          cases x with
          | un => trivial
          | v d =>
            obtain ⟨u, q1, q2⟩ := h2
            exact ⟨u, q1, dp_ext hx _ _ q2⟩
          | ob k => cases h1
          | ow k => cases h1
          | fn k => cases h1
          | os k => cases h1
        · rw [List.getElem?_replicate] at hi
          split at hi
          · cases hi; trivial
          · cases hi
  have hpost : Post j v (startF N vs ws) H1 (RD j v) Q (g (args ++ (caps ++ List.replicate (N.length - args.length - caps.length) .un)) m) := by
    unfold lamD at h
    cases hg : g (args ++ (caps ++ List.replicate (N.length - args.length - caps.length) .un)) m with
    | bad => rw [hg] at h; exact h
    | ok d m1 => rw [hg] at h; exact fun u H' A r => h u H' A.grow A.tabs.tabs A.obs r
    | exc x m1 => rw [hg] at h; exact fun cls dd H' A r => h cls dd H' A.grow A.tabs.tabs A.obs r
  refine PySem.W.kla_codeExpr (wpAny_mono (pt.run [] _ _ H1 Q I (kt v _ m _ H1 Q en hpost)) (fun u s' hq => ?_) fun e s' hq => hq)
  obtain ⟨u', H', J', rv, q⟩ := hq
  exact ⟨u', H', J'.os, J'.bare, J'.base, J'.hok, rv, q⟩
end

/-! ### the call -/
def SL (j : J) (params : Arguments) (body : Expr) (scope : Scope) (lpos : Pos) (es : List Expr) (g : DXs) : Prop := LenIs g es.length ∧ ∃ t, PAL j.X j.T.tabs params body scope lpos es t ∧ ∀ w ρ m σ H Q, En j w ρ m σ H → Post j w σ H (RXs j w) Q (g ρ m) → t σ H Q
def capOf (ρ : List Slot) (i : Nat) : Slot := match ρ[i]? with
  | some (.v d) => .v d
  | _ => .un
def eCallL (F : FnSem → FnSem) (N : Nat) (js : List Nat) (g : DE) (gs : DXs) : DE := fun ρ m => (gs ρ m).bind fun xs m => F (lamD N (js.map (capOf ρ)) g) xs m
theorem ClAt.mono {P : Program} {w : World} {K : PySem.W.Frag} {mg : Str → Option Value} {base : Heap} {T : List (Addr × Str)} {k k' n : Nat} {f : Addr} {fx : List (Addr × HO)} {wc : Vw} {Hc : Hp} {G : FnSem} {Fr : List Addr} {s : Shared} {H : Hp} (c : ClAt P w K mg base T k n f fx wc Hc G Fr s H) (h : k ≤ k') :
    ClAt P w K mg base T k' n f fx wc Hc G Fr s H := ⟨c.fn, fun A outer s1 H1 us vs Q E v m args hr => c.run A outer s1 H1 us vs Q E v m args (hr.mono h)⟩
theorem grow_ext {w : Vw} {H H' : Hp} (e : ExtN H H') : Grow w H H' := ⟨fun b o h n _ => e b o h n, fun b h o q => Classical.byContradiction fun z => by
  have n : ∀ ps, o ≠ .tbl ps := fun ps hp => z ⟨ps, hp⟩
  obtain ⟨ps, hp⟩ := h o (e b o q n)
  exact n ps hp⟩
theorem obs_ext {K : PySem.W.Frag} {w : Vw} {m : Ms} {H H' : Hp} (O : Obs K w m H) (e : ExtN H H') : Obs K w m H' := by
  refine ⟨O.len, fun k a h => ?_, O.dead, O.inj, fun b hb => ?_⟩
  · obtain ⟨ds, vs, h1, h2, h3⟩ := O.at_ k a h
    exact ⟨ds, vs, h1, e _ _ h2 (fun ps z => by cases z), dpa_ext (grow_ext (w := w) e).ext _ _ h3⟩
  · obtain ⟨⟨o, h1, h2⟩, h3⟩ := O.exs b hb
    exact ⟨⟨o, e _ _ h1 h2, h2⟩, h3⟩
theorem PostF.at {K : PySem.W.Frag} {T : List (Addr × Str)} {mg : Str → Option Value} {w : Vw} {H H1 : Hp} {Q : VK} {E : XK} {r : Res D} (h : PostF K T mg w H Q E r) (g : Grow w H H1) : PostF K T mg w H1 Q E r := by
  cases r with
  | bad => exact h
  | ok d m => exact fun v H' g' t o r => h v H' (g.trans g') t o r
  | exc x m => exact fun cls dd H' g' t o r => h cls dd H' (g.trans g') t o r
section
variable {j : J} {k kf kb kc : Nat} {params : Arguments} {body : Expr} {scope : Scope} {lpos : Pos} {es : List Expr} {e : Expr} {gx : DX} {gs : DXs} {c P : Addr}
theorem SL.nil (M : Mkr j.X j.T.tabs (j.X.env.qual ++ "<lambda>") c P) (hdef : defaultsOf params j.X.env = ([], [])) (hfree : j.X.Ok → ∀ y ∈ scope.names, y.2 = .free → ∃ c, j.X.env.cells.lookup y.1 = some c)
    (hs : starEach [.Lambda params body scope lpos] j.X.env = (false, eval (.Lambda params body scope lpos) j.X.env) :: starEach [] j.X.env := by rfl) : SL j params body scope lpos [] xNil :=
  ⟨.nil, _, pal_nil M hdef hfree hs, fun w ρ m σ H Q E h => h [] H E.aft trivial⟩
theorem SL.cons (ha : SX j e gx) (hr : SL j params body scope lpos es gs) (hs : starEach (e :: (es ++ [.Lambda params body scope lpos])) j.X.env = (false, eval e j.X.env) :: starEach (es ++ [.Lambda params body scope lpos]) j.X.env := by rfl) : SL j params body scope lpos (e :: es) (xCons gx gs) := by
  obtain ⟨t1, p1, k1⟩ := ha
  obtain ⟨ln, t2, p2, k2⟩ := hr
  refine ⟨ln.cons, _, pal_cons p1 p2 hs, fun w ρ m σ H Q E h => ?_⟩
  refine k1 w ρ m σ H _ E (Post.bind h fun d m1 _ v H1 A1 r1 h1 => ?_)
  refine k2 w ρ m1 σ H1 _ (E.step A1) (Post.bind h1 fun ds m2 _ vs H2 A2 r2 h2 => ?_)
  exact h2 _ H2 ⟨.refl _ _, A2.tabs, A2.obs⟩ ⟨⟨r1.1, SlotOk.ext A2.grow.ext (fun _ _ z => .inl z) r1.2⟩, r2⟩
/-- f(e, .., lambda ..: ..) -/
theorem SE.callHL {x : Str} {p pos : Pos} {ps lps fr NL : List Str} {js : List Nat} {F : FnSem → FnSem} {g : DE} (h : FnH j.X.prog j.X.w j.X.K j.X.mg j.X.base j.T.tabs kf x ps kc lps.length F) (o : JOk j k) (hk : kf ≤ k) (hkb : kb + 1 ≤ kc) (hg : Gl j.X x)
    (hfnX : ∀ y, j.X.fn y = true) (ha : SL j params body scope lpos es gs) (hl : es.length + 1 = ps.length)
    (S : NScope NL lps fr scope) (hfr : ∀ y ∈ scope.names, y.2 = .free → j.X.env.scope.names.lookup y.1 = some .cell ∨ j.X.env.scope.names.lookup y.1 = some .free) (hfr2 : ∀ y ∈ fr, (y, NameKind.free) ∈ scope.names) (hjs : js.map (fun i => j.X.N[i]?) = fr.map some)
    (hbind : ∀ (q : Str) (cl : List (Str × Addr)) (pm cv ctv : Value) (us : List Value), us.length = lps.length → bindArgs (PySem.W.kla_fn "<lambda>" q params body scope cl pm cv ctv) ⟨us, []⟩ = pure (lps.zip us))
    (hbody : ∀ (cl : List (Str × Addr)) (c' f : Addr) (A : Around) (outer : List PySem.Env) (s1 : Shared) (H1 : Hp) (E : XK), JOk (J.lam j.X.prog j.X.w j.X.K j.X.mg j.X.base j.T.tabs NL (lamNF (j.X.env.qual ++ "<lambda>") params scope cl c') f A outer s1 H1 E) kb →
      SE (J.lam j.X.prog j.X.w j.X.K j.X.mg j.X.base j.T.tabs NL (lamNF (j.X.env.qual ++ "<lambda>") params scope cl c') f A outer s1 H1 E) body g)
    (hdb : (x == ("__debug__" : Str)) = false := by decide)
    (he : ∃ e0 es0, es ++ [.Lambda params body scope lpos] = e0 :: es0 ∧ starEach (e0 :: es0) j.X.env = (false, eval e0 j.X.env) :: starEach es0 j.X.env ∧ (backTo pos (starEach es0 j.X.env)).any (·.1) = false) :
    SE j (.Call (.Name x p) (es ++ [.Lambda params body scope lpos]) [] pos) (eCallL F NL.length js g gs) := by
  obtain ⟨f, fd, hm, hkp, hb, run⟩ := h.ex
  obtain ⟨ln, t1, p1, k1⟩ := ha
  refine ⟨fun σ H Q => t1 σ H fun vs H1 => Tabs j.T.tabs H1 ∧ ∃ (v : Vw) (m : Ms) (args caps : List Slot), Obs j.X.K v m H1 ∧ args.length + 1 = ps.length ∧ ArgsOk j.X.K v H1 args vs ∧ (caps.length = fr.length ∧ ∀ (i : Nat) x, caps[i]? = some x → capB x = true ∧ SlotOk j.X.K [] v H1 (js.map (slotAt σ))[i]? x) ∧
      PostF j.X.K j.T.tabs j.X.mg v H1 Q (WE j.W σ) (F (lamD NL.length caps g) args m), ⟨fun pins s σ H Q I h => ?_⟩, fun w ρ m σ H Q E h => ?_⟩
  · refine wpAny_Call_Name_kw (ld_glob I hg hm ?_ hdb)
    obtain ⟨e0, es0, h1, h2, h3⟩ := he
    rw [h1]
    refine PySem.W.callWith_K (h₀ := j.X.base) I.ok.mod.kin hkp ?_ h2 h3
    rw [← h1]
    refine thn (p1.run pos pins s σ H _ I h fun vs H1 q => q.1) fun us s1 ⟨vs, us', H1, fl, c', pm, ctv, H2, rv, eu, hq, I2, eN, T2, q1, q2, q3, q4⟩ => ⟨I2.kIn, ?_⟩
    obtain ⟨_, v, m, args, caps, a1, a2, a3, a4, a5⟩ := hq
    have r : Vals (vs ++ [.ref fl]) us := by rw [eu]; exact rv.append (.cons rfl .nil)
    have hul : us.length = ps.length := by rw [← r.length, List.length_append, a3.len]; exact a2
    have gr : Grow v H1 H2 := grow_ext eN
    have C := cells_of I2 (Caps.made I2.ok hfr hfr2 hjs)
    have cl : ClAt j.X.prog j.X.w j.X.K j.X.mg j.X.base j.T.tabs kc lps.length fl [(c', CodeO c' (j.X.env.qual ++ "<lambda>"))] v H2 (lamD NL.length caps g) (frs j.X.stack) s1 H2 := by
      refine ClAt.mono (clAt_lam S q1 q2 q3 C (fun y cc hc => ?_) (hbind _ _ _ _ _) ⟨a4.1, fun i x hx => ?_⟩ (hbody _ c' fl)) hkb
      · refine cell_frame I2 hfnX (y := y) ?_
        exact clo_cm (fun y hy e => I2.ok.has _ (hfr y hy e)) hc
      · obtain ⟨b1, b2⟩ := a4.2 i x hx
        exact ⟨b1, b2.ext gr.ext fun _ _ z => .inl z⟩
    refine wpAny_call (codeAny_mono (run j.X.A j.X.stack s1 H2 us vs Q (WE j.W σ) fl _ (v, H2) _ v m args (o.hr.mono hk) o.gd I2.env0 (hb s1 us I2.kIn hul) r cl (fun p hp => ?_) (fun _ _ z _ => z) T2 (obs_ext a1 eN) a2 (a3.ext gr) (a5.at gr)) fun r s' hq => ?_)
    · rw [List.mem_singleton.mp hp]
      exact ⟨q4, _, rfl⟩
    · cases r with
      | error e => exact passAt o.tk σ pins H2 s1 e s' I2 hq
      | ok fl =>
        cases fl with
        | ret u => exact I2.after hq
        | next => exact False.elim hq
        | brk => exact False.elim hq
        | cont => exact False.elim hq
  · refine k1 w ρ m σ H _ E (Post.bind h fun xs m1 hx vs H1 A1 r1 h1 => ?_)
    refine ⟨A1.tabs.tabs, w, m1, xs, js.map (capOf ρ), A1.obs, by rw [ln _ _ _ _ hx]; exact hl, r1, ⟨?_, fun i x hi => ?_⟩, post_F A1.tabs A1.obs h1⟩
    · have q := congrArg List.length hjs
      simpa using q
    · rw [List.getElem?_map] at hi
      cases hj : js[i]? with
      | none => rw [hj] at hi; cases hi
      | some jj =>
        rw [hj] at hi
        have hi : capOf ρ jj = x := Option.some.inj hi
        unfold capOf at hi
        split at hi
        · rename_i d hd
          subst hi
          obtain ⟨u, e1, e2⟩ := (E.step A1).sl jj _ hd
          refine ⟨rfl, u, ?_, e2⟩
          rw [List.getElem?_map, hj]
          exact congrArg some (slotAt_of e1)
        · subst hi
          exact ⟨rfl, trivial⟩
end
end DS

set_option maxRecDepth 100000
set_option maxHeartbeats 2000000
namespace DS
open PySem PySem.Spec PyProof.Rows L2 LamX NdefX

/-! ### enumerate of a tuple -/
def IteT (K : PySem.W.Frag) (a : Addr) : It :=
  ⟨fun i H => ∃ (xs : List V) (x : V), SqT K H a xs ∧ xs[i]? = some x, fun i H v H' => ∃ T x, v = .ref T ∧ H T = none ∧ H' = upd H T (.tup [.int (i : Nat), x]) ∧ ∀ xs, SqT K H a xs → xs[i]? = some x, fun i H => ∃ xs : List V, SqT K H a xs ∧ xs.length = i⟩
theorem turn_enumT {P : Program} {w : World} {K : PySem.W.Frag} {elts : List Expr} {kk : Nat} {tpos : Pos} (a e it : Addr) :
    Turn P w K (.Tuple elts kk tpos) (IteT K a) [e, it] e (fun i h => (∃ old, IsEnum h e it ((i : Nat) : Int) old) ∧ h.IsTupleIter it a i ∧ e ≠ it ∧ a ≠ it ∧ a ≠ e) where
  mem := by simp
  obj := fun i h st b hb => by
    obtain ⟨⟨old, he⟩, ⟨o, ho, hc, hd⟩, _⟩ := st
    have e' : b = e ∨ b = it := by simpa using hb
    rcases e' with z | z
    · rw [z]; exact ⟨_, he, fun v q => nomatch q⟩
    · rw [z]; exact ⟨o, ho, fun v q => by rw [hd] at q; cases q⟩
  keep := fun i h h' st k => let ⟨⟨old, he⟩, hi, hne⟩ := st; ⟨⟨old, k e (by simp) _ he⟩, hi.at fun o q => k it (by simp) o q, hne⟩
  item := by
    intro X hP hw hK hc i pins s σ H E I hf st hg
    subst hP hw hK
    obtain ⟨⟨old, he⟩, hit, hne, ha1, ha2⟩ := st
    obtain ⟨xs, x, hq, hx⟩ := hg
    obtain ⟨its, rv, p, hz⟩ := I.tuple hq
    obtain ⟨u, hu, ru⟩ := rv.get hx
    have hel : e < s.heap.objs.size := Heap.lt_size he
    have hil : it < s.heap.objs.size := by obtain ⟨_, q, _⟩ := hit; exact Heap.lt_size q
    have hh : X.A.in1.handled = none := I.ok.hd hc
    have hil' : i < its.toArray.size := by
      have := (List.getElem?_eq_some_iff.mp hu).1
      simpa using this
    refine wpAny_pyNext_enum_itemD (Draws.tuple (prog := X.prog) (w := X.w) (A := X.A.in1) hh it a ha1 its.toArray) he ⟨hit, p⟩ hil' hne (by simp [hne, Ne.symm ha2]) fun u' h' tk hu' ho hst' hT hsz hk => ?_
    have eu : u' = u := by
      have q1 : its.toArray[i]? = some u' := hu'
      have q2 : its.toArray[i]? = some u := by simpa using hu
      rw [q1] at q2; exact Option.some.inj q2
    subst eu
    refine ⟨_, rfl, wpAny_letOwnedTupleGo_enum (s := { s with heap := h', toks := tk + 1 }) ho fun h'' he' sb => ?_⟩
    have hT2 : h''.get? s.heap.objs.size = some { cls := .type "tuple", data := .seq #[.int i tk, u'] } := (sb.2 _ (Nat.ne_of_gt hel)).trans hT
    have new : ObjOk X.prog X.w (upd H s.heap.objs.size (.tup [.int (i : Nat), x])) h'' s.heap.objs.size (.tup [.int (i : Nat), x]) :=
      ⟨by show 2 ≤ sizeLine; decide, [.int i tk, u'], .cons ⟨_, rfl⟩ (.cons ru .nil), ⟨_, hT2, rfl, _, rfl⟩⟩
    have I1 : Inv X pins σ (upd H s.heap.objs.size (.tup [.int (i : Nat), x])) { s with heap := h'', toks := tk + 1 } :=
      I.turnedNew (ch := [e, it]) (fun b ob hb q => (sb.2 b (fun z => hb (by simp [z]))).trans (hk b ob (fun z => hb (by simp [z])) (fun z => hb (by simp [z])) q)) hf (Nat.le_refl _) new
    refine ⟨.ref s.heap.objs.size, _, I1, rfl, ⟨_, x, rfl, I.hok.fresh (Nat.le_refl _), rfl, fun ys hy => by rw [I.tuple_inj hy hq]; exact hx⟩, ⟨⟨u', ?_⟩, hst'.1.at fun o q => (sb.2 it (Ne.symm hne)).trans q, hne, ha1, ha2⟩, fun b hb => ?_⟩
    · have e1 : ((i + 1 : Nat) : Int) = (i : Int) + 1 := by omega
      rw [e1]; exact he'
    · have hb' : b < s.heap.objs.size := by
        have e' : b = e ∨ b = it := by simpa using hb
        rcases e' with z | z
        · rw [z]; exact hel
        · rw [z]; exact hil
      rw [upd_ne (Nat.ne_of_lt hb')]
      exact (hf b hb).1
  done := by
    intro X hP hw hK hc i pins s σ H E I hf st hg
    subst hP hw hK
    obtain ⟨⟨old, he⟩, hit, hne, ha1, ha2⟩ := st
    obtain ⟨xs, hq, hx⟩ := hg
    obtain ⟨its, rv, p, hz⟩ := I.tuple hq
    obtain ⟨f0, f1, f2, f3, f4, f5⟩ := hf it (by simp)
    have hl := rv.length
    have hh : X.A.in1.handled = none := I.ok.hd hc
    have hsz : its.toArray.size = i := by rw [List.size_toArray]; omega
    refine wpAny_pyNext_enum_endD (Draws.tuple (prog := X.prog) (w := X.w) (A := X.A.in1) hh it a ha1 its.toArray) he ⟨by rw [hsz]; exact hit, p⟩ fun h' eb => ⟨rfl, I.turned (t' := s.toks) (fun b o hb q => eb b o hb q) f0 f1 f3 f4 f5⟩
  self := fun A i s Q E st h => let ⟨⟨_, he⟩, _⟩ := st; wpAny_pyIter_enum he h
theorem enum_newT (a : Addr) (its : Array Value) :
    Meets (Builtin.«enumerate.__new__» ⟨[.type "enumerate", .ref a], []⟩) (fun _ R s => s.heap.IsTuple a its ∧
      R (.ok (.ret (.ref (s.heap.push { cls := .type "tuple_iterator", data := .fields #[.ref a, .int 0 0] }).objs.size)))
        { s with heap := (s.heap.push { cls := .type "tuple_iterator", data := .fields #[.ref a, .int 0 0] }).push { cls := .type "enumerate", data := .fields #[.none, .bool false, .ref s.heap.objs.size, rawInt 0, .none, .none] } }) :=
  .of_wp fun prog w A R s h => by
    obtain ⟨hp, g, d, tk, os⟩ := s
    obtain ⟨hl, h⟩ := h
    have hsub := sub_enumerate
    have q1 : ∀ {A' : Around} {E : Value → Shared → Prop} {Q : Value → Shared → Prop}, Q (.ref hp.objs.size) ⟨hp.push { cls := .type "tuple_iterator", data := .fields #[.ref a, .int 0 0] }, g, d, tk, os⟩ → wpAny (model prog w) A' (pyIter (.ref a)) Q E ⟨hp, g, d, tk, os⟩ :=
      fun q => wpAny_pyIter_tuple (s := ⟨hp, g, d, tk, os⟩) hl q
    wp_walk using q1
    refine wpAny_stack_any fun st => wpAny_pure ?_
    split
    · rename_i c _ _ _ _ _
      cases (c == Value.type "enumerate")
      · wp_walk using q1
        exact ⟨_, rfl, h⟩
      · wp_walk using q1
        exact ⟨_, rfl, h⟩
    · wp_walk using q1
      exact ⟨_, rfl, h⟩
theorem call_enumT {prog : Program} {w : World} {A : Around} {E : Value → Shared → Prop} {s : Shared} {a : Addr} {its : Array Value} {Q : Value → Shared → Prop} (hL : s.heap.IsTuple a its)
    (h : ∀ h', IsEnum h' (s.heap.objs.size + 1) s.heap.objs.size 0 .none → h'.IsTupleIter s.heap.objs.size a 0 → h'.objs.size = s.heap.objs.size + 2 →
      (∀ b o, s.heap.get? b = some o → h'.get? b = some o) → Q (.ref (s.heap.objs.size + 1)) { s with heap := h' }) :
    wpAny (model prog w) A (call (.type "enumerate") [.ref a]) Q E s := by
  refine callType_new F.called_enumerate (by decide) (F.typeCall_enumerate_1 _) (F.newCall_enumerate_1 _) (fun obj => F.args_object_init_2 obj _) F.entry_enumerate_new
    (enum_newT a its) ⟨hL, ?_⟩
  have hz : (s.heap.push { cls := .type "tuple_iterator", data := .fields #[.ref a, .int 0 0] }).objs.size = s.heap.objs.size + 1 := Heap.size_push ..
  show _ ∧ _
  rw [hz]
  have he : IsEnum ((s.heap.push { cls := .type "tuple_iterator", data := .fields #[.ref a, .int 0 0] }).push
      { cls := .type "enumerate", data := .fields #[.none, .bool false, .ref s.heap.objs.size, rawInt 0, .none, .none] }) (s.heap.objs.size + 1) s.heap.objs.size 0 .none := by
    have := Heap.get?_push_size (s.heap.push { cls := .type "tuple_iterator", data := .fields #[.ref a, .int 0 0] })
      (o := { cls := .type "enumerate", data := .fields #[.none, .bool false, .ref s.heap.objs.size, rawInt 0, .none, .none] }) rfl
    rw [hz] at this; exact this
  refine ⟨⟨_, he, rfl⟩, h _ he ⟨_, Heap.get?_push_of_some _ (Heap.get?_push_size _ rfl), rfl, rfl⟩ (by rw [Heap.size_push, hz]) fun b o x => Heap.get?_push_of_some _ (Heap.get?_push_of_some _ x)⟩
def iEnumA (K : PySem.W.Frag) (ta : TE) : TI := fun σ H R => ta σ H fun v H1 => ∃ a xs, [v] = [V.ref a] ∧ ((SqL K H1 a xs ∧ R (Ite K a) H1) ∨ (SqT K H1 a xs ∧ R (IteT K a) H1))
theorem pi_enumA {X : Cx} {e : Expr} {ta : TE} {p pos tpos : Pos} {elts : List Expr} {kk : Nat} (hg : Gl X "enumerate") (hm : X.mg "enumerate" = none) (ha : PE X e ta) (hs : starEach [e] X.env = (false, eval e X.env) :: starEach [] X.env := by rfl) :
    PI X (.Tuple elts kk tpos) (.Call (.Name "enumerate" p) [e] [] pos) (iEnumA X.K ta) := by
  refine ⟨fun pins s σ H R I h => ?_⟩
  refine Call_ (ld_blt I hg hm boot_enumerate (PyProof.Rows.callWith_type1 (thn ((pa_cons ha pa_nil hs).run pos pins s σ H (fun vs H1 => ∃ a xs, vs = [V.ref a] ∧ ((SqL X.K H1 a xs ∧ R (Ite X.K a) H1) ∨ (SqT X.K H1 a xs ∧ R (IteT X.K a) H1))) I h) fun us s1 ⟨vs, H1, I1, r1, q1⟩ => ?_) hs rfl))
  obtain ⟨a, xs, ex, q⟩ := q1
  subst ex
  cases r1 with
  | cons r rr =>
    cases rr
    cases r
    have hle : ∀ b, b ∈ [s1.heap.objs.size + 1, s1.heap.objs.size] → s1.heap.objs.size ≤ b := fun b hb => by
      have e' : b = s1.heap.objs.size + 1 ∨ b = s1.heap.objs.size := by simpa using hb
      rcases e' with z | z
      · rw [z]; exact Nat.le_add_right _ _
      · rw [z]; exact Nat.le_refl _
    rcases q with ⟨hq, q⟩ | ⟨hq, q⟩
    · obtain ⟨its, rv, p', hz⟩ := I1.list hq
      refine call_enumerate_list p'.isList fun h' he hit hsz hk => wpAny_pyIter_enum he ?_
      have I2 : Inv X pins σ H1 { s1 with heap := h' } := I1.kept (t' := s1.toks) hk
      exact ⟨s1.heap.objs.size + 1, [s1.heap.objs.size + 1, s1.heap.objs.size], _, _, H1, rfl, I2, turn_enum a (s1.heap.objs.size + 1) s1.heap.objs.size, ⟨⟨.none, he⟩, hit, Nat.succ_ne_self _⟩, fun b hb => I1.fpOk (hle b hb) (I1.hok.fresh (hle b hb)), q⟩
    · obtain ⟨its, rv, p', hz⟩ := I1.tuple hq
      have hal : a < s1.heap.objs.size := by obtain ⟨o, ho, _⟩ := id p'; exact Heap.lt_size ho
      refine call_enumT (show s1.heap.IsTuple a its.toArray from p') fun h' he hit hsz hk => wpAny_pyIter_enum he ?_
      have I2 : Inv X pins σ H1 { s1 with heap := h' } := I1.kept (t' := s1.toks) hk
      exact ⟨s1.heap.objs.size + 1, [s1.heap.objs.size + 1, s1.heap.objs.size], _, _, H1, rfl, I2, turn_enumT a (s1.heap.objs.size + 1) s1.heap.objs.size, ⟨⟨.none, he⟩, hit, Nat.succ_ne_self _, Nat.ne_of_lt hal, Nat.ne_of_lt (Nat.lt_succ_of_lt hal)⟩, fun b hb => I1.fpOk (hle b hb) (I1.hok.fresh (hle b hb)), q⟩
def enD : Nat → List D → List D
  | _, [] => []
  | n, d :: ds => .tuple [.int (n : Nat), d] :: enD (n + 1) ds
theorem enD_len : ∀ (n : Nat) (ds : List D), (enD n ds).length = ds.length
  | _, [] => rfl
  | n, d :: ds => by simp [enD, enD_len]
theorem enD_get : ∀ (n : Nat) (ds : List D) (i : Nat), (enD n ds)[i]? = ds[i]?.map fun d => .tuple [.int ((n + i : Nat) : Int), d]
  | _, [], _ => by simp [enD]
  | n, d :: ds, 0 => by simp [enD]
  | n, d :: ds, i + 1 => by
    have := enD_get (n + 1) ds i
    simp only [enD, List.getElem?_cons_succ, this]
    have e : n + 1 + i = n + (i + 1) := by omega
    rw [e]
def lt_items : D → Option (List D)
  | .list ds => some ds
  | .tuple ds => some ds
  | _ => none
def iEnum' (a : DE) : DI := fun ρ m => (a ρ m).bind fun d m => lift ((lt_items d).map (enD 0)) m
theorem new_pair {K : PySem.W.Frag} {w : Vw} {H : Hp} {T : Addr} {x y : V} {d e : D} (hT : H T = none) (hh : ∀ b, Hid w b → H b ≠ none) (r1 : Rp K (msk w H) x d) (r2 : Rp K (msk w H) y e) :
    (∀ b o, H b = some o → upd H T (.tup [x, y]) b = some o) ∧ Rp K (msk w (upd H T (.tup [x, y]))) (.ref T) (.tuple [d, e]) := by
  have ext : ExtN (msk w H) (msk w (upd H T (.tup [x, y]))) := fun b o h _ => by
    obtain ⟨h1, h2⟩ := of_msk h
    exact msk_of (by rw [upd_ne (ne_of_none h1 hT)]; exact h1) h2
  exact ⟨same_new hT, .tup (.inl (.inl (msk_of upd_same fun z => hh T z hT))) (.cons (dp_ext ext _ _ r1) (.cons (dp_ext ext _ _ r2) .nil))⟩
theorem isit_enumL {K : PySem.W.Frag} {w : Vw} {ds : List D} {vs : List V} {a : Addr} {H1 : Hp} (h : SqL K (msk w H1) a vs) (r : RpAll K (msk w H1) vs ds) : IsIt K w (enD 0 ds) (Ite K a) H1 := by
  intro w' H' e hh i
  have hl := dpa_len r
  have h' : SqL K H' a vs := rd_unmsk (sql_ext e h)
  rw [enD_len]
  refine ⟨fun hi => ⟨vs, vs[i]'(by omega), h', by simp [hl, hi]⟩, fun hi => ⟨vs, h', by omega⟩, fun x H2 hi y => ?_⟩
  obtain ⟨T, x', rfl, hT, rfl, hx⟩ := y
  obtain ⟨d, hd, hr⟩ := dpa_get' (dpa_ext e _ _ r) (hx vs h')
  obtain ⟨q1, q2⟩ := new_pair (x := .int (i : Nat)) (d := .int (i : Nat)) hT hh (.int _) hr
  exact ⟨q1, _, by rw [enD_get, hd]; simp, q2⟩
theorem isit_enumT {K : PySem.W.Frag} {w : Vw} {ds : List D} {vs : List V} {a : Addr} {H1 : Hp} (h : SqT K (msk w H1) a vs) (r : RpAll K (msk w H1) vs ds) : IsIt K w (enD 0 ds) (IteT K a) H1 := by
  intro w' H' e hh i
  have hl := dpa_len r
  have h' : SqT K H' a vs := sqt_unmsk (sqt_ext e h)
  rw [enD_len]
  refine ⟨fun hi => ⟨vs, vs[i]'(by omega), h', by simp [hl, hi]⟩, fun hi => ⟨vs, h', by omega⟩, fun x H2 hi y => ?_⟩
  obtain ⟨T, x', rfl, hT, rfl, hx⟩ := y
  obtain ⟨d, hd, hr⟩ := dpa_get' (dpa_ext e _ _ r) (hx vs h')
  obtain ⟨q1, q2⟩ := new_pair (x := .int (i : Nat)) (d := .int (i : Nat)) hT hh (.int _) hr
  exact ⟨q1, _, by rw [enD_get, hd]; simp, q2⟩
section
variable {j : J} {e l : Expr} {ge gl : DE} {pos tpos p : Pos} {elts : List Expr} {kk : Nat}
theorem SI.enum (hg : Gl j.X "enumerate") (hm : j.X.mg "enumerate" = none) (ha : SE j l gl) (hs : starEach [l] j.X.env = (false, eval l j.X.env) :: starEach [] j.X.env := by rfl) : SI j (.Tuple elts kk tpos) (.Call (.Name "enumerate" p) [l] [] pos) (iEnum' gl) := by
  obtain ⟨t1, p1, k1⟩ := ha
  refine ⟨_, pi_enumA hg hm p1 hs, fun w ρ m σ H R E h => ?_⟩
  refine k1 w ρ m σ H _ E (Post.bind h fun d m1 _ v H1 A1 r1 h1 => ?_)
  obtain ⟨ds, hz, hq⟩ := post_lift h1
  cases d <;> simp only [lt_items, Option.map_some, Option.map_none, reduceCtorEq] at hz
  · cases hz
    cases r1 with
    | lst q1 q2 => exact ⟨_, _, rfl, .inl ⟨rd_unmsk q1, hq _ H1 ⟨.refl _ _, A1.tabs, A1.obs⟩ (isit_enumL q1 q2)⟩⟩
  · cases hz
    cases r1 with
    | tup q1 q2 => exact ⟨_, _, rfl, .inr ⟨sqt_unmsk q1, hq _ H1 ⟨.refl _ _, A1.tabs, A1.obs⟩ (isit_enumT q1 q2)⟩⟩
end

/-! ### a module's constant, a value -/
structure GlV (j : J) (x : Str) (d : D) : Prop where
  ex : ∃ v u, j.X.mg x = some u ∧ RelV v u ∧ ∀ H, Rp j.X.K H v d
section
variable {j : J} {a b c e : Expr} {ga gb gc : DE} {pos : Pos} {x : Str} {d : D}
theorem SE.glob (g : GlV j x d) (hg : Gl j.X x) (hd : (x == ("__debug__" : Str)) = false := by decide) : SE j (.Name x pos) (eC d) := by
  obtain ⟨v, u, h1, h2, h3⟩ := g.ex
  exact ⟨_, pe_glob hg h1 h2 hd, fun w ρ m σ H Q E h => h v H E.aft (h3 _)⟩
/-! ### a op b op c -/
def eChain (f g : D → D → Option D) (a b c : DE) : DE := fun ρ m => (a ρ m).bind fun x m => (b ρ m).bind fun y m => (lift (f x y) m).bind fun z m => match z with
  | .bool true => (c ρ m).bind fun u m => lift (g y u) m
  | .bool false => .ok (.bool false) m
  | _ => .bad
theorem chain_kit {w : Vw} {ρ : List Slot} {m2 : Ms} {σ : L2.St} {H2 : Hp} {R' : D → V → Hp → Prop} {r2 : R2} {f g : D → D → Option D} {Q : VK} {v v' : V} {d d' : D} {tc : TE} {r1 : R2}
    (k1 : ∀ w m H x y d e z Q, Tb j.T H → Obs j.X.K w m H → RT j w d x H → RT j w e y H → f d e = some z → (∀ v H', XT H H' → RD j w z v H' → Q v H') → r1 x y H Q)
    (k2 : ∀ w m H x y d e z Q, Tb j.T H → Obs j.X.K w m H → RT j w d x H → RT j w e y H → g d e = some z → (∀ v H', XT H H' → RD j w z v H' → Q v H') → r2 x y H Q)
    (kc : ∀ w ρ m σ H Q, En j w ρ m σ H → Post j w σ H (RD j w) Q (gc ρ m) → tc σ H Q) (E2 : En j w ρ m2 σ H2) (q1 : RD j w d v H2) (q2 : RD j w d' v' H2)
    (h : Post j w σ H2 (RD j w) Q ((lift (f d d') m2).bind fun z m => match z with | .bool true => (gc ρ m).bind fun u m => lift (g d' u) m | .bool false => .ok (.bool false) m | _ => .bad)) :
    r1 v v' H2 fun z H3 => ∃ k, z = .bl k ∧ (if k = true then tc σ H3 fun w' H4 => r2 v' w' H4 Q else Q (.bl false) H3) := by
  cases hf : f d d' with
  | none => rw [hf] at h; exact h.elim
  | some z =>
    rw [hf] at h
    refine k1 w m2 H2 v v' d d' z _ E2.tabs E2.obs (.inl q1) (.inl q2) hf fun u H3 x3 r3 => ?_
    have A3 := ex_aft E2.tabs E2.obs x3
    have h3 := Post.at h A3.grow
    cases z with
    | bool k =>
      cases r3
      refine ⟨k, rfl, ?_⟩
      cases k with
      | false => exact iteF (h3 _ H3 ⟨.refl _ _, A3.tabs, A3.obs⟩ (.bl _))
      | true =>
        refine iteT (kc w ρ m2 σ H3 _ (E2.step A3) (Post.bind h3 fun du m4 _ vu H4 A4 r4 h4 => ?_))
        obtain ⟨z, hz, hq⟩ := post_lift h4
        exact k2 w m4 H4 _ _ d' du z Q A4.tabs A4.obs (.inl (dp_grow (A3.grow.trans A4.grow) q2)) (.inl r4) hz fun v H' x r => hq v H' (ex_aft A4.tabs A4.obs x) r
    | _ => exact False.elim h3
theorem SE.chain {op op' : CmpOp} {f g : D → D → Option D} (ho : OpD j (compareOp op) f) (ho' : OpD j (compareOp op') g) (ha : SE j a ga) (hb : SE j b gb) (hc : SE j c gc) (hm : lastMarks [op, op'] [b, c] = false := by with_unfolding_all rfl) :
    SE j (.Compare a [op, op'] [b, c] pos) (eChain f g ga gb gc) := by
  obtain ⟨r1, hr1, k1⟩ := ho
  obtain ⟨r2, hr2, k2⟩ := ho'
  obtain ⟨t1, p1, l1⟩ := ha
  obtain ⟨t2, p2, l2⟩ := hb
  obtain ⟨t3, p3, l3⟩ := hc
  refine ⟨_, pe_chain hr1 hr2 p1 p2 p3 hm, fun w ρ m σ H Q E h => ?_⟩
  refine l1 w ρ m σ H _ E (Post.bind h fun d m1 _ v H1 A1 q1 h1 => ?_)
  refine l2 w ρ m1 σ H1 _ (E.step A1) (Post.bind h1 fun d' m2 _ v' H2 A2 q2 h2 => ?_)
  exact chain_kit (R' := RD j w) k1 k2 l3 ((E.step A1).step A2) (dp_grow A2.grow q1) q2 h2
theorem ST.chain {op op' : CmpOp} {f g : D → D → Option D} (ho : OpD j (compareOp op) f) (ho' : OpD j (compareOp op') g) (ha : SE j a ga) (hb : SE j b gb) (hc : SE j c gc) (hm : lastMarks [op, op'] [b, c] = false := by with_unfolding_all rfl) :
    ST j (.Compare a [op, op'] [b, c] pos) (tV (eChain f g ga gb gc)) := by
  obtain ⟨r1, hr1, k1⟩ := ho
  obtain ⟨r2, hr2, k2⟩ := ho'
  obtain ⟨t1, p1, l1⟩ := ha
  obtain ⟨t2, p2, l2⟩ := hb
  obtain ⟨t3, p3, l3⟩ := hc
  refine ⟨_, pt_chain hr1 hr2 p1 p2 p3 hm, fun w ρ m σ H Q E h => ?_⟩
  have h' : Post j w σ H (RD j w) (fun x H' => ∃ k, x = .bl k ∧ Q k H') (eChain f g ga gb gc ρ m) := by
    unfold tV at h
    cases hg : eChain f g ga gb gc ρ m with
    | bad => rw [hg] at h; exact h
    | exc x m1 => rw [hg] at h; exact h
    | ok d m1 =>
      rw [hg] at h
      intro v H' A r
      have h2 := Post.at h A.grow
      exact post_bool h2 r ⟨.refl _ _, A.tabs, A.obs⟩
  refine l1 w ρ m σ H _ E (Post.bind h' fun d m1 _ v H1 A1 q1 h1 => ?_)
  refine l2 w ρ m1 σ H1 _ (E.step A1) (Post.bind h1 fun d' m2 _ v' H2 A2 q2 h2 => ?_)
  exact chain_kit (R' := RD j w) k1 k2 l3 ((E.step A1).step A2) (dp_grow A2.grow q1) q2 h2
/-! ### never -/
theorem SS.never {st : Stmt} : SS j st (fun _ _ => .bad) := ⟨_, ps_never, fun w0 H0 w ρ m σ H E s h => h.elim⟩
theorem SE.never {e : Expr} : SE j e (fun _ _ => .bad) := ⟨fun _ _ _ => False, ⟨fun _ _ _ _ _ _ h => h.elim⟩, fun w ρ m σ H Q E h => h.elim⟩
end
end DS

set_option maxRecDepth 100000
set_option maxHeartbeats 2000000
namespace DS
open PySem PySem.Spec PyProof.Rows L2 LamX NdefX

/-! ### sorted -/
def tupNe : D → Bool
  | .tuple (_ :: _) => true
  | _ => false
def noTup : D → Bool
  | .tuple _ => false
  | .none => false
  | _ => true
def sortOk (ks : List D) : Bool := (ks.all fun d => ks.all fun e => PySem.W.alike d e) && (ks.all tupNe || ks.all noTup) && ks.all (fun d => decide (d.depth ≤ 60)) && decide (ks.length ≤ lineN)
theorem sortOk_of {ks : List D} (h : sortOk ks = true) : PySem.W.AllAlike ks ∧ PySem.W.Sortable ks ∧ (∀ d ∈ ks, d.depth ≤ 60) ∧ ks.length ≤ lineN := by
  unfold sortOk at h
  simp only [Bool.and_eq_true, Bool.or_eq_true, decide_eq_true_eq] at h
  obtain ⟨⟨⟨h1, h2⟩, h3⟩, h4⟩ := h
  refine ⟨fun d hd e he => ?_, ?_, fun d hd => ?_, h4⟩
  · exact List.all_eq_true.mp (List.all_eq_true.mp h1 d hd) e he
  · rcases h2 with h2 | h2
    · refine .inl fun d hd => ?_
      have q := List.all_eq_true.mp h2 d hd
      match d, q with
      | .tuple (x :: r), _ => exact ⟨x, r, rfl⟩
    · refine .inr fun d hd => ?_
      have q := List.all_eq_true.mp h2 d hd
      refine ⟨fun z => ?_, fun xs z => ?_⟩
      · subst z; cases q
      · subst z; cases q
  · exact of_decide_eq_true (List.all_eq_true.mp h3 d hd)
/-- sorted by its keys, stably -/
def sortBy (ds ks : List D) : List D := ((ds.zip ks).mergeSort (PySem.W.dataLe false Prod.snd)).map Prod.fst
/-- the values, their data, their keys -/
abbrev Row := V × D × D
def rows (xs : List V) (ds ks : List D) : List Row := xs.zip (ds.zip ks)
def sortV (xs : List V) (ds ks : List D) : List V := ((rows xs ds ks).mergeSort (PySem.W.dataLe false fun r => r.2.2)).map (·.1)
theorem rows_len {xs : List V} {ds ks : List D} (h1 : xs.length = ds.length) (h2 : ks.length = ds.length) : (rows xs ds ks).length = ds.length := by simp [rows, h1, h2]
theorem rows_keys {xs : List V} {ds ks : List D} (h1 : xs.length = ds.length) (h2 : ks.length = ds.length) : (rows xs ds ks).map (fun r => r.2.2) = ks := by
  have e : (rows xs ds ks).map (fun r : Row => r.2.2) = ((rows xs ds ks).map Prod.snd).map Prod.snd := by simp
  rw [e]; unfold rows
  rw [List.map_snd_zip (by simp [h1, h2]), List.map_snd_zip (by omega)]
theorem rows_rel {xs : List V} {ds ks : List D} {us : List Value} (h1 : xs.length = ds.length) (h2 : ks.length = ds.length) (r : Vals xs us) : PySem.W.EachIs (fun v (b : Row) => RelV b.1 v) us (rows xs ds ks) := by
  induction r generalizing ds ks with
  | nil => cases ds with
    | nil => simp [rows]; exact .nil
    | cons _ _ => cases h1
  | cons r1 r2 ih => cases ds with
    | nil => cases h1
    | cons d ds => cases ks with
      | nil => cases h2
      | cons k ks => exact .cons r1 (ih (by simpa using h1) (by simpa using h2))
theorem each_vals {us : List Value} {rs : List Row} (e : PySem.W.EachIs (fun v (b : Row) => RelV b.1 v) us rs) : Vals (rs.map (·.1)) us := by
  induction e with
  | nil => exact .nil
  | cons h1 _ ih => exact .cons h1 ih
theorem sortV_data {K : PySem.W.Frag} {H : Hp} {xs : List V} {ds ks : List D} (h2 : ks.length = ds.length) (r : RpAll K H xs ds) : RpAll K H (sortV xs ds ks) (sortBy ds ks) := by
  have h1 := dpa_len r
  have key : ∀ (rs : List Row), (∀ b ∈ rs, Rp K H b.1 b.2.1) → RpAll K H (rs.map (·.1)) (rs.map (·.2.1)) := by
    intro rs
    induction rs with
    | nil => intro _; exact .nil
    | cons b rs ih => intro h; exact .cons (h b (by simp)) (ih fun c hc => h c (by simp [hc]))
  have all : ∀ b ∈ rows xs ds ks, Rp K H b.1 b.2.1 := by
    intro b hb
    obtain ⟨i, hi⟩ := List.getElem?_of_mem hb
    unfold rows at hi
    rw [List.getElem?_zip_eq_some] at hi
    obtain ⟨q1, q2⟩ := hi
    rw [List.getElem?_zip_eq_some] at q2
    obtain ⟨d, e1, e2⟩ := dpa_get' r q1
    rw [e1] at q2; cases q2.1; exact e2
  have e : sortBy ds ks = ((rows xs ds ks).mergeSort (PySem.W.dataLe false fun r => r.2.2)).map (·.2.1) := by
    have e2 : ds.zip ks = (rows xs ds ks).map Prod.snd := by
      unfold rows; rw [List.map_snd_zip (by simp [h1, h2])]
    unfold sortBy
    rw [e2, ← List.map_mergeSort (r := PySem.W.dataLe false fun r : Row => r.2.2) (s := PySem.W.dataLe false Prod.snd) (f := Prod.snd) (fun _ _ _ _ => rfl), List.map_map]
    rfl
  rw [e]
  exact key _ fun b hb => all b ((List.mergeSort_perm _ _).mem_iff.mp hb)
theorem sortV_len {xs : List V} {ds ks : List D} (h1 : xs.length = ds.length) (h2 : ks.length = ds.length) : (sortV xs ds ks).length = ds.length := by
  unfold sortV; rw [List.length_map, List.length_mergeSort, rows_len h1 h2]
theorem reads_all {X : Cx} {pins : List (Addr × Obj)} {σ : L2.St} {H : Hp} {s : Shared} (I : Inv X pins σ H s) : ∀ {vs : List V} {ds : List D} {us : List Value}, RpAll X.K H vs ds → Vals vs us → PySem.W.EachIs (fun v d => ∃ as, Reads s.heap v d as) us ds
  | [], _, _, r, rv => by cases r; cases rv; exact .nil
  | v :: vs, _, _, r, rv => by
    cases r with
    | cons h1 h2 => cases rv with
      | cons g1 g2 => exact .cons (Dp.reads I _ _ _ (h1.dp _ _) g1) (reads_all I h2 g2)
theorem each_row {R : Value → D → Prop} {us : List Value} {xs : List V} {ds : List D} (h1 : xs.length = ds.length) (e : PySem.W.EachIs R us ds) : PySem.W.EachIs (fun v (b : Row) => R v b.2.2) us (rows xs ds ds) := by
  induction e generalizing xs with
  | nil => cases xs with
    | nil => exact .nil
    | cons _ _ => cases h1
  | cons g1 _ ih => cases xs with
    | nil => cases h1
    | cons x xs => exact .cons g1 (ih (by simpa using h1))
def dSorted : List D → Option D
  | [.list ds] => if sortOk ds then some (.list (sortBy ds ds)) else none
  | _ => none
def rSortedD (K : PySem.W.Frag) : List V → Hp → VK → Prop := fun vs H Q => ∃ a xs ds, vs = [.ref a] ∧ SqL K H a xs ∧ RpAll K H xs ds ∧ sortOk ds = true ∧ ∀ p, H p = none → Q (.ref p) (upd H p (.lst (sortV xs ds ds)))
theorem cr_sortedD {X : Cx} (hu : X.A.units + 64 < cLine) : CallR X (.builtin "sorted") (rSortedD X.K) := by
  intro pins s σ H vs us Q I r h
  obtain ⟨a, xs, ds, rfl, hs, hx, hok, q⟩ := h
  obtain ⟨its, rv, hl, hz⟩ := I.list hs
  obtain ⟨u, rfl, ru⟩ := vals1 r
  obtain rfl : u = Value.ref a := ru
  obtain ⟨o1, o2, o3, o4⟩ := sortOk_of hok
  have hlen := dpa_len hx
  have hrl := rows_len (ks := ds) hlen rfl
  have hkeys := rows_keys (ks := ds) hlen rfl
  refine PySem.W.sorted_data (β := Row) (enc := fun b => b.2.2) (R := fun v b => RelV b.1 v) (bs := rows xs ds ds) hl.isList (rows_rel hlen rfl rv) (each_row (R := fun v d => ∃ as, Reads s.heap v d as) hlen (reads_all I hx rv)) (by rw [hkeys]; exact o1) (by rw [hkeys]; exact o2) (by rw [hrl]; exact lineN_le o4) (fun b hb => ?_) fun out hout eo => ?_
  · have := o3 b.2.2 (by rw [← hkeys]; exact List.mem_map.mpr ⟨b, hb, rfl⟩)
    omega
  · have hd : s.heap.objs.size ≤ s.heap.objs.size + 1 := Nat.le_succ _
    obtain ⟨n, hn⟩ := sortedAll_at s.heap its out.toArray
    refine ⟨.ref _, upd H (s.heap.objs.size + 1) (.lst (sortV xs ds ds)), I.laid (t' := s.toks) (fun b o e => sortedAll_old e) hd ⟨?_, out, n, each_vals eo, hn⟩, rfl, q _ (I.hok.fresh hd)⟩
    rw [sortV_len hlen rfl]; exact lineN_le o4
theorem CallD.sorted {j : J} {k : Nat} (o : JOk j k) : CallD j (.builtin "sorted") dSorted := by
  refine ⟨_, cr_sortedD o.hu, fun w m H vs ds z Q T O r hz q => ?_⟩
  unfold dSorted at hz
  split at hz
  · obtain ⟨v, rfl, rr⟩ := ra1 r
    split at hz
    · rename_i hok
      cases hz
      obtain ⟨a, us, rfl, q1, q2⟩ := rt_lst rr
      exact ⟨_, _, _, rfl, q1, unmskA q2, hok, fun p hp => fin_lst T O hp (sortV_data rfl q2) q⟩
    · cases hz
  · cases hz
end DS

set_option maxRecDepth 100000
set_option maxHeartbeats 2000000
namespace DS
open PySem PySem.Spec PyProof.Rows L2 LamX NdefX

/-! ### sorted(xs, key=lambda x: ..) -/
def keysF (G : FnSem) : List D → Ms → Res (List D)
  | [], m => .ok [] m
  | d :: ds, m => (G [.v d] m).noX.bind fun k m => (keysF G ds m).bind fun ks m => .ok (k :: ks) m
theorem keysF_len {G : FnSem} : ∀ {ds : List D} {m : Ms} {ks : List D} {m' : Ms}, keysF G ds m = .ok ks m' → ks.length = ds.length
  | [], m, ks, m', h => by cases h; rfl
  | d :: ds, m, ks, m', h => by
    unfold keysF at h
    cases h1 : G [.v d] m with
    | bad => rw [h1] at h; cases h
    | exc _ _ => rw [h1] at h; cases h
    | ok k m1 =>
      rw [h1] at h
      simp only [Res.noX_ok, Res.bind_ok] at h
      cases h2 : keysF G ds m1 with
      | bad => rw [h2] at h; cases h
      | exc _ _ => rw [h2] at h; cases h
      | ok ks' m2 => rw [h2] at h; cases h; simp [keysF_len h2]
theorem Env0.in1 {P : Program} {w : World} {K : PySem.W.Frag} {mg : Str → Option Value} {base : Heap} {A : Around} {outer : List PySem.Env} {s : Shared} {H : Hp} (e : Env0 P w K mg base A outer s H) : Env0 P w K mg base A.in1 outer s H :=
  ⟨by first | exact e.frames | (simpa [Around.in1] using e.frames), e.mod, e.bs, e.bsz, e.funs, e.frf, e.hok, e.bare⟩
theorem FpOk.frs {X : Cx} {pins : List (Addr × Obj)} {σ : L2.St} {H : Hp} {s : Shared} (I : Inv X pins σ H s) {b : Addr} (f : FpOk X pins H b) : b ∉ frs X.stack := fun z => by
  rcases List.mem_cons.mp (I.stkSub b z) with z | z
  · exact f.2.1 z
  · exact f.2.2.1 z
section
variable {X : Cx} {pins : List (Addr × Obj)} {σ : L2.St} {H Hc : Hp} {s : Shared} {kc : Nat} {f a : Addr} {fx : List (Addr × HO)} {wc w : Vw} {G : FnSem} {T : List (Addr × Str)} {xs : List V} {ds ks : List D} {m mE : Ms} {Q : VK}
theorem sortKey_run (I : Inv X pins σ H s) (hr : Room (kc + 2) X.A) (hgd : X.A.guards = some []) (hx0 : X.ex = []) (cl : ClAt X.prog X.w X.K X.mg X.base T kc 1 f fx wc Hc G (frs X.stack) s H) (hfx : ∀ p ∈ fx, H p.1 = some p.2 ∧ ∃ φ, p.2 = .ext φ) (hs : SqL X.K H a xs) (r : RpAll X.K (msk w H) xs ds) (hT : Tabs T H) (O : Obs X.K w m H) (hext : ExtN (msk wc Hc) (msk w H))
    (hkeys : keysF G ds m = .ok ks mE) (hok : sortOk ks = true) (hq : ∀ p vs H', H p = none → Grow w H H' → Tabs T H' → H' p = some (.lst vs) → Obs X.K ⟨w.as, p :: w.ex⟩ mE H' → RpAll X.K (msk ⟨w.as, p :: w.ex⟩ H') vs (sortBy ds ks) → Q (.ref p) H') :
    wpAny (model X.prog X.w) X.A (call (.builtin "sorted") [.ref a] [(Str.ofString "key", .ref f)]) (EP X pins σ Q) X.xe s := by
  obtain ⟨its, rv, hl, hz⟩ := I.list hs
  obtain ⟨o1, o2, o3, o4⟩ := sortOk_of hok
  have hlen := dpa_len r
  have hkl := keysF_len hkeys
  have hil : its.length = ds.length := by rw [← rv.length]; exact hlen
  have hZ : its.length ≤ sizeLine := by rw [← rv.length]; exact hz
  refine PySem.W.sorted_of_sort hl.isList hZ (PyProof.Rows.ksk_s1 _ _) (fun _ => PyProof.Rows.ksk_l1 _ _) fun E' => ?_
  rw [PyProof.Rows.ksk_t1]
  have ho := PySem.W.copyHeap_at s.heap its
  obtain ⟨D, hD⟩ : ∃ D, D = s.heap.objs.size + 1 := ⟨_, rfl⟩
  rw [← hD] at ho ⊢
  have oldC : ∀ b o, s.heap.get? b = some o → (PySem.W.copyHeap s.heap its).get? b = some o := fun b o q => PySem.W.copyHeap_old q
  generalize hc0 : PySem.W.copyHeap s.heap its = c0 at ho oldC ⊢
  obtain ⟨e1, ho1⟩ : ∃ e1, (c0.update D (Obj.mapSeq fun _ => (#[] : Array Value))).get? D = some (seqObj "list" #[] e1) := ⟨_, get?_update_seq ho fun _ => #[]⟩
  unfold PyProof.Rows.ksk_tree
  refine wpAny_bind (listItems_at ho rfl ?_)
  refine wpAny_bind (listUpdate_at ho rfl ?_ (by rw [List.size_toArray]; exact hZ) (Nat.zero_le _))
  refine wpAny_bind (seqEpoch_at ho1 rfl ?_)
  refine wpAny_bind (wpAny_newTuple ?_ (by show its.length ≤ _; exact hZ))
  refine wpAny_bind (wpAny_newList ?_ (Nat.zero_le _))
  refine wpAny_holding ?_
  have hDl : D < c0.objs.size := Heap.lt_size ho
  have hszC : s.heap.objs.size ≤ D := by rw [hD]; exact Nat.le_succ _
  obtain ⟨kS, hkS⟩ : ∃ kS, kS = ((c0.update D (Obj.mapSeq fun _ => (#[] : Array Value))).push (seqObj "tuple" its.toArray 0)).objs.size := ⟨_, rfl⟩
  have hkS' : kS = c0.objs.size + 1 := by rw [hkS, size_push', Heap.size_update]
  obtain ⟨c3, hc3⟩ : ∃ c3, c3 = ((c0.update D (Obj.mapSeq fun _ => (#[] : Array Value))).push (seqObj "tuple" its.toArray 0)).push (seqObj "list" #[] 0) := ⟨_, rfl⟩
  have atK : c3.get? kS = some (seqObj "list" #[] 0) := by rw [hc3, hkS]; exact Heap.get?_push_size _ rfl
  have atD : c3.get? D = some (seqObj "list" #[] e1) := by rw [hc3]; exact Heap.get?_push_of_some _ (Heap.get?_push_of_some _ ho1)
  have old3 : ∀ b o, s.heap.get? b = some o → c3.get? b = some o := fun b o q => by
    have hb : b ≠ D := Nat.ne_of_lt (Nat.lt_of_lt_of_le (Heap.lt_size q) hszC)
    rw [hc3]
    refine Heap.get?_push_of_some _ (Heap.get?_push_of_some _ ?_)
    rw [Heap.get?_update_ne _ _ _ _ hb]
    exact oldC b o q
  have hDK : D ≠ kS := by rw [hkS']; exact Nat.ne_of_lt (Nat.lt_succ_of_lt hDl)
  have hKs : s.heap.objs.size ≤ kS := by rw [hkS']; exact Nat.le_of_lt (Nat.lt_of_le_of_lt hszC (Nat.lt_succ_of_lt hDl))
  rw [← hkS]
  show wpAny _ _ (PyProof.Rows.ksk_rest D (.ref f) false its.toArray e1 (.ref kS)) _ _ { s with heap := ((c0.update D (Obj.mapSeq fun _ => (#[] : Array Value))).push (seqObj "tuple" its.toArray 0)).push (seqObj "list" #[] 0), toks := s.toks }
  rw [← hc3]
  have hDn : H D = none := I.hok.fresh hszC
  have I1 : Inv X pins σ H { s with heap := c3, toks := s.toks } := I.kept (t' := s.toks) old3
  have fK : FpOk X pins H kS := I.fpOk hKs (I.hok.fresh hKs)
  have fD : FpOk X pins H D := I.fpOk hszC hDn
  have later0 : Later (frs X.stack) s H { s with heap := c3, toks := s.toks } H := fun b o e n hb => ⟨old3 b o e, n⟩
  unfold PyProof.Rows.ksk_rest
  refine wpAny_bind (wpAny_rule ?_)
  first
    | rw [List.forIn_toArray]
    | (rw [← Array.forIn_toList]; simp only [List.toList_toArray])
    | rw [← Array.forIn_toList]
  let J : Nat → Shared → Prop := fun i s' => ∃ (H' : Hp) (kV : List V) (done rest : List DS.D) (kA : Array Value) (e : Nat) (m' : Ms), Inv X pins σ H' s' ∧ FpOk X pins H' kS ∧ FpOk X pins H' D ∧ s'.heap.get? D = some (seqObj "list" #[] e1) ∧ s'.heap.get? kS = some (seqObj "list" kA e) ∧ Vals kV kA.toList ∧ RpAll X.K (msk w H') kV done ∧
    Grow w H H' ∧ Tabs T H' ∧ Obs X.K w m' H' ∧ Later (frs X.stack) s H s' H' ∧ keysF G (ds.drop i) m' = .ok rest mE ∧ ks = done ++ rest ∧ done.length = i
  refine wpAny_bind (PyProof.Rows.ksk_fold J its 0 _ ⟨H, [], [], ks, #[], 0, m, I1, fK, fD, atD, atK, .nil, .nil, .refl _ _, hT, O, later0, hkeys, rfl, rfl⟩ ?step ?done)
  case step =>
    rintro i x s' hx ⟨H', kV, done, rest, kA, e, m', I', fK', fD', hD', nk', rk, rd, gr, tb, ob, lt, hk, hks, hdl⟩
    simp only [Nat.zero_add] at hk hdl ⊢
    have hi : i < its.length := (List.getElem?_eq_some_iff.mp hx).1
    have hid : i < ds.length := by omega
    have hcons : ds.drop i = ds[i] :: ds.drop (i + 1) := List.drop_eq_getElem_cons hid
    rw [hcons] at hk
    unfold keysF at hk
    have hkz : kA.size ≤ its.length := by
      have q1 : kV.length = kA.size := by rw [← Array.length_toList]; exact rk.length
      have q2 : kV.length = done.length := dpa_len rd
      omega
    cases h1 : G [.v ds[i]] m' with
    | bad => rw [h1] at hk; cases hk
    | exc _ _ => rw [h1] at hk; cases hk
    | ok k m1 =>
      rw [h1] at hk
      simp only [Res.noX_ok, Res.bind_ok] at hk
      cases h2 : keysF G (ds.drop (i + 1)) m1 with
      | bad => rw [h2] at hk; cases hk
      | exc _ _ => rw [h2] at hk; cases hk
      | ok ks' m2 =>
        rw [h2] at hk
        simp only [Res.bind_ok] at hk
        cases hk
        have ext' : ExtN (msk w H) (msk w H') := gr.ext
        obtain ⟨v, hv, rvx⟩ : ∃ v, xs[i]? = some v ∧ RelV v x := by
          have hxl : i < xs.length := by omega
          obtain ⟨u, q1, q2⟩ := rv.get (List.getElem?_eq_getElem hxl)
          rw [hx] at q1; cases q1
          exact ⟨_, List.getElem?_eq_getElem hxl, q2⟩
        obtain ⟨d, hd, rdv⟩ := dpa_get' r hv
        have ed : d = ds[i] := by rw [List.getElem?_eq_getElem hid] at hd; exact (Option.some.inj hd).symm
        subst ed
        have nfx : ∀ p ∈ fx, H' p.1 = some p.2 := fun p hp => by
          obtain ⟨q1, φ, q2⟩ := hfx p hp
          refine gr.keep p.1 p.2 q1 (fun ps z => by rw [q2] at z; cases z) fun z => ?_
          obtain ⟨kk, hkk⟩ := List.getElem?_of_mem (show some p.1 ∈ w.as from z)
          obtain ⟨ds', vs', _, q3, _⟩ := O.at_ kk _ hkk
          rw [q1, q2] at q3; cases q3
        have run := cl.run X.A.in1.in1 X.stack s' H' [x] [v] (fun u H'' => Grow w H' H'' ∧ Tabs T H'' ∧ Obs X.K w m1 H'' ∧ Rp X.K (msk w H'') u k) (fun _ _ _ => False) w m' [.v ds[i]] (hr.in1.in1) hgd (Env0.in1 (Env0.in1 I'.env0)) lt nfx (.cons rvx .nil) tb ob rfl ⟨⟨rfl, v, rfl, dp_ext ext' _ _ rdv⟩, trivial⟩ (hext.trans ext')
          (by rw [h1]; exact fun u H'' g t o rr => ⟨g, t, o, rr⟩)
        refine wpAny_bind (wpAny_attempt (wpAny_call (codeAny_mono run fun rr s'' hq' => ?_)))
        cases rr with
        | error e =>
          obtain ⟨_, _, _, _, _, _, _, _, _, _, _, _, z⟩ := hq'
          exact False.elim z
        | ok fl =>
          cases fl with
          | next => exact False.elim hq'
          | brk => exact False.elim hq'
          | cont => exact False.elim hq'
          | ret u =>
            obtain ⟨uV, H'', os, bare, un, hok'', ru, g2, t2, ob2, r2⟩ := hq'
            have I2 : Inv X pins σ H'' s'' := I'.call' (ch := []) os un hok'' bare (fun b z => absurd z (by simp))
            have nk2 : s''.heap.get? kS = some (seqObj "list" kA e) := un.keep kS _ nk' fK'.1 (FpOk.frs I' fK') (by simp)
            have fK2 : FpOk X pins H'' kS := ⟨un.free kS _ nk' fK'.1 (by simp), fK'.2⟩
            have s1 := Heap.SameBut.update s''.heap kS (Obj.mapSeq (·.push u))
            obtain ⟨c2, hc2⟩ : ∃ c2, (s''.heap.update kS (Obj.mapSeq (·.push u))).get? kS = some (seqObj "list" (kA.push u) c2) := ⟨_, get?_update_seq nk2 (·.push u)⟩
            refine wpAny_bind (listUpdate_at nk2 rfl ?_ (Nat.le_trans hkz hZ) (Nat.le_trans (Nat.le_of_eq (Array.size_push ..)) (Nat.succ_le_succ (Nat.le_trans hkz hZ))))
            have I3 := I2.turnedL (h' := s''.heap.update kS (Obj.mapSeq (·.push u))) (t' := s''.toks) (ch := [kS]) (fun b o hb q => (s1.2 b (by simpa using hb)).trans q) (fun b hb => by rw [List.mem_singleton.mp hb]; exact fK2)
            have hD2 : s''.heap.get? D = some (seqObj "list" #[] e1) := un.keep D _ hD' fD'.1 (FpOk.frs I' fD') (by simp)
            have fD2 : FpOk X pins H'' D := ⟨un.free D _ hD' fD'.1 (by simp), fD'.2⟩
            have l2 : Later (frs X.stack) s H s'' H'' := fun b o q1 q2 q3 => by
              obtain ⟨p1, p2⟩ := lt b o q1 q2 q3
              exact ⟨un.keep b o p1 p2 q3 (by simp), un.free b o p1 p2 (by simp)⟩
            have hnk : ∀ b o, s.heap.get? b = some o → b ≠ kS := fun b o q => Nat.ne_of_lt (Nat.lt_of_lt_of_le (Heap.lt_size q) hKs)
            refine wpAny_pure ⟨rfl, H'', kV ++ [uV], done ++ [k], ks', kA.push u, c2, m1, I3, fK2, fD2, (s1.2 D hDK).trans hD2, hc2, ?_, ?_, gr.trans g2, t2, ob2, fun b o q1 q2 q3 => ⟨(s1.2 b (hnk b o q1)).trans (l2 b o q1 q2 q3).1, (l2 b o q1 q2 q3).2⟩, h2, by rw [hks]; simp, by simp [hdl]⟩
            · have ea : (kA.push u).toList = kA.toList ++ [u] := by simp
              rw [ea]; exact rk.append (.cons ru .nil)
            · exact dpa_app (dpa_ext g2.ext _ _ rd) (.cons r2 .nil)
  case done =>
    rintro s' ⟨H', kV, done, rest, kA, e, m', I', fK', fD', hD', nk', rk, rd, gr, tb, ob, lt, hk, hks, hdl⟩
    simp only [Nat.zero_add] at hk hdl
    rw [hil, List.drop_length] at hk
    cases hk
    rw [List.append_nil] at hks
    subst hks
    refine wpAny_bind (listItems_at nk' rfl ?_)
    obtain ⟨Gh, g1, g2⟩ := restrict s'.heap fun b => decide (b ≠ kS ∧ b ≠ D)
    have gk : ∀ b o, b ≠ kS → b ≠ D → s'.heap.get? b = some o → Gh.get? b = some o := fun b o hb hb' q => (g1 b (by simp [hb, hb'])).trans q
    have gn : Gh.get? kS = none := g2 kS (by simp)
    have gD : Gh.get? D = none := g2 D (by simp)
    have gs : ∀ b o, Gh.get? b = some o → s'.heap.get? b = some o := fun b o q => by
      by_cases hb : b = kS
      · rw [hb, gn] at q; cases q
      · by_cases hb' : b = D
        · rw [hb', gD] at q; cases q
        · exact (g1 b (by simp [hb, hb'])).symm.trans q
    have IG : Inv X pins σ H' { s' with heap := Gh, toks := s'.toks } := I'.turnedL (t' := s'.toks) (ch := [kS, D]) (fun b o hb q => gk b o (fun z => hb (by simp [z])) (fun z => hb (by simp [z])) q) (fun b hb => by
      have e' : b = kS ∨ b = D := by simpa using hb
      rcases e' with z | z
      · rw [z]; exact fK'
      · rw [z]; exact fD')
    have kAl : kA.toList.length = ks.length := by rw [← rk.length]; exact dpa_len rd
    have hsz : kA.size = its.length := by rw [← Array.length_toList, kAl]; omega
    have eachK : PySem.W.EachIs (fun v d => ∃ as, Reads s'.heap v d as) kA.toList ks := reads_all I' (unmskA (j := ⟨X, ⟨T, []⟩, [], [], fun _ _ _ _ => True⟩) rd) rk
    refine PySem.W.keyH_end (κ := PySem.W.dataKind s'.heap ks) (h₁ := Gh) (fun b o _ q => gs b o q) gn nk' hD' (Ne.symm hDK) (PySem.W.SortsAt.data (s := s') eachK o1 o2 fun d hd => ?_) hsz hZ fun h3 tk3 c k3 n3 => ⟨rfl, ?_⟩
    · have q1 := o3 d hd
      have q2 := hr.units
      show X.A.units + 1 + 1 + d.depth < cLine
      omega
    have eo := PySem.W.keyedOut_each (rev := false) (bs := rows xs ds ks) (R := fun v (b : Row) => RelV b.1 v) (k := fun b : Row => b.2.2) (vs := its) (out := PySem.W.sortVals (PySem.W.dataKind s'.heap ks) false kA.toList its) (by
      rw [rows_keys hlen hkl]
      exact ⟨s'.heap, kA.toList, o1, rfl, eachK⟩) (rows_rel hlen hkl rv)
    have hsl := sortV_len hlen hkl
    have Ifin : Inv X pins σ (upd H' D (.lst (sortV xs ds ks))) { s' with heap := h3, toks := tk3 } := IG.laidN (t' := tk3) (fun b u q => k3 b u (fun z => by rw [z, gD] at q; cases q) q) gD fD'.1 ⟨by rw [hsl]; exact lineN_le (by omega), _, c, each_vals eo, n3⟩
    have Oh := obs_hide (vs := sortV xs ds ks) ob fD'.1
    have rs := sortV_data hkl (dpa_ext (gr.ext.trans (hide_ext (o := .lst (sortV xs ds ks)) fD'.1)) _ _ r)
    have fin := hq D (sortV xs ds ks) (upd H' D (.lst (sortV xs ds ks))) hDn ⟨fun b o q1 q2 q3 => ?_, fun b hb => ?_⟩ (tb.ext (same_new fD'.1)) upd_same Oh rs
    · rw [hD] at fin Ifin ⊢
      exact ⟨.ref _, _, Ifin, rfl, fin⟩
    · have q4 := gr.keep b o q1 q2 q3
      rw [upd_ne (ne_of_none q4 fD'.1)]; exact q4
    · refine gr.there b fun o q => ?_
      exact hb o (by rw [upd_ne (ne_of_none q fD'.1)]; exact q)

end
end DS

set_option maxRecDepth 100000
set_option maxHeartbeats 2000000
namespace DS
open PySem PySem.Spec PyProof.Rows L2 LamX NdefX

theorem keysF_exc {G : FnSem} : ∀ {ds : List D} {m : Ms} {x : Exc} {m' : Ms}, keysF G ds m ≠ .exc x m'
  | [], m, x, m', h => by cases h
  | d :: ds, m, x, m', h => by
    unfold keysF at h
    cases h1 : G [.v d] m with
    | bad => rw [h1] at h; cases h
    | exc _ _ => rw [h1] at h; cases h
    | ok k m1 =>
      rw [h1] at h
      simp only [Res.noX_ok, Res.bind_ok] at h
      cases h2 : keysF G ds m1 with
      | bad => rw [h2] at h; cases h
      | exc _ _ => exact keysF_exc h2
      | ok ks' m2 => rw [h2] at h; cases h
def eSortL (N : Nat) (js : List Nat) (g : DE) (a : DE) : DE := fun ρ m => (a ρ m).bind fun d m => match d with
  | .list ds => (keysF (lamD N (js.map (capOf ρ)) g) ds m).bind fun ks m => if sortOk ks = true then .ok (.list (sortBy ds ks)) m else .bad
  | _ => .bad
section
variable {j : J} {k kb : Nat} {params : Arguments} {body : Expr} {scope : Scope} {lpos pos kpos p : Pos} {e : Expr} {ge g : DE} {c P : Addr} {lps fr NL : List Str} {js : List Nat}
theorem SE.sortedL (o : JOk j k) (hkb : kb + 3 ≤ k) (hg : Gl j.X "sorted") (hm : j.X.mg "sorted" = none) (hfnX : ∀ y, j.X.fn y = true) (hex : j.X.ex = []) (ha : SE j e ge) (M : Mkr j.X j.T.tabs (j.X.env.qual ++ "<lambda>") c P)
    (S : NScope NL lps fr scope) (hl1 : lps.length = 1) (hfr : ∀ y ∈ scope.names, y.2 = .free → j.X.env.scope.names.lookup y.1 = some .cell ∨ j.X.env.scope.names.lookup y.1 = some .free) (hfr2 : ∀ y ∈ fr, (y, NameKind.free) ∈ scope.names) (hjs : js.map (fun i => j.X.N[i]?) = fr.map some)
    (hbind : ∀ (q : Str) (cl : List (Str × Addr)) (pm cv ctv : Value) (us : List Value), us.length = lps.length → bindArgs (PySem.W.kla_fn "<lambda>" q params body scope cl pm cv ctv) ⟨us, []⟩ = pure (lps.zip us))
    (hbody : ∀ (cl : List (Str × Addr)) (c' f : Addr) (A : Around) (outer : List PySem.Env) (s1 : Shared) (H1 : Hp) (E : XK), JOk (J.lam j.X.prog j.X.w j.X.K j.X.mg j.X.base j.T.tabs NL (lamNF (j.X.env.qual ++ "<lambda>") params scope cl c') f A outer s1 H1 E) kb →
      SE (J.lam j.X.prog j.X.w j.X.K j.X.mg j.X.base j.T.tabs NL (lamNF (j.X.env.qual ++ "<lambda>") params scope cl c') f A outer s1 H1 E) body g)
    (hdef : defaultsOf params j.X.env = ([], []) := by rfl)
    (hst : starEach [e] j.X.env = (false, eval e j.X.env) :: starEach [] j.X.env := by rfl) (he : backTo pos (starEach [e] j.X.env) = (false, eval e j.X.env) :: backTo pos (starEach [] j.X.env) := by rfl) (hpl : (backTo pos (starEach [e] j.X.env)).any (·.1) = false := by rfl)
    (hall : (backToKw pos (keywordEach [⟨some "key", .Lambda params body scope lpos, kpos⟩] j.X.env)).all (·.1.isSome) = true := by rfl) (hnone : (backToKw pos (keywordEach [⟨some "key", .Lambda params body scope lpos, kpos⟩] j.X.env)).any (·.1.isNone) = false := by rfl) :
    SE j (.Call (.Name "sorted" p) [e] [⟨some "key", .Lambda params body scope lpos, kpos⟩] pos) (eSortL NL.length js g ge) := by
  obtain ⟨t1, p1, k1⟩ := ha
  refine ⟨fun σ H Q => t1 σ H fun x H1 => Tabs j.T.tabs H1 ∧ ∃ (a : Addr) (xs : List V) (ds ks : List D) (v : Vw) (m mE : Ms) (caps : List Slot), [x] = [V.ref a] ∧ SqL j.X.K H1 a xs ∧ RpAll j.X.K (msk v H1) xs ds ∧ Obs j.X.K v m H1 ∧ (caps.length = fr.length ∧ ∀ (i : Nat) x, caps[i]? = some x → capB x = true ∧ SlotOk j.X.K [] v H1 (js.map (slotAt σ))[i]? x) ∧
      keysF (lamD NL.length caps g) ds m = .ok ks mE ∧ sortOk ks = true ∧ ∀ p vs H', NT H1 p → Grow v H1 H' → Tabs j.T.tabs H' → H' p = some (.lst vs) → Obs j.X.K ⟨v.as, p :: v.ex⟩ mE H' → RpAll j.X.K (msk ⟨v.as, p :: v.ex⟩ H') vs (sortBy ds ks) → Q (.ref p) H', ⟨fun pins s σ H Q I h => ?_⟩, fun w ρ m σ H Q E h => ?_⟩
  · refine wpAny_Call_Name_kw (ld_blt I hg hm boot_sorted ?_)
    refine PyProof.Rows.callWith_kw (thn ((pa_cons p1 pa_nil hst).run pos pins s σ H (fun vs H1 => Tabs j.T.tabs H1 ∧ ∃ (a : Addr) (xs : List V) (ds ks : List D) (v : Vw) (m mE : Ms) (caps : List Slot), vs = [V.ref a] ∧ SqL j.X.K H1 a xs ∧ RpAll j.X.K (msk v H1) xs ds ∧ Obs j.X.K v m H1 ∧ (caps.length = fr.length ∧ ∀ (i : Nat) x, caps[i]? = some x → capB x = true ∧ SlotOk j.X.K [] v H1 (js.map (slotAt σ))[i]? x) ∧
      keysF (lamD NL.length caps g) ds m = .ok ks mE ∧ sortOk ks = true ∧ ∀ p vs H', NT H1 p → Grow v H1 H' → Tabs j.T.tabs H' → H' p = some (.lst vs) → Obs j.X.K ⟨v.as, p :: v.ex⟩ mE H' → RpAll j.X.K (msk ⟨v.as, p :: v.ex⟩ H') vs (sortBy ds ks) → Q (.ref p) H') I h) fun us s1 ⟨vs, H1, I1, r1, q1⟩ => ?_) he hpl hall hnone
    obtain ⟨T1, a, xs, ds, ks, v, m, mE, caps, ev, hs, hr, hO, hc, hk, hok, hq⟩ := q1
    subst ev
    obtain ⟨u, rfl, ru⟩ := vals1 r1
    obtain rfl : u = Value.ref a := ru
    show wpAny _ _ (evalAll ((do let v ← eval (.Lambda params body scope lpos) j.X.env; standAt pos; pure v) :: (backToKw pos (keywordEach [] j.X.env)).map (·.2))) _ _ s1
    refine wpAny_evalAll_cons (wpAny_bind (lam_make2 I1 M.tb M.code M.mem M.one T1 hdef (fun y hy z => I1.ok.has _ (hfr y hy z)) fun f c' pm ctv H2 s2 I2 eN T2 hf hfn hff hco => wpAny_bind (wpAny_standAt (wpAny_pure ?_))))
    refine wpAny_evalAll_nil ?_
    show wpAny _ _ (PySem.call (.builtin "sorted") [.ref a] [(Str.ofString "key", .ref f)]) _ _ s2
    have gr : Grow v H1 H2 := grow_ext eN
    have C := cells_of I2 (Caps.made I2.ok hfr hfr2 hjs)
    have cl0 : ClAt j.X.prog j.X.w j.X.K j.X.mg j.X.base j.T.tabs (kb + 1) lps.length f [(c', CodeO c' (j.X.env.qual ++ "<lambda>"))] v H2 (lamD NL.length caps g) (frs j.X.stack) s2 H2 := by
      refine clAt_lam S hf hfn hff C (fun y cc hc => ?_) (hbind _ _ _ _ _) ⟨hc.1, fun i x hx => ?_⟩ (hbody _ c' f)
      · refine cell_frame I2 hfnX (y := y) ?_
        exact clo_cm (fun y hy e => I2.ok.has _ (hfr y hy e)) hc
      · obtain ⟨b1, b2⟩ := hc.2 i x hx
        exact ⟨b1, b2.ext gr.ext fun _ _ z => .inl z⟩
    have cl := cl0
    rw [hl1] at cl
    refine sortKey_run I2 (o.hr.mono hkb) o.gd hex cl (fun q hq' => ?_) (sql_ext eN hs) (dpa_ext gr.ext _ _ hr) T2 (obs_ext hO eN) (fun _ _ z _ => z) hk hok fun p vs H' hp g t e1 ob rr => ?_
    · rw [List.mem_singleton.mp hq']
      exact ⟨hco, _, rfl⟩
    · refine hq p vs H' ?_ (gr.trans g) t e1 ob rr
      intro oo hz
      refine Classical.byContradiction fun hh => ?_
      have := eN p oo hz (fun ps z => hh ⟨ps, z⟩)
      rw [hp] at this; cases this
  · refine k1 w ρ m σ H _ E (Post.bind h fun d m1 hx v H1 A1 r1 h1 => ?_)
    refine ⟨A1.tabs.tabs, ?_⟩
    cases d with
    | list ds =>
      cases r1 with
      | lst q1 q2 =>
        simp only at h1
        cases hk : keysF (lamD NL.length (js.map (capOf ρ)) g) ds m1 with
        | bad => rw [hk] at h1; exact h1.elim
        | exc _ _ => exact (keysF_exc hk).elim
        | ok ks mE =>
          rw [hk] at h1
          simp only [Res.bind_ok] at h1
          split at h1
          case isFalse => exact h1.elim
          rename_i hok
          refine ⟨_, _, ds, ks, w, m1, mE, js.map (capOf ρ), rfl, rd_unmsk q1, q2, A1.obs, ⟨?_, fun i x hi => ?_⟩, hk, hok, fun p vs H' hp gr t e1 ob rr => ?_⟩
          · have q := congrArg List.length hjs
            simpa using q
          · rw [List.getElem?_map] at hi
            cases hj : js[i]? with
            | none => rw [hj] at hi; cases hi
            | some jj =>
              rw [hj] at hi
              have hi : capOf ρ jj = x := Option.some.inj hi
              unfold capOf at hi
              split at hi
              · rename_i d hd
                subst hi
                obtain ⟨u, e1, e2⟩ := (E.step A1).sl jj _ hd
                refine ⟨rfl, u, ?_, e2⟩
                rw [List.getElem?_map, hj]
                exact congrArg some (slotAt_of e1)
              · subst hi
                exact ⟨rfl, trivial⟩
          · obtain ⟨o1, o2⟩ := obs_show ob
            refine h1 (.ref p) H' ⟨gr, A1.tabs.grow A1.obs gr t, o1⟩ (.lst (.inl (.inl (msk_of e1 fun z => ?_))) (dpa_ext o2 _ _ rr))
            rcases z with z | z
            · exact (ob.exs p List.mem_cons_self).2 z
            · obtain ⟨⟨o', g1, g2⟩, _⟩ := A1.obs.exs p z
              exact hp.ne g1 g2 rfl
    | _ => exact False.elim h1
end
end DS

set_option maxRecDepth 100000
set_option maxHeartbeats 2000000
namespace DS
open PySem PySem.Spec PyProof.Rows L2 LamX NdefX

/-! ### repr -/
def showOk (d : D) : Bool := d.showable && !d.hasDict && decide (d.depth ≤ 60) && decide (d.shown.length ≤ lineN)
def dRepr : List D → Option D
  | [.list ds] => if showOk (.list ds) then some (.str (PyData.shown (.list ds))) else none
  | _ => none
theorem cr_repr {X : Cx} (hu : X.A.units + 64 < cLine) (hgd : X.A.guards = some []) : CallR X (.builtin "repr") (fun vs H Q => ∃ a d, vs = [.ref a] ∧ Rp X.K H (.ref a) d ∧ showOk d = true ∧ Q (.str d.shown) H) := by
  intro pins s σ H xs us Q I r h
  obtain ⟨a, d, rfl, hd, hok, q⟩ := h
  obtain ⟨u, rfl, ru⟩ := vals1 r
  obtain rfl : u = Value.ref a := ru
  unfold showOk at hok
  simp only [Bool.and_eq_true, decide_eq_true_eq, Bool.not_eq_true'] at hok
  obtain ⟨⟨⟨h1, h2⟩, h3⟩, h4⟩ := hok
  obtain ⟨as, rd⟩ := Dp.reads I d _ _ (hd.dp d _) (show RelV (.ref a) (Value.ref a) from rfl)
  exact repr_of_reads' rd h1 (fun z => by rw [h2] at z; cases z) hgd (by omega) (fun _ _ e => e) (fun h' u tk k => ⟨.str _, H, I.kept (t' := tk) k, ⟨_, rfl⟩, q⟩) (lineN_le h4)
theorem CallD.repr {j : J} {k : Nat} (o : JOk j k) : CallD j (.builtin "repr") dRepr := by
  refine ⟨_, cr_repr o.hu o.gd, fun w m H vs ds z Q T O r hz q => ?_⟩
  unfold dRepr at hz
  split at hz
  · obtain ⟨v, rfl, rr⟩ := ra1 r
    split at hz
    · rename_i hok
      cases hz
      obtain ⟨a, us, rfl, q1, q2⟩ := rt_lst rr
      exact ⟨_, _, rfl, .lst q1 (unmskA q2), hok, fin_val T O (.str _) q⟩
    · cases hz
  · cases hz
/-! ### gcd of three -/
theorem gcd3_gives (a : Int) (t : Tok) (b : Int) (u : Tok) (c : Int) (v : Tok) : Gives (Builtin.«math.gcd» ⟨[.int a t, .int b u, .int c v], []⟩) (.int ((((Nat.gcd (Nat.gcd (Nat.gcd 0 a.natAbs) b.natAbs) c.natAbs) : Nat) : Int))) :=
  .of_wp fun M A E s Q h => by obtain ⟨hp, g, d, tk, os⟩ := s; wp_walk; exact ⟨_, rfl, h⟩
theorem gcd3_args (a b c : Value) : argsOk "math.gcd" ⟨[a, b, c], []⟩ := by unfold argsOk; kernel_rfl
def dGcdA : List D → Option D
  | [.int a, .int b] => some (.int ((Nat.gcd a.natAbs b.natAbs : Nat) : Int))
  | [.int a, .int b, .int c] => some (.int ((Nat.gcd (Nat.gcd a.natAbs b.natAbs) c.natAbs : Nat) : Int))
  | _ => none
theorem cr_gcdA {X : Cx} : CallR X (.builtin "math.gcd") (fun vs H Q => (∃ a b : Int, vs = [.int a, .int b] ∧ Q (.int ((Nat.gcd a.natAbs b.natAbs : Nat) : Int)) H) ∨ ∃ a b c : Int, vs = [.int a, .int b, .int c] ∧ Q (.int ((Nat.gcd (Nat.gcd a.natAbs b.natAbs) c.natAbs : Nat) : Int)) H) := by
  intro pins s σ H vs us Q I r h
  rcases h with ⟨a, b, rfl, q⟩ | ⟨a, b, c, rfl, q⟩
  · exact cr_gcd pins s σ H _ us Q I r ⟨a, b, rfl, q⟩
  · match us, r with
    | [u1, u2, u3], .cons ⟨t1, e1⟩ (.cons ⟨t2, e2⟩ (.cons ⟨t3, e3⟩ .nil)) =>
      subst e1 e2 e3
      have g := gcd3_gives a t1 b t2 c t3
      rw [Nat.gcd_zero_left] at g
      exact call_function_meets PySem.W.MGF.kind_gcd PySem.W.MGF.plain_gcd PySem.W.MGF.entry_gcd (gcd3_args _ _ _) g.meets ⟨.int _, H, I.tok _, ⟨_, rfl⟩, q⟩
theorem ra3 {j : J} {w : Vw} {H : Hp} : ∀ {vs : List V} {d d' d'' : D}, RTs j w [d, d', d''] vs H → ∃ v v' v'', vs = [v, v', v''] ∧ RT j w d v H ∧ RT j w d' v' H ∧ RT j w d'' v'' H
  | [v, v', v''], _, _, _, r => ⟨v, v', v'', rfl, r.1, r.2.1, r.2.2.1⟩
  | [], _, _, _, r => r.elim
  | [_], _, _, _, r => r.2.elim
  | [_, _], _, _, _, r => r.2.2.elim
  | _ :: _ :: _ :: _ :: _, _, _, _, r => r.2.2.2.elim
theorem CallD.gcdA {j : J} : CallD j (.builtin "math.gcd") dGcdA := by
  refine ⟨_, cr_gcdA, fun w m H vs ds z Q T O r hz q => ?_⟩
  unfold dGcdA at hz
  split at hz
  · obtain ⟨v, v', rfl, rr, rr'⟩ := ra2 r
    cases hz; cases rt_int rr; cases rt_int rr'
    exact .inl ⟨_, _, rfl, fin_val T O (.int _) q⟩
  · obtain ⟨v, v', v'', rfl, rr, rr', rr''⟩ := ra3 r
    cases hz; cases rt_int rr; cases rt_int rr'; cases rt_int rr''
    exact .inr ⟨_, _, _, rfl, fin_val T O (.int _) q⟩
  · cases hz

/-! ### raise X() -/
section
variable {j : J} {k : Nat} {pos cpos p : Pos} {x : Str}
/-- what the program's class x, an exception without own __init__, is known by -/
structure RaiseC (X : Cx) (x : Str) : Prop where
  ex : ∃ (C : Addr) (bmB : List Value) (B newId initId : String), ExcBaseFacts B newId initId bmB ∧ PySem.W.excIn X.K C bmB newId = true ∧ X.mg x = some (.ref C) ∧ PySem.W.keepIn X.K (.ref C) = true ∧ PySem.W.subIn X.K (.ref C) (.type "BaseException") = some true ∧ PySem.W.typeIn X.K (.ref C) = some (.type "type")
theorem pmk_own0 {X : Cx} {C : Addr} {bmB : List Value} {B newId initId : String} (F : ExcBaseFacts B newId initId bmB) (q : PySem.W.excIn X.K C bmB newId = true) (gC : X.mg x = some (.ref C))
    (kC : PySem.W.keepIn X.K (.ref C) = true) (r : Raises X (.ref C)) (hg : Gl X x) (hdb : (x == ("__debug__" : Str)) = false := by decide) : PMk X (.Call (.Name x p) [] [] cpos) (fun _ H Q => Q (.ref C) none H) := by
  intro pins s σ H Q I h
  refine wpAny_Call_Name_kw (ld_glob I hg gC ?_ hdb)
  refine PySem.W.callWith_K0 I.kIn kC ?_
  show wpAny _ _ (PySem.call (.ref C) []) _ _ _
  obtain ⟨bm, N, nm, qn, bs, hdct, sn, sub, ab, col, dd, k0, k1, k2, k3, k5, mN, hC, hN, hni, T⟩ := exc_obj I.kIn q
  refine wpAny_call_exc_subT F T hC hN hni (fun h' e hm => ?_) (Nat.zero_le _)
  exact mk_of I hm r h (I.hok.gone hm.new)
def sRaise0 (x : Str) : DS := fun _ m => .exc ⟨x, none⟩ m
theorem SS.raise0 (o : JOk j k) (R : RaiseC j.X x) (hg : Gl j.X x) (hdb : (x == ("__debug__" : Str)) = false := by decide) : SS j (.Raise (some (.Call (.Name x p) [] [] cpos)) none pos) (sRaise0 x) := by
  obtain ⟨C, bmB, B, newId, initId, F, q, gC, kC, h1, h2⟩ := R.ex
  exact ⟨_, ps_raise o.calm o.tk (pmk_own0 F q gC kC (raises_own h1 h2) hg hdb), fun w0 H0 w ρ m σ H E s h => h (.ref C) none σ H s.fin ⟨C, gC, rfl, rfl⟩⟩
end
end DS

set_option maxRecDepth 100000
set_option maxHeartbeats 2000000
namespace DS
open PySem PySem.Spec PyProof.Rows L2 LamX NdefX

/-! ### try: act() except B as e: return isinstance(e, c) and isinstance(e, ValueError) -/
structure ExcK (X : Cx) (c b : Str) : Prop where
  ex : ∃ D B, X.mg c = some (.ref D) ∧ X.mg b = some (.ref B) ∧ ExcC X.K D ∧ PySem.W.exmOne X.K (.ref D) (.ref B) = some true ∧ PySem.W.kitOne X.K (.ref D) (.ref D) = some true ∧ PySem.W.kitOne X.K (.ref D) (.type "ValueError") = some true
def sTryIs (ia l iE : Nat) (G : FnSem) (c : Str) : DS := fun ρ m => if fnAtS ia l ρ = true ∧ iE < ρ.length then match G [] m with
  | .bad => .bad
  | .ok _ m' => .next ρ m'
  | .exc x m' => if x.cls = c ∧ x.pay.isNone = true then .ret (.bool true) m' else .bad
  else .bad
section
variable {j : J} {k kc l : Nat} {G : FnSem} {act n c b : Str} {p p1 p2 p3 p4 p5 q1 q2 q3 q4 q5 q6 q7 q8 q9 pos pos' np : Pos}
theorem SS.tryIs (ia iE : Nat) (cl : ClX j l kc 0 G) (o : JOk j k) (hk : kc ≤ k) (R : ExcK j.X c b) (hstk : j.X.stack = j.X.env :: j.X.outer) (hfr : j.X.env.frame = some j.X.env.locals) (ha : j.X.N[ia]? = some act) (hva : Vis j.X.env.scope act) (hda : (act == ("__debug__" : Str)) = false) (hca : (act == ("__classdict__" : Str)) = false)
    (hE : j.X.N[iE]? = some n) (hln : j.X.env.kindOf n = some .local) (hdn : (n == ("__debug__" : Str)) = false) (hcn : (n == ("__classdict__" : Str)) = false)
    (hgb : Gl j.X b) (hdb : (b == ("__debug__" : Str)) = false) (hgc : Gl j.X c) (hdc : (c == ("__debug__" : Str)) = false) (hgi : Gl j.X "isinstance") (hmi : j.X.mg "isinstance" = none) (hgv : Gl j.X "ValueError") (hmv : j.X.mg "ValueError" = none)
    (hsw : swapsWith (.Call (.Name act p) [] [] p1) none p2.line j.X.env = pure false)
    (hs1 : starEach [.Name n p3, .Name c p4] j.X.env = (false, eval (.Name n p3) j.X.env) :: starEach [.Name c p4] j.X.env) (hs2 : starEach [.Name c p4] j.X.env = (false, eval (.Name c p4) j.X.env) :: starEach [] j.X.env)
    (hs3 : starEach [.Name n q3, .Name "ValueError" q4] j.X.env = (false, eval (.Name n q3) j.X.env) :: starEach [.Name "ValueError" q4] j.X.env) (hs4 : starEach [.Name "ValueError" q4] j.X.env = (false, eval (.Name "ValueError" q4) j.X.env) :: starEach [] j.X.env)
    (hpl1 : (backTo q1 (starEach [.Name c p4] j.X.env)).any (·.1) = false) (hpl2 : (backTo q5 (starEach [.Name "ValueError" q4] j.X.env)).any (·.1) = false) :
    SS j (.Try [.Expr (.Call (.Name act p) [] [] p1) p2] [.ExceptHandler (some (.Name b np)) (some n) [.Return (some (.BoolOp .And [.Call (.Name "isinstance" p5) [.Name n p3, .Name c p4] [] q1, .Call (.Name "isinstance" q2) [.Name n q3, .Name "ValueError" q4] [] q5] q6)) q7] pos'] [] [] pos) (sTryIs ia l iE G c) := by
  obtain ⟨⟨f, fx, bp, hf, hfx, hbp, cl⟩, hex⟩ := cl
  obtain ⟨D, B, mD, mB, eD, hexm, hk1, hk2⟩ := R.ex
  let X := j.X
  let tc : WX → TE := fun W σ H Q => σ[ia]? = some (some (.ref f)) ∧ ∃ (v : Vw) (m : Ms), (∀ p ∈ fx, H p.1 = some p.2) ∧ Tabs j.T.tabs H ∧ Obs X.K v m H ∧ ExtN (msk bp.1 bp.2) (msk v H) ∧ PostF X.K j.T.tabs X.mg v H Q (WE W σ) (G [] m)
  have ptc : ∀ (W : WX) (pn : List (Addr × Obj)) (xe : Value → Shared → Prop), L2.Takes (X.tr pn xe) W → PE (X.tr pn xe) (.Call (.Name act p) [] [] p1) (tc W) := by
    intro W pn xe tk
    refine ⟨fun pins s σ H Q I h => ?_⟩
    obtain ⟨hs, h⟩ := h
    refine wpAny_Call_Name_kw (thn ((pe_var (X := X.tr pn xe) (pos := p) ha hva hda hca).run pins s σ H (fun v H1 => v = .ref f ∧ H1 = H) I ⟨.ref f, hs, rfl, rfl⟩) fun u s1 ⟨v, H1, I1, r1, e1⟩ => ?_)
    obtain ⟨ev, eH⟩ := e1
    subst ev
    rw [eH] at I1
    obtain rfl : u = Value.ref f := r1
    refine PySem.W.callWith_F0 (first := []) (cl.fn _ _ (later_inv (X := X.tr pn xe) I1 hex)) ?_
    obtain ⟨v, m, g1, g2, g3, g6, g7⟩ := h
    refine wpAny_call (codeAny_mono (cl.run X.A X.stack s1 H [] [] Q (WE W σ) v m [] (o.hr.mono hk) o.gd I1.env0 (later_inv (X := X.tr pn xe) I1 hex) g1 .nil g2 g3 rfl trivial g6 g7) fun r s' hq => ?_)
    cases r with
    | error e => exact passAt tk σ pins H s1 e s' I1 hq
    | ok fl =>
      cases fl with
      | ret u => exact I1.after hq
      | next => exact False.elim hq
      | brk => exact False.elim hq
      | cont => exact False.elim hq
  let ts : Addr → Value → Option Addr → TS := fun a cls d E σ H => cls = .ref D ∧ d = none ∧ σ[iE]? = some (some (.ref a)) ∧ E.rt (.bl true) H
  refine ⟨_, ps_try_as (X := X) (i := iE) (x := b) (n := n) (c := .ref B) (tb := fun W E σ H => tc W σ H fun _ H' => E.nx σ H') (ts := ts) (Wout := j.W) hstk hfr o.nd hE hln ⟨hgb, hdb, .inl mB⟩ o.tk (fun W pn xe tk pw => pss_one (ps_expr (ptc W pn xe tk) hsw)) (fun a oe cls d pn hz hv => ?_), fun w0 H0 w ρ m σ H E s h => ?_⟩
  · refine ⟨fun pins s σ H E I h => ?_⟩
    obtain ⟨rfl, rfl, hsl, hr⟩ := h
    have c1 := call_isE (X := X) (a := a) (pn := pn) eD hz hv
    have a1 := pa_cons (X := X.suite a ((a, oe) :: pn)) (pe_var (pos := p3) hE (.inl hln) hdn hcn) (pa_cons (pe_glob (pos := p4) (v := V.ref D) hgc mD rfl hdc) pa_nil hs2) hs1
    have a2 := pa_cons (X := X.suite a ((a, oe) :: pn)) (pe_var (pos := q3) hE (.inl hln) hdn hcn) (pa_cons (pe_bltn (pos := q4) (v := V.ty "ValueError") hgv hmv (by decide +kernel) rfl) pa_nil hs4) hs3
    have e1 := pe_callB (X := X.suite a ((a, oe) :: pn)) (p := p5) (pos := q1) c1 hgi hmi (by decide +kernel) a1 (he := hs1) (hpl := hpl1)
    have e2 := pe_callB (X := X.suite a ((a, oe) :: pn)) (p := q2) (pos := q5) c1 hgi hmi (by decide +kernel) a2 (he := hs3) (hpl := hpl2)
    refine (pss_one (ps_ret (pos := q7) (pe_and (pos := q6) e1 (pe_one e2)))).run pins s σ H E I ?_
    refine ⟨_, hsl, V.ref D, _, true, rfl, fun u hu => hu, hk1, true, rfl, iteT ?_⟩
    exact ⟨_, hsl, V.ty "ValueError", _, true, rfl, fun u hu => hu, hk2, hr⟩
  · unfold sTryIs at h
    split at h
    case isFalse => exact h.elim
    rename_i hc
    obtain ⟨hfn, hlt⟩ := hc
    obtain ⟨a, e1, e2⟩ := fnAt_slot s.en hfn
    rw [hf] at e2; cases e2
    refine ⟨e1, w, m, fun p hp => (s.en.tabs.fx p (hfx p hp)).1, s.en.tabs.tabs, s.en.obs, s.en.bs bp hbp, ?_⟩
    cases hG : G [] m with
    | bad => rw [hG] at h; exact h
    | ok d m' =>
      rw [hG] at h
      intro v H' g t ob r
      have A : Aft j w m' H H' := ⟨g, s.en.tabs.grow s.en.obs g t, ob⟩
      exact h w σ H' (s.aft A) A.grow.ext
    | exc x m' =>
      rw [hG] at h
      simp only at h
      split at h
      case isFalse => exact h.elim
      rename_i hx
      obtain ⟨hx1, hx2⟩ := hx
      intro cls dd H' g t ob r
      have A : Aft j w m' H H' := ⟨g, s.en.tabs.grow s.en.obs g t, ob⟩
      obtain ⟨C, g1, g2, g3⟩ := r
      rw [hx1] at g1
      have eC : C = D := by
        have q := g1.symm.trans mD
        cases q; rfl
      subst eC g2
      have hdd : dd = none := by
        cases hp : x.pay with
        | none => rw [hp] at g3; exact g3
        | some _ => rw [hp] at hx2; cases hx2
      subst hdd
      refine ⟨true, hexm, fun _ a hna => ⟨rfl, rfl, ?_, h (.bl true) H' (s.aft A).fin (.bl true)⟩, fun z => by cases z⟩
      rw [List.getElem?_set_self (by rw [← s.en.len]; exact hlt)]
end
end DS

set_option maxRecDepth 100000
set_option maxHeartbeats 2000000
namespace DS
open PySem PySem.Spec PyProof.Rows L2 LamX NdefX

/-! ### defs that give a new list -/
def PostSN (j : J) (w0 : Vw) (H0 : Hp) (E : Ends) : Res (List D) → Prop
  | .ok ds m => ∀ a vs H', NT H0 a → Grow w0 H0 H' → Tb j.T H' → H' a = some (.lst vs) → Obs j.X.K ⟨w0.as, a :: w0.ex⟩ (m.take w0.as.length) H' → RpAll j.X.K (msk ⟨w0.as, a :: w0.ex⟩ H') vs ds → E.rt (.ref a) H'
  | _ => False
def SSN (j : J) (sts : List Stmt) (g : DA) : Prop := ∃ t, PSs j.X sts t ∧ ∀ w0 H0 w ρ m σ H E, StE j w0 H0 w ρ m σ H → PostSN j w0 H0 E (g ρ m) → t E σ H
theorem obs_take {K : PySem.W.Frag} {as as0 : As} {ex : List Addr} {m : Ms} {H : Hp} (O : Obs K ⟨as, ex⟩ m H) (h : as.take as0.length = as0) : Obs K ⟨as0, ex⟩ (m.take as0.length) H ∧ ExtN (msk ⟨as, ex⟩ H) (msk ⟨as0, ex⟩ H) := by
  have ext : ExtN (msk ⟨as, ex⟩ H) (msk ⟨as0, ex⟩ H) := fun b o hb _ => by
    obtain ⟨h1, h2⟩ := of_msk hb
    refine msk_of h1 fun z => h2 ?_
    rcases z with z | z
    · obtain ⟨k, hk⟩ := List.getElem?_of_mem z
      exact .inl (List.mem_of_getElem? (take_mem h hk))
    · exact .inr z
  have hl : as.length = m.length := O.len
  have hle : as0.length ≤ as.length := by
    have q := congrArg List.length h
    rw [List.length_take] at q
    omega
  refine ⟨⟨by rw [List.length_take]; show as0.length = _; omega, fun k a hk => ?_, fun k hk => ?_, fun i k a hi hk => O.inj i k a (take_mem h hi) (take_mem h hk), fun b hb => ?_⟩, ext⟩
  · obtain ⟨ds, vs, h1, h2, h3⟩ := O.at_ k a (take_mem h hk)
    have hk2 := (List.getElem?_eq_some_iff.mp hk).1
    exact ⟨ds, vs, by rw [List.getElem?_take_of_lt hk2]; exact h1, h2, dpa_ext ext _ _ h3⟩
  · have hk2 := (List.getElem?_eq_some_iff.mp hk).1
    rw [List.getElem?_take_of_lt hk2]
    exact O.dead k (take_mem h hk)
  · obtain ⟨h1, h2⟩ := O.exs b hb
    exact ⟨h1, fun z => h2 (by
      obtain ⟨k, hk⟩ := List.getElem?_of_mem z
      exact List.mem_of_getElem? (take_mem h hk))⟩
def nSeq (a : DS) (b : DA) : DA := fun ρ m => match a ρ m with
  | .next ρ m => b ρ m
  | _ => .bad
section
variable {j : J} {st : Stmt} {rest : List Stmt} {g1 : DS} {g2 gs : DA} {e : Expr} {pos : Pos}
theorem SSN.cons (h1 : SS j st g1) (h2 : SSN j rest g2) : SSN j (st :: rest) (nSeq g1 g2) := by
  obtain ⟨t1, p1, k1⟩ := h1
  obtain ⟨t2, p2, k2⟩ := h2
  refine ⟨_, pss_cons p1 p2, fun w0 H0 w ρ m σ H E s h => ?_⟩
  refine k1 w0 H0 w ρ m σ H _ s ?_
  unfold nSeq at h
  cases hg : g1 ρ m with
  | next ρ' m' =>
    rw [hg] at h
    exact fun w1 σ1 H1 s1 x => k2 w0 H0 w1 ρ' m' σ1 H1 E s1 h
  | _ => rw [hg] at h; exact h.elim
theorem SSN.ret (h : SN j e gs) : SSN j [.Return (some e) pos] gs := by
  obtain ⟨t1, p1, k1⟩ := h
  refine ⟨_, pss_one (ps_ret p1), fun w0 H0 w ρ m σ H E s h => ?_⟩
  refine k1 w ρ m σ H _ s.en ?_
  cases hg : gs ρ m with
  | bad => rw [hg] at h; exact h
  | exc x m1 => rw [hg] at h; exact h.elim
  | ok ds m1 =>
    rw [hg] at h
    intro a vs H' hn g T ha O r
    obtain ⟨o1, o2⟩ := obs_show O
    have s' := s.aft (m1 := m1) (H1 := H') ⟨g, T, o1⟩
    have ex : w.ex = w0.ex := s.ex
    have O' : Obs j.X.K ⟨w.as, a :: w0.ex⟩ m1 H' := by rw [← ex]; exact O
    obtain ⟨q1, q2⟩ := obs_take O' s.pre
    refine h a vs H' (s.grow.there a hn) s'.grow T ha q1 (dpa_ext q2 _ _ ?_)
    rw [← ex]; exact r
end
def fnNewD (N : Nat) (body : DA) : List Slot → Ms → Res (List D) := fun args m => match body (args ++ List.replicate (N - args.length) .un) m with
  | .ok ds m' => .ok ds (m'.take m.length)
  | _ => .bad
def PostFN (K : PySem.W.Frag) (T : List (Addr × Str)) (w : Vw) (H : Hp) (Q : VK) : Res (List D) → Prop
  | .ok ds m => ∀ a vs H', NT H a → Grow w H H' → Tabs T H' → H' a = some (.lst vs) → Obs K ⟨w.as, a :: w.ex⟩ m H' → RpAll K (msk ⟨w.as, a :: w.ex⟩ H') vs ds → Q (.ref a) H'
  | _ => False
structure FnN (P : Program) (w : World) (K : PySem.W.Frag) (mg : Str → Option Value) (base : Heap) (T : List (Addr × Str)) (k : Nat) (x : Str) (ps : List Str) (F : List Slot → Ms → Res (List D)) : Prop where
  ex : ∃ f fd, mg x = some (.ref f) ∧ PySem.W.keepIn K (.ref f) = true ∧ (∀ (s : Shared) (us : List Value), K.In s.heap → us.length = ps.length → BindsTo s fd ⟨us, []⟩ (ps.zip us)) ∧
    ∀ (A : Around) (outer : List PySem.Env) (s : Shared) (H : Hp) (us : List Value) (vs : List V) (Q : VK) (E : XK) (v : Vw) (m : Ms) (args : List Slot), Room k A → A.guards = some [] → Env0 P w K mg base A outer s H → BindsTo s fd ⟨us, []⟩ (ps.zip us) → Vals vs us → Tabs T H → Obs K v m H → args.length = ps.length → ArgsOk K v H args vs → PostFN K T v H Q (F args m) →
      codeAny (model P w) A (.call (.ref f) ⟨us, []⟩) (CR (L2.CX P w) outer P w H s Q E) s
section
variable {P : Program} {w : World} {K : PySem.W.Frag} {mg : Str → Option Value} {base : Heap}
theorem fnN_body {x qual : Str} {st : Stmt} {f : Addr} {fd : FuncData} {N ps : List Str} {k : Nat} {T : List (Addr × Str)} {g : DA} (F : Fun K x qual st f fd) (hm : mg x = some (.ref f)) (S : FnScope N ps (defScope st))
    (hb : ∀ (s : Shared) (us : List Value), K.In s.heap → us.length = ps.length → BindsTo s fd ⟨us, []⟩ (ps.zip us))
    (hbody : ∀ (cdv : Value), fd.code = cdv → ∀ (A : Around) (outer : List PySem.Env) (s : Shared) (H : Hp) (E : XK), JOk (J.fn P w K mg base T N qual (defScope st) f cdv A outer s H E) k → SSN (J.fn P w K mg base T N qual (defScope st) f cdv A outer s H E) (defBody st) g) :
    FnN P w K mg base T (k + 1) x ps (fnNewD N.length g) := by
  refine ⟨f, fd, hm, F.kp, hb, fun A outer s H us vs Q E v m args hr hgd e0 hbd r h1 h2 h3 h4 h5 => ?_⟩
  obtain ⟨oc, od, kV, doc, pm, an, cdv, ct, osl, rfl, lk, hcd⟩ := F.ex
  have hl := h4.len
  refine run_ofS (CX := L2.CX P w) lk hcd S hr e0 hbd r (by rw [h4.len, h3]) fun hr' => ?_
  have jo : JOk (J.fn P w K mg base T N qual (defScope st) f cdv A outer s H E) k := ⟨hr', S.nd, rfl, takes_of rfl rfl rfl rfl, passes_of rfl, hgd⟩
  obtain ⟨t, pt, kt⟩ := hbody cdv rfl A outer s H E jo
  refine ⟨t, pt, ?_⟩
  have nle : args.length ≤ N.length := by
    rw [h3]
    have := congrArg List.length S.pre
    rw [List.length_take] at this
    omega
  have en : En (J.fn P w K mg base T N qual (defScope st) f cdv A outer s H E) v (args ++ List.replicate (N.length - args.length) .un) m (L2.start N vs) H := by
    refine ⟨⟨h1, fun p hp => absurd (show p ∈ ([] : List (Addr × HO)) from hp) (by simp)⟩, h2, ?_, fun i x hx => ?_, fun p hp => absurd (show p ∈ ([] : List (Vw × Hp)) from hp) (by simp)⟩
    · unfold L2.start
      simp only [List.length_append, List.length_replicate, List.length_map]
      omega
    · rw [List.getElem?_append] at hx
      split at hx
      · rename_i hi
        obtain ⟨u, e1, _, e2⟩ := h4.get i x hx
        have e3 : (L2.start N vs)[i]? = some (some u) := by
          unfold L2.start
          rw [List.getElem?_append_left (by rw [List.length_map, hl]; exact hi), List.getElem?_map, e1]; rfl
        rw [e3]
        exact e2
      · rw [List.getElem?_replicate] at hx
        split at hx
        · cases hx; trivial
        · cases hx
  have se : StE (J.fn P w K mg base T N qual (defScope st) f cdv A outer s H E) v H v (args ++ List.replicate (N.length - args.length) .un) m (L2.start N vs) H := by
    refine ⟨en, rfl, List.take_length, .refl _ _, fun k a q1 q2 => ?_, fun i k q => ?_⟩
    · have := (List.getElem?_eq_some_iff.mp q2).1
      omega
    · exfalso
      rw [List.getElem?_append] at q
      split at q
      · obtain ⟨_, _, e1, _⟩ := h4.get i _ q
        cases e1
      · rw [List.getElem?_replicate] at q
        split at q <;> cases q
  have hle : v.as.length = m.length := h2.len
  refine kt v H v _ m _ H _ se ?_
  unfold fnNewD at h5
  cases hb : g (args ++ List.replicate (N.length - args.length) .un) m with
  | bad => rw [hb] at h5; exact h5.elim
  | exc x m' => rw [hb] at h5; exact h5.elim
  | ok ds m' =>
    rw [hb] at h5
    exact fun a vs' H' q1 q2 q3 q4 q5 q6 => h5 a vs' H' q1 q2 q3.tabs q4 (by rw [← hle]; exact q5) q6
end
def nCall (F : List Slot → Ms → Res (List D)) (a : DXs) : DA := fun ρ m => match a ρ m with
  | .ok xs m => (F xs m).noX
  | _ => .bad
section
variable {j : J} {e : Expr} {es : List Expr} {gs : DXs} {pos p : Pos} {k k' : Nat} {x : Str} {ps : List Str} {F : List Slot → Ms → Res (List D)}
theorem SN.call (h : FnN j.X.prog j.X.w j.X.K j.X.mg j.X.base j.T.tabs k x ps F) (o : JOk j k') (hk : k ≤ k') (hg : Gl j.X x) (ha : SXs j (e :: es) gs) (hl : (e :: es).length = ps.length := by rfl) (hdb : (x == ("__debug__" : Str)) = false := by decide)
    (he : starEach (e :: es) j.X.env = (false, eval e j.X.env) :: starEach es j.X.env := by rfl) (hpl : (backTo pos (starEach es j.X.env)).any (·.1) = false := by rfl) : SN j (.Call (.Name x p) (e :: es) [] pos) (nCall F gs) := by
  obtain ⟨f, fd, hm, hkp, hb, run⟩ := h.ex
  obtain ⟨ln, t1, p1, k1⟩ := ha
  refine ⟨fun σ H Q => t1 σ H fun vs H1 => ∃ (v : Vw) (m : Ms) (args : List Slot), Tabs j.T.tabs H1 ∧ Obs j.X.K v m H1 ∧ args.length = ps.length ∧ ArgsOk j.X.K v H1 args vs ∧ PostFN j.X.K j.T.tabs v H1 Q (F args m), ⟨fun pins s σ H Q I hw => ?_⟩, fun w ρ m σ H Q E h => ?_⟩
  · refine wpAny_Call_Name_kw (ld_glob I hg hm ?_ hdb)
    refine PySem.W.callWith_K (h₀ := j.X.base) I.ok.mod.kin hkp (thn (p1.run pos pins s σ H _ I hw) fun us s1 ⟨vs, H1, I1, r, hq⟩ => ⟨I1.kIn, ?_⟩) he hpl
    obtain ⟨v, m, args, q1, q2, q3, q4, q5⟩ := hq
    have hul : us.length = ps.length := by rw [← r.length, q4.len]; exact q3
    refine wpAny_call (codeAny_mono (run j.X.A j.X.stack s1 H1 us vs Q (WE j.W σ) v m args (o.hr.mono hk) o.gd I1.env0 (hb s1 us I1.kIn hul) r q1 q2 q3 q4 q5) fun r s' hq => ?_)
    cases r with
    | error e => exact passAt o.tk σ pins H1 s1 e s' I1 hq
    | ok fl =>
      cases fl with
      | ret u => exact I1.after hq
      | next => exact False.elim hq
      | brk => exact False.elim hq
      | cont => exact False.elim hq
  · unfold nCall at h
    refine k1 w ρ m σ H _ E ?_
    cases hx : gs ρ m with
    | bad => rw [hx] at h; exact h
    | exc x m1 => rw [hx] at h; exact h.elim
    | ok xs m1 =>
      rw [hx] at h
      intro vs H1 A1 r1
      refine ⟨w, m1, xs, A1.tabs.tabs, A1.obs, (ln _ _ _ _ hx).trans hl, r1, ?_⟩
      simp only at h
      cases hF : F xs m1 with
      | bad => rw [hF] at h; exact h
      | exc x m1 => rw [hF] at h; exact h
      | ok ds m2 =>
        rw [hF] at h
        exact fun a vs' H' q1 q2 q3 q4 q5 q6 => h a vs' H' (A1.grow.there a q1) (A1.grow.trans q2) (A1.tabs.grow A1.obs q2 q3) q4 q5 q6
end
end DS

set_option maxRecDepth 100000
set_option maxHeartbeats 2000000
namespace DS
open PySem PySem.Spec PyProof.Rows L2 LamX NdefX

/-! ### y = [f(..) for ..], f giving new lists -/
def lcNF (g : DG) (e : DA) : List D → List Slot → Ms → Res (List Nat)
  | [], _, m => .ok [] m
  | d :: ds, ρ, m => match g d ρ with
    | none => .bad
    | some ρ' => (e ρ' m).noX.bind fun xs m1 => (lcNF g e ds ρ (m1 ++ [some xs])).bind fun ks m2 => .ok (m1.length :: ks) m2
def sNewOs (gi : DI) (g : DG) (e : DA) (vs : List Nat) (i : Nat) : DS := fun ρ m => (gi ρ m).thn fun ds m => if ds.length ≤ lineN then (lcNF g e ds (wipeS ρ vs) m).thn fun ks m => if i < ρ.length then .next (ρ.set i (.os ks)) m else .bad else .bad
theorem lcNF_exc {g : DG} {e : DA} : ∀ {ds : List D} {ρ : List Slot} {m : Ms} {x : Exc} {m' : Ms}, lcNF g e ds ρ m ≠ .exc x m'
  | [], ρ, m, x, m', h => by cases h
  | d :: ds, ρ, m, x, m', h => by
    unfold lcNF at h
    split at h
    · cases h
    · rename_i ρ' _
      cases h1 : e ρ' m with
      | bad => rw [h1] at h; cases h
      | exc _ _ => rw [h1] at h; cases h
      | ok k m1 =>
        rw [h1] at h
        simp only [Res.noX_ok, Res.bind_ok] at h
        cases h2 : lcNF g e ds ρ (m1 ++ [some k]) with
        | bad => rw [h2] at h; cases h
        | exc _ _ => exact lcNF_exc h2
        | ok ks' m2 => rw [h2] at h; cases h
section
variable {j : J} {k : Nat} {tg iter elt : Expr} {gi : DI} {g : DG} {ge : DA} {is : List Nat} {pos : Pos} {scope : Scope} {own : List (Str × Nat)}
theorem SS.setLcN {i : Nat} {y : Str} {py spos : Pos} (o : JOk j k) (hi : SI j tg iter gi) (hg : ∀ (s : Shared) (H : Hp) (C : Addr) (cl : List (Str × Addr)) (fp : List Addr), SG (j.blk s H scope C cl fp) tg is g)
    (he : ∀ (s : Shared) (H : Hp) (C : Addr) (cl : List (Str × Addr)) (fp : List Addr), SN (j.blk s H scope C cl fp) elt ge) (ok : BlkOk j.X.N j.X.env.scope scope own) (his : ∀ i ∈ is, i ∈ own.map (·.2)) (hy : j.X.N[i]? = some y)
    (hsw : (j.X.env.scope.names.lookup y = some .local ∧ swapsWith (.ListComp elt [⟨tg, iter, [], 0⟩] scope pos) (some (.Name y py)) spos.line j.X.env = pure true) ∨ (Loc j.X.env.scope y ∧ swapsWith (.ListComp elt [⟨tg, iter, [], 0⟩] scope pos) (some (.Name y py)) spos.line j.X.env = pure false ∧ j.X.fn y = true) := by first | exact .inl ⟨rfl, rfl⟩ | exact .inr ⟨Or.inl rfl, rfl, rfl⟩ | exact .inr ⟨Or.inr rfl, rfl, rfl⟩) (hs : ∀ x, foldedSetIterable iter j.X.env x = pure x := by intro _; rfl) :
    SS j (.Assign [.Name y py] (.ListComp elt [⟨tg, iter, [], 0⟩] scope pos) spos) (sNewOs gi g ge (own.map (·.2)) i) := by
  obtain ⟨wi, pI, kI⟩ := hi
  let P := Shared × Hp × Addr × List (Str × Addr) × List Addr
  have hg' : ∀ p : P, SG (j.blk p.1 p.2.1 scope p.2.2.1 p.2.2.2.1 p.2.2.2.2) tg is g := fun p => hg _ _ _ _ _
  have he' : ∀ p : P, SN (j.blk p.1 p.2.1 scope p.2.2.1 p.2.2.2.1 p.2.2.2.2) elt ge := fun p => he _ _ _ _ _
  obtain ⟨fg, fg'⟩ := Classical.axiomOfChoice hg'
  obtain ⟨fe, fe'⟩ := Classical.axiomOfChoice he'
  have pg : ∀ (s : Shared) (H : Hp) (C : Addr) (cl : List (Str × Addr)) (fp : List Addr), PG (j.X.blk s H scope (compEnvC scope cl C j.X.env) fp) tg (fun v σ H Q => ∀ p, fg p v σ H Q) := fun s H C cl fp => ⟨fun pins s1 σ H v u Q I r h => (fg' (s, _, C, cl, fp)).1.run pins s1 σ H v u Q I r (h _)⟩
  have pe : ∀ (s : Shared) (H : Hp) (C : Addr) (cl : List (Str × Addr)) (fp : List Addr), PE (j.X.blk s H scope (compEnvC scope cl C j.X.env) fp) elt (fun σ H Q => ∀ p, fe p σ H Q) := fun s H C cl fp => ⟨fun pins s1 σ H Q I h => (fe' (s, _, C, cl, fp)).1.run pins s1 σ H Q I (h _)⟩
  have ps : PS j.X (.Assign [.Name y py] (.ListComp elt [⟨tg, iter, [], 0⟩] scope pos) spos) (tAsg (tLc wi (fun v σ H Q => ∀ p, fg p v σ H Q) tYes (fun σ H Q => ∀ p, fe p σ H Q) (own.map (·.2))) (gName i)) := by
    rcases hsw with ⟨hyl, hsw⟩ | ⟨hx, hsw, hf⟩
    · exact ps_setLc o.calm o.nd hy hyl hsw pI ok pg (fun _ _ _ _ _ => pts_nil) pe hs
    · exact ps_set o.nd hy hx (pe_lc o.calm o.nd pI ok pg (fun _ _ _ _ _ => pts_nil) pe hs) hsw (.inl hf)
  refine ⟨_, ps, fun w0 H0 w ρ m σ H E s h => ?_⟩
  refine kI w ρ m σ H _ s.en (Post.thn s h fun ds m1 _ Jt H1 s1 it h1 => ?_)
  split at h1
  case isFalse => exact h1.elim
  rename_i hlen
  intro L hL
  let vs := own.map (·.2)
  have O1 := s1.en.obs
  have nas : some L ∉ w.as := fun z => not_hid O1 hL (.inl z)
  have nex : L ∉ w.ex := fun z => not_hid O1 hL (.inr z)
  have e1 : ExtN (msk w H1) (msk ⟨w.as, L :: w.ex⟩ (upd H1 L (.lst []))) := hide_ext hL
  refine ⟨fun q n H => q ≤ ds.length ∧ n = ds.length - q ∧ ∃ (news : List Addr) (m' : Ms) (done : List Nat), En j ⟨w.as ++ news.map some, L :: w.ex⟩ (wipeS ρ vs) m' (L2.wipe σ vs) H ∧ Grow w H1 H ∧ ExtN (msk w H1) (msk ⟨w.as ++ news.map some, L :: w.ex⟩ H) ∧ H L = some (.lst (news.map V.ref)) ∧ done.length = news.length ∧ news.length = q ∧
    (∀ (a k : Nat), done[a]? = some k → ∃ b, news[a]? = some b ∧ (w.as ++ news.map some)[k]? = some (some b)) ∧ (∀ b ∈ news, NT H1 b) ∧
    PostS j w0 H0 w H1 E ((lcNF g ge (ds.drop q) (wipeS ρ vs) m').thn fun ks m => if i < ρ.length then .next (ρ.set i (.os (done ++ ks))) m else .bad), ⟨ds.length, Nat.zero_le _, rfl, [], m1, [], ?_, .of (same_new hL), ?_, upd_same, rfl, rfl, (fun a k z => by cases z), fun b z => (List.not_mem_nil z).elim, h1⟩, ?_⟩
  · simp only [List.map_nil, List.append_nil]
    exact ⟨tabs_new s1.en.tabs hL, obs_hide O1 hL, (s1.en.wipe vs).len, fun q x hx => ((s1.en.wipe vs).sl q x hx).ext e1 fun _ _ z => .inl z, fun q hq => (s1.en.bs q hq).trans e1⟩
  · simp only [List.map_nil, List.append_nil]
    exact e1
  rintro q n H ⟨hq, rfl, news, m', done, E', g', e', hacc, hdn, hnl, hdone, hnews, h'⟩
  obtain ⟨hgo, hst, hyl⟩ := it _ H e' (fun b hb => hid_tracked E'.obs hb) q
  by_cases hlt : q < ds.length
  · refine .inr ⟨hgo hlt, fun H => ∃ (news : List Addr) (m' : Ms) (done : List Nat), En j ⟨w.as ++ news.map some, L :: w.ex⟩ (wipeS ρ vs) m' (L2.wipe σ vs) H ∧ Grow w H1 H ∧ ExtN (msk w H1) (msk ⟨w.as ++ news.map some, L :: w.ex⟩ H) ∧ H L = some (.lst (news.map V.ref)) ∧ done.length = news.length ∧ news.length = q + 1 ∧
      (∀ (a k : Nat), done[a]? = some k → ∃ b, news[a]? = some b ∧ (w.as ++ news.map some)[k]? = some (some b)) ∧ (∀ b ∈ news, NT H1 b) ∧
      PostS j w0 H0 w H1 E ((lcNF g ge (ds.drop (q + 1)) (wipeS ρ vs) m').thn fun ks m => if i < ρ.length then .next (ρ.set i (.os (done ++ ks))) m else .bad), fun H' z => ⟨ds.length - (q + 1), by omega, hlt, rfl, z⟩, fun x H2 y p => ?_⟩
    obtain ⟨hx, d, hd, rd⟩ := hyl x H2 hlt y
    have A := ex_aft E'.tabs E'.obs hx
    have hcons : ds.drop q = d :: ds.drop (q + 1) := by
      rw [List.drop_eq_getElem_cons hlt]
      obtain ⟨q1, q2⟩ := List.getElem?_eq_some_iff.mp hd
      rw [q2]
    rw [hcons] at h'
    simp only [lcNF] at h'
    cases hgd : g d (wipeS ρ vs) with
    | none => rw [hgd] at h'; exact h'.elim
    | some ρ2 =>
      rw [hgd] at h'
      simp only at h'
      refine (fg' p).2 _ _ m' _ H2 d x ρ2 _ ((E'.step A).to rfl rfl rfl rfl) rd hgd fun σ3 E3 hw _ => ?_
      refine ⟨by have z := hw vs his; rw [z]; exact wipe_wipe _ _, ?_⟩
      simp only [tYes, if_true]
      intro p3
      refine (fe' p3).2 _ ρ2 m' σ3 H2 _ (E3.to rfl rfl rfl rfl) ?_
      cases hge : ge ρ2 m' with
      | bad => rw [hge] at h'; exact h'
      | exc _ _ => rw [hge] at h'; exact h'.elim
      | ok xs m2 =>
        rw [hge] at h'
        simp only [Res.noX_ok, Res.bind_ok] at h'
        intro a us H4 hna gr T4 ha O4 r4
        have l2 : H2 L = some (.lst (news.map V.ref)) := hx _ _ hacc
        have nL : some L ∉ (w.as ++ news.map some) := (E'.obs.exs L List.mem_cons_self).2
        have l4 : H4 L = some (.lst (news.map V.ref)) := gr.keep _ _ l2 (fun ps z => by cases z) nL
        have hax : a ∉ L :: w.ex := fun z => by
          obtain ⟨⟨oo, z1, z2⟩, _⟩ := A.obs.exs a z
          exact hna.ne z1 z2 rfl
        obtain ⟨O5, em⟩ := obs_new O4 hax ha r4
        have ext4 : ExtN (msk ⟨w.as ++ news.map some, L :: w.ex⟩ H2) (msk ⟨w.as ++ news.map some ++ [some a], L :: w.ex⟩ H4) := by
          rw [em]; exact rp_hide (K := j.X.K) gr hna
        have hlx : L ∈ (⟨w.as ++ news.map some ++ [some a], L :: w.ex⟩ : Vw).ex := List.mem_cons_self
        have wx : ExtN (msk ⟨w.as ++ news.map some ++ [some a], L :: w.ex⟩ H4) (msk ⟨w.as ++ news.map some ++ [some a], L :: w.ex⟩ (upd H4 L (.lst (news.map V.ref ++ [.ref a])))) := hid_write_ext (.inr hlx)
        have ea : w.as ++ (news ++ [a]).map some = w.as ++ news.map some ++ [some a] := by simp
        have tot := (A.grow.ext.trans ext4).trans wx
        have hlm : (w.as ++ news.map some).length = m2.length := O4.len
        refine ⟨news.map V.ref, l4, lineN_lt (by rw [List.length_map]; omega), news ++ [a], m2 ++ [some xs], done ++ [m2.length], ?_, ?_, ?_, ?_, by simp [hdn], by simp [hnl], fun b kk hk => ?_, fun b hb => ?_, ?_⟩
        · rw [ea]
          exact ⟨tabs_lst T4 l4, obs_write O5 hlx, E'.len, fun z x hx => (E'.sl z x hx).ext tot fun kk oo hz => .inl (by
            show (w.as ++ news.map some ++ [some a])[kk]? = _
            rw [List.getElem?_append_left (List.getElem?_eq_some_iff.mp hz).1]; exact hz), fun z hz => (E'.bs z hz).trans tot⟩
        · refine ⟨fun b oo hb hn hz => ?_, fun b hb => ?_⟩
          · have z1 := g'.keep b oo hb hn hz
            have z2 := hx _ _ z1
            have z3 : H4 b = some oo := gr.keep b oo z2 hn fun z => ?_
            · rw [upd_ne (ne_of_none hb hL)]; exact z3
            · rcases List.mem_append.mp z with z | z
              · exact hz z
              · obtain ⟨c, hc, z⟩ := List.mem_map.mp z
                cases z
                exact (hnews b hc).ne hb hn rfl
          · by_cases hbl : b = L
            · rw [hbl]; exact .of hL
            · refine g'.there b (A.grow.there b (gr.there b fun oo z => hb oo ?_))
              rw [upd_ne hbl]; exact z
        · rw [ea]; exact e'.trans tot
        · rw [upd_same]; simp
        · rw [List.getElem?_append] at hk
          rw [ea]
          split at hk
          · obtain ⟨c, z1, z2⟩ := hdone b kk hk
            exact ⟨c, by rw [List.getElem?_append_left (List.getElem?_eq_some_iff.mp z1).1]; exact z1, by rw [List.getElem?_append_left (List.getElem?_eq_some_iff.mp z2).1]; exact z2⟩
          · have hb : b - done.length = 0 := by
              have := (List.getElem?_eq_some_iff.mp hk).1
              simp at this; omega
            rw [hb] at hk
            simp at hk
            subst hk
            have hbn : b = news.length := by omega
            subst hbn
            exact ⟨a, by simp, by rw [← hlm]; simp⟩
        · rcases List.mem_append.mp hb with hb | hb
          · exact hnews b hb
          · rw [List.mem_singleton.mp hb]
            exact g'.there a (A.grow.there a hna)
        · cases hq2 : lcNF g ge (ds.drop (q + 1)) (wipeS ρ vs) (m2 ++ [some xs]) with
          | bad => rw [hq2] at h'; exact h'
          | exc _ _ => exact (lcNF_exc hq2).elim
          | ok ks m3 =>
            rw [hq2] at h'
            simp only [Res.bind_ok, Res.thn_ok] at h' ⊢
            simpa using h'
  · have hie : q = ds.length := by omega
    subst hie
    rw [List.drop_length] at h'
    simp only [lcNF, Res.thn_ok, List.append_nil] at h'
    split at h'
    case isFalse => exact h'.elim
    rename_i hil
    refine .inl ⟨hst rfl, ?_⟩
    obtain ⟨o1, o2⟩ := obs_show (w := ⟨w.as ++ news.map some, w.ex⟩) E'.obs
    have nL : some L ∉ (w.as ++ news.map some) := (E'.obs.exs L List.mem_cons_self).2
    have ext := e'.trans o2
    refine h' ⟨w.as ++ news.map some, w.ex⟩ _ H ⟨⟨E'.tabs, o1, by rw [List.length_set, List.length_set]; exact s1.en.len, fun z x hx => ?_, fun z hz => (s1.en.bs z hz).trans ext⟩, s1.ex, ?_, ⟨fun b oo hb hn hz => ?_, fun b hb => s1.grow.there b (g'.there b hb)⟩, fun kk b hk hb => ?_, fun a kk hk => ?_⟩ ext
    · rw [List.getElem?_set] at hx ⊢
      by_cases e : i = z
      · subst e
        rw [if_pos rfl, if_pos hil] at hx
        cases hx
        rw [if_pos rfl, if_pos (by rw [← s1.en.len]; exact hil)]
        refine ⟨L, news.map V.ref, rfl, msk_of hacc fun z => z.elim nL nex, by simp [hdn], fun a kk hk => ?_⟩
        obtain ⟨b, z1, z2⟩ := hdone a kk hk
        exact ⟨b, by simp [z1], .inl z2⟩
      · rw [if_neg e] at hx ⊢
        refine (s1.en.sl z x hx).ext ext fun kk oo hz => .inl ?_
        show (w.as ++ news.map some)[kk]? = _
        rw [List.getElem?_append_left (List.getElem?_eq_some_iff.mp hz).1]; exact hz
    · show (w.as ++ news.map some).take w0.as.length = w0.as
      rw [List.take_append_of_le_length s1.len]; exact s1.pre
    · have z1 := s1.grow.keep b oo hb hn hz
      refine g'.keep b oo z1 hn fun z => ?_
      obtain ⟨kk, hk⟩ := List.getElem?_of_mem z
      by_cases hlk : w0.as.length ≤ kk
      · exact (s1.new kk b hlk hk).ne hb hn rfl
      · refine hz ?_
        have e : w0.as[kk]? = some (some b) := by
          rw [← s1.pre, List.getElem?_take_of_lt (by omega)]; exact hk
        exact List.mem_of_getElem? e
    · have hb : (w.as ++ news.map some)[kk]? = some (some b) := hb
      rw [List.getElem?_append] at hb
      split at hb
      · exact s1.new kk b hk hb
      · have hm := List.mem_of_getElem? hb
        obtain ⟨c, hc, z⟩ := List.mem_map.mp hm
        cases z
        exact s1.grow.there b (hnews b hc)
    · rw [List.getElem?_set] at hk
      split at hk
      · first | (split at hk <;> cases hk) | cases hk
      · exact s1.own a kk hk
/-- f(.., ys[e], ..), ys a list of mutable lists -/
def xOs (i : Nat) (b : DE) : DX := fun ρ m => match ρ[i]? with
  | some (.os ks) => (b ρ m).bind fun d m => match d with
    | .int n => match ixN ks.length n with
      | some q => match ks[q]? with
        | some k => .ok (.ob k) m
        | none => .bad
      | none => .bad
    | _ => .bad
  | _ => .bad
theorem SX.os {b : Expr} {gb : DE} {x : Str} {p : Pos} (i : Nat) (hb : SE j b gb) (hN : j.X.N[i]? = some x := by rfl) (hpx : PlainIx b := by rfl) (hv : Vis j.X.env.scope x := by first | exact Or.inl rfl | exact Or.inr (Or.inl rfl) | exact Or.inr (Or.inr rfl)) (hd : (x == ("__debug__" : Str)) = false := by decide)
    (hcd : (x == ("__classdict__" : Str)) = false := by decide) : SX j (.Subscript (.Name x p) b pos) (xOs i gb) := by
  obtain ⟨t2, p2, k2⟩ := hb
  refine ⟨_, pe_ix ix_list (pe_var hN hv hd hcd) p2 hpx, fun w ρ m σ H Q E h => ?_⟩
  unfold xOs at h
  split at h
  case h_2 => exact h.elim
  rename_i ks hx
  obtain ⟨a, vs, e1, e2, e3, e4⟩ := E.sl i _ hx
  refine ⟨_, e1, k2 w ρ m σ H _ E (Post.bind h fun d m1 hgb v H1 A1 r1 h1 => ?_)⟩
  split at h1
  case h_2 => exact h1.elim
  rename_i n
  split at h1
  case h_2 => exact h1.elim
  rename_i q hq
  split at h1
  case h_2 => exact h1.elim
  rename_i kk hk
  cases r1
  obtain ⟨b, z1, z2⟩ := e4 q kk hk
  obtain ⟨z3, _⟩ := of_msk (A1.grow.ext _ _ e2 (fun ps z => by cases z))
  refine ⟨a, vs, n, .ref b, rfl, rfl, .inl (.inl z3), ?_, h1 (.ref b) H1 ⟨.refl _ _, A1.tabs, A1.obs⟩ ⟨rfl, b, rfl, z2⟩⟩
  unfold atI
  rw [e3, hq]
  exact z1
end
end DS

set_option maxRecDepth 100000
set_option maxHeartbeats 2000000
namespace DS
open PySem PySem.Spec PyProof.Rows L2 LamX NdefX

/-! ### the law's call: only from where the row calls it (no repr is under way there) -/
section
variable {P : Program} {w : World} {K : PySem.W.Frag} {mg mb : Str → Option Value} {fa a : Addr} {cs : List (Addr × Addr)} {s : Shared} {vs : List Value} {ns : List Int}
/-- what is told of the heap at the call: the tables, and the script's list where the program's own objects don't hold it -/
def topH (K : PySem.W.Frag) (cs : List (Addr × Addr)) (a : Addr) (vs : List Value) (ns : List Int) : Hp := fun b =>
  if b ∈ cs.map (·.2) then some (.tbl #[]) else if b = a ∧ K.lookup a = none then some (.frz { cls := .type "list", data := .seq vs.toArray } (.lst (ns.map V.int))) else none
/-- the facts at the call -/
structure Top (K : PySem.W.Frag) (mg mb : Str → Option Value) (cs : List (Addr × Addr)) (s : Shared) (a : Addr) (vs : List Value) (ns : List Int) : Prop where
  kin : K.In s.heap
  gl : s.heap.Ns mainGlobals mg
  bl : s.heap.Ns builtinsNs mb
  bb : ∀ x : Str, x ≠ "__name__" → mb x = bootBuiltins x
  lim : s.heap.NoLimit
  gen : s.gens = #[]
  tab : ∀ p ∈ cs, s.heap.get? p.2 = some { cls := .none, data := .fields #[] }
  tabK : ∀ p ∈ cs, K.lookup p.2 = none
  code : ∀ p ∈ cs, PySem.W.CodeHd s.heap p.1 p.2
  bm : ∃ (bm : Addr) (ob : Obj), mg "__builtins__" = some (.ref bm) ∧ bm ≠ builtinsNs ∧ s.heap.get? bm = some ob ∧ ob.cls = .type "module" ∧ ob.dict = some builtinsNs ∧ ob.data = .plain
  lst : s.heap.get? a = some { cls := .type "list", data := .seq vs.toArray }
  nums : IntsAre vs ns
  few : ns.length ≤ sizeLine
variable (t : Top K mg mb cs s a vs ns)
include t
theorem Top.isTab {b : Addr} (h : b ∈ cs.map (·.2)) : s.heap.get? b = some { cls := .none, data := .fields #[] } ∧ K.lookup b = none := by
  obtain ⟨p, hp, rfl⟩ := List.mem_map.mp h
  exact ⟨t.tab p hp, t.tabK p hp⟩
theorem Top.notTab : a ∉ cs.map (·.2) := fun z => by
  have q := (t.isTab z).1
  rw [t.lst] at q
  cases q
theorem Top.atT {p : Addr × Addr} (h : p ∈ cs) : topH K cs a vs ns p.2 = some (.tbl #[]) := if_pos (List.mem_map.mpr ⟨p, h, rfl⟩)
/-- all but the tables and the list is not tracked -/
theorem Top.clear {b : Addr} {o : Obj} (e : s.heap.get? b = some o) (h : ∀ its n, o.data ≠ .seq its n) (h' : o.data ≠ .fields #[]) : topH K cs a vs ns b = none := by
  unfold topH
  split
  · rename_i z
    rw [(t.isTab z).1] at e; cases e
    exact (h' rfl).elim
  · split
    · rename_i z
      rw [z.1, t.lst] at e; cases e
      exact (h _ _ rfl).elim
    · rfl
theorem Top.clearK {b : Addr} {o : Obj} (e : K.lookup b = some o) : topH K cs a vs ns b = none := by
  unfold topH
  split
  · rename_i z
    rw [(t.isTab z).2] at e; cases e
  · split
    · rename_i z
      rw [z.1, z.2] at e; cases e
    · rfl
theorem Top.hok : HOk P w (topH K cs a vs ns) s.heap := fun b u h => by
  unfold topH at h
  split at h
  · rename_i z
    cases h
    exact (t.isTab z).1
  · split at h
    · rename_i z
      cases h
      obtain ⟨rfl, _⟩ := z
      exact ⟨t.lst, by rw [List.length_map]; exact t.few, vs, _, vals_ints t.nums, t.lst⟩
    · cases h
theorem Top.sq : SqL K (topH K cs a vs ns) a (ns.map V.int) := by
  cases hk : K.lookup a with
  | some o =>
    have e := t.kin a o hk
    rw [t.lst] at e; cases e
    exact .inr ⟨_, vs.toArray, _, hk, rfl, rfl, rfl, by rw [List.size_toArray, t.nums.length]; exact t.few, by simpa using vals_ints t.nums⟩
  | none =>
    refine .inl (.inr ⟨{ cls := .type "list", data := .seq vs.toArray }, ?_⟩)
    unfold topH
    rw [if_neg t.notTab, if_pos ⟨rfl, hk⟩]
/-- the heap without what is tracked -/
abbrev topB (K : PySem.W.Frag) (cs : List (Addr × Addr)) (s : Shared) (a : Addr) (vs : List Value) (ns : List Int) : Heap := hidT s.heap (topH K cs a vs ns)
theorem Top.nsB {b : Addr} {m : Str → Option Value} (h : s.heap.Ns b m) : (topB K cs s a vs ns).Ns b m := by
  obtain ⟨o, es, ep, e, d, r⟩ := h
  exact ⟨o, es, ep, hidT_get e (t.clear e (fun its n z => by rw [d] at z; cases z) fun z => by rw [d] at z; cases z), d, r⟩
theorem Top.kinB : K.In (topB K cs s a vs ns) := fun b o e => hidT_get (t.kin b o e) (t.clearK e)
theorem Top.mod : L2.Mod K mg (topB K cs s a vs ns) := ⟨t.kinB, t.nsB t.gl, ⟨mb, t.nsB t.bl, t.bb⟩, let ⟨mc, h1, h2⟩ := t.lim; ⟨mc, t.nsB h1, h2⟩⟩
theorem Top.tabB {p : Addr × Addr} (hp : p ∈ cs) : TabB (topB K cs s a vs ns) mg p.1 p.2 := by
  have hTp := t.tab p hp
  refine ⟨?_, ?_, fun z => ?_⟩
  · obtain ⟨o, us, file, tf, flags, tg, inF, text, tt, e1, r1, r2, r3, r⟩ := t.code p hp
    exact ⟨o, us, file, tf, flags, tg, inF, text, tt, hidT_get e1 (t.clear e1 (fun its n z => by rw [r2] at z; cases z) fun z => by rw [r2] at z; cases z; simp at r3), r1, r2, r3, r⟩
  · obtain ⟨bm, ob, b1, b2, b3, b4, b5, b6⟩ := t.bm
    have hd : topH K cs a vs ns bm = none := t.clear b3 (fun its n z => by rw [b6] at z; cases z) fun z => by rw [b6] at z; cases z
    refine ⟨bm, ob, b1, b2, fun q => ?_, fun q => ?_, hidT_get b3 hd, b4, b5, b6⟩
    · obtain ⟨o, es, ep, e, d, _⟩ := t.gl
      rw [q, e] at b3; cases b3
      rw [d] at b6; cases b6
    · rw [q, hTp] at b3; cases b3; cases b6
  · obtain ⟨o, es, ep, e, d, _⟩ := t.gl
    rw [z, hTp] at e; cases e; cases d
theorem Top.env : Env0 P w K mg (topB K cs s a vs ns) callerA [] s (topH K cs a vs ns) :=
  ⟨rfl, t.mod, fun b o e => of_hidT e, Nat.le_of_eq (hidT_size _ _), trivial, fun b hb => absurd (show b ∈ ([] : List Addr) from hb) (by simp), t.hok, .of_eq t.gen⟩
/-- the row's call, by what the law's def does at topH -/
theorem Top.call (F : codeAny (model P w) callerA (.call (.ref fa) ⟨[.ref a], []⟩) (CR (L2.CX P w) [] P w (topH K cs a vs ns) s (fun v _ => v = .bl true) fun _ _ _ => False) s) :
    codeAny (model P w) callerA (.call (.ref fa) ⟨[.ref a], []⟩) (fun r s' => r = .ok (.ret (.bool true)) ∧ OldK s.heap s'.heap ∧ s'.os = s.os ∧ AllBare s'.gens) s := by
  refine codeAny_mono F fun r s' h => ?_
  cases r with
  | error e =>
    obtain ⟨_, _, _, _, _, _, _, _, _, _, _, _, z⟩ := h
    exact False.elim z
  | ok fl =>
    cases fl with
    | next => exact False.elim h
    | brk => exact False.elim h
    | cont => exact False.elim h
    | ret u =>
      obtain ⟨v, H', os, bare, un, hok', r', q⟩ := h
      obtain rfl : v = .bl true := q
      obtain rfl : u = Value.bool true := r'
      -- the tables grow; all else stays
      have old : ∀ b o, s.heap.get? b = some o → (b ∉ cs.map (·.2) ∧ s'.heap.get? b = some o) ∨ (b ∈ cs.map (·.2) ∧ ∃ more : Array Value, s'.heap.get? b = some { cls := .none, data := .fields more }) := fun b o e => by
        by_cases hb : b ∈ cs.map (·.2)
        · obtain ⟨p, hp, rfl⟩ := List.mem_map.mp hb
          obtain ⟨more, z⟩ := un.tbls p.2 #[] (t.atT hp)
          exact .inr ⟨hb, _, hok' p.2 _ z⟩
        · refine .inl ⟨hb, ?_⟩
          by_cases hc : b = a ∧ K.lookup a = none
          · have e1 : topH K cs a vs ns b = some (.frz { cls := .type "list", data := .seq vs.toArray } (.lst (ns.map V.int))) := by unfold topH; rw [if_neg hb, if_pos hc]
            have z := (hok' b _ (un.frzs b _ _ e1)).1
            have z2 := (t.hok (P := P) (w := w) b _ e1).1
            rw [z2] at e; cases e
            exact z
          · have e1 : topH K cs a vs ns b = none := by unfold topH; rw [if_neg hb, if_neg hc]
            exact un.keep b o e e1 (by intro z; exact absurd (show b ∈ ([] : List Addr) from z) (by simp)) (by simp)
      refine ⟨rfl, ⟨fun b o e => ?_, fun b o e => ?_⟩, os, bare⟩
      · rcases old b o e with ⟨_, h⟩ | ⟨hb, more, h⟩
        · exact .inl h
        · obtain ⟨p, hp, rfl⟩ := List.mem_map.mp hb
          rw [t.tab p hp] at e; cases e
          exact .inr (.inl ⟨((t.code p hp).tab (t.tab p hp)).isCodeTable, rfl, #[], more, rfl, by rw [Array.empty_append]; exact h⟩)
      · rcases old b o e with ⟨_, h⟩ | ⟨_, more, h⟩
        · exact ⟨o, h⟩
        · exact ⟨_, h⟩
end
/-- the law's def as the row wants it: it gives True, whatever the script -/
structure LawIs (P : Program) (w : World) (K : PySem.W.Frag) (mg : Str → Option Value) (base : Heap) (T : List (Addr × Str)) (k n : Nat) (y x : Str) : Prop where
  ex : ∃ F : FnSem, FnT P w K mg base T k y [x] [1] F ∧ ∀ ns : List Int, ns.length ≤ n → (∀ z ∈ ns, Builtin.Int.intBits z ≤ 1048576) → ∃ m, F [.v (.list (ns.map .int))] [] = .ok (.bool true) m
/-- the tables: code objects and their tables, whose names q tells -/
def LawAtG (l : PySem.W.OpenLaw) (w : World) (K : PySem.W.Frag) (k n : Nat) (y x : Str) (mg : Str → Option Value) (h : Heap) : Prop :=
  ∃ (cs : List (Addr × Addr)) (T : List (Addr × Str)), (∀ p ∈ cs, h.get? p.2 = some { cls := .none, data := .fields #[] }) ∧ (∀ p ∈ cs, K.lookup p.2 = none) ∧ (∀ p ∈ cs, PySem.W.CodeHd h p.1 p.2) ∧ (∀ H : Hp, (∀ p ∈ cs, H p.2 = some (.tbl #[])) → Tabs T H) ∧
    ∀ base : Heap, K.In base → base.Ns mainGlobals mg → (∀ p ∈ cs, TabB base mg p.1 p.2) → LawIs l.prog w K mg base T k n y x
theorem walk_ofG {l : PySem.W.OpenLaw} {n k : Nat} {q : Program} {loose : List Str} {XP : (Str → Option Value) → Heap → Prop} {YP : World → Heap → Prop} {d : DefRec} {K : Params → PySem.W.Frag} {x : Str}
    (hn : l.most = some n) (hn2 : n ≤ sizeLine) (hdf : d.params.defaults = []) (hr : Room k callerA) (hY : ∀ (w : World) (h : Heap), YP w h → (K w.params).In h)
    (F : ∀ (w : World) (mg : Str → Option Value) (h : Heap), YP w h → XP mg h → (K w.params).In h → h.Ns mainGlobals mg → LawAtG l w (K w.params) k n d.name x mg h) :
    PySem.W.WalkO q loose XP YP l.row.toRowW d [] (fun f vs => PySem.call f vs) := by
  refine Att.attach_callB hn hdf fun w s₀ s mg mb fa o pm cd doc a vs ns G Y ho hd hcd hmg hobj hints hlen hbits hg => ?_
  have KX := hY w _ Y
  obtain ⟨cs, T, hT, nT, C, hTab, hF⟩ := F w mg _ Y G.X KX G.T.g
  have t : Top (K w.params) mg mb cs s a vs ns := ⟨KX, G.T.g, G.T.b, G.T.builtins, G.T.nolimit, hg, hT, nT, C, G.T.bmain, hobj, hints, Nat.le_trans hlen hn2⟩
  obtain ⟨Fn, hFn, hyes⟩ := (hF _ t.kinB (t.nsB t.gl) fun p hp => t.tabB hp).ex
  obtain ⟨f', fd, hm', _, hf, hb⟩ := hFn.ex
  have ef := hmg.symm.trans hm'
  cases ef
  obtain ⟨m, hm⟩ := hyes ns hlen hbits
  refine t.call (hf.run callerA [] s _ ⟨[.ref a], []⟩ [.ref a] [.ref a] _ _ hr rfl t.env (hb 1 (by simp) s [.ref a] [] KX rfl rfl) (.cons rfl .nil) ?_)
  have hmsk : msk ⟨[], []⟩ (topH (K w.params) cs a vs ns) = topH (K w.params) cs a vs ns := by
    funext b
    unfold msk
    rw [if_neg]
    rintro (z | z) <;> cases z
  have iAll : ∀ (l : List Int) (H : Hp), RpAll (K w.params) H (l.map V.int) (l.map .int) := fun l H => by
    induction l with
    | nil => exact .nil
    | cons i l ih => exact .cons (.int i) ih
  refine ⟨⟨[], []⟩, [], [.v (.list (ns.map .int))], hTab _ fun p hp => t.atT hp, ⟨rfl, fun k a h => by simp at h, fun k h => by simp at h, fun i k a h => by simp at h, fun b h => by simp at h⟩, rfl, ⟨⟨rfl, _, rfl, ?_⟩, trivial⟩, ?_⟩
  · rw [hmsk]
    exact .lst t.sq (iAll ns _)
  · rw [hm]
    intro v H' _ _ _ r
    cases r; rfl
end DS

set_option maxRecDepth 100000
set_option maxHeartbeats 2000000
namespace DS
open PySem PySem.Spec PyProof.Rows L2 LamX NdefX

/-! ### facts by looking -/
def blkB (N : List Str) (sc scope : Scope) (own : List (Str × Nat)) : Bool :=
  decide (scope.kind = .function) && scope.names.all (fun y => decide (scope.names.lookup y.1 = some y.2)) && own.all (fun p => decide (N[p.2]? = some p.1)) && scope.names.all (fun y => !decide (y.2 = .free) || (decide (sc.names.lookup y.1 = some .cell) || decide (sc.names.lookup y.1 = some .free))) &&
    scope.names.all (fun y => !(decide (y.2 = .local) || decide (y.2 = .cell)) || (decide (y.1 ∈ own.map (·.1)) || !decide (y.1 ∈ N)))
theorem blk_ok {N : List Str} {sc scope : Scope} {own : List (Str × Nat)} (h : blkB N sc scope own = true) : BlkOk N sc scope own := by
  unfold blkB at h
  simp only [Bool.and_eq_true, List.all_eq_true, decide_eq_true_eq, Bool.or_eq_true, Bool.not_eq_true', decide_eq_false_iff_not, Bool.or_eq_false_iff] at h
  obtain ⟨⟨⟨⟨h1, h2⟩, h3⟩, h4⟩, h5⟩ := h
  refine ⟨h1, h2, h3, fun y hy e => ?_, fun y hy e => ?_⟩
  · rcases h4 y hy with z | z
    · exact absurd e z
    · exact z
  · rcases h5 y hy with z | z
    · rcases e with e | e
      · exact absurd e z.1
      · exact absurd e z.2
    · exact z
def frB (sc scope : Scope) : Bool := scope.names.all fun y => !decide (y.2 = .free) || (decide (sc.names.lookup y.1 = some .cell) || decide (sc.names.lookup y.1 = some .free))
theorem fr_ok {sc scope : Scope} (h : frB sc scope = true) : ∀ y ∈ scope.names, y.2 = .free → sc.names.lookup y.1 = some .cell ∨ sc.names.lookup y.1 = some .free := fun y hy e => by
  unfold frB at h
  simp only [List.all_eq_true, decide_eq_true_eq, Bool.or_eq_true, Bool.not_eq_true', decide_eq_false_iff_not] at h
  rcases h y hy with z | z
  · exact absurd e z
  · exact z
def fr2B (fr : List Str) (scope : Scope) : Bool := fr.all fun y => decide ((y, NameKind.free) ∈ scope.names)
theorem fr2_ok {fr : List Str} {scope : Scope} (h : fr2B fr scope = true) : ∀ y ∈ fr, (y, NameKind.free) ∈ scope.names := fun y hy => of_decide_eq_true (List.all_eq_true.mp h y hy)
theorem isa_int : ∀ (K : PySem.W.Frag) (d : D), PySem.W.kitOne K (.type (tyOf d)) (.type "int") = some (DS.isa "int" d) ∨ ∃ kvs, d = .dict kvs := fun K d => by
  cases d <;> first | exact .inl rfl | exact .inl (by with_unfolding_all rfl) | exact .inr ⟨_, rfl⟩
theorem isa_bool : ∀ (K : PySem.W.Frag) (d : D), PySem.W.kitOne K (.type (tyOf d)) (.type "bool") = some (DS.isa "bool" d) ∨ ∃ kvs, d = .dict kvs := fun K d => by
  cases d <;> first | exact .inl rfl | exact .inl (by with_unfolding_all rfl) | exact .inr ⟨_, rfl⟩
theorem isa_tuple : ∀ (K : PySem.W.Frag) (d : D), PySem.W.kitOne K (.type (tyOf d)) (.type "tuple") = some (DS.isa "tuple" d) ∨ ∃ kvs, d = .dict kvs := fun K d => by
  cases d <;> first | exact .inl rfl | exact .inl (by with_unfolding_all rfl) | exact .inr ⟨_, rfl⟩
theorem isa_str : ∀ (K : PySem.W.Frag) (d : D), PySem.W.kitOne K (.type (tyOf d)) (.type "str") = some (DS.isa "str" d) ∨ ∃ kvs, d = .dict kvs := fun K d => by
  cases d <;> first | exact .inl rfl | exact .inl (by with_unfolding_all rfl) | exact .inr ⟨_, rfl⟩
theorem isa_list : ∀ (K : PySem.W.Frag) (d : D), PySem.W.kitOne K (.type (tyOf d)) (.type "list") = some (DS.isa "list" d) ∨ ∃ kvs, d = .dict kvs := fun K d => by
  cases d <;> first | exact .inl rfl | exact .inl (by with_unfolding_all rfl) | exact .inr ⟨_, rfl⟩
theorem FnG.never {P : Program} {w : World} {K : PySem.W.Frag} {mg : Str → Option Value} {base : Heap} {T : List (Addr × Str)} {k : Nat} {f : Addr} {fd : FuncData} {ps : List Str} : FnG P w K mg base T k f fd ps (fun _ _ => .bad) := ⟨fun A outer s H args us vs Q E _ _ _ _ _ h => by
  obtain ⟨_, _, _, _, _, _, _, z⟩ := h
  exact z.elim⟩
theorem tab_one {P : Addr} {q : Str} : ∀ {T : List (Addr × Str)}, (T.map (·.1)).Nodup → (P, q) ∈ T → ∀ p ∈ T, p.1 = P → p.2 = q
  | [], _, hm, _, _, _ => by cases hm
  | t :: T, hnd, hm, p, hp, e => by
    rw [List.map_cons, List.nodup_cons] at hnd
    obtain ⟨h1, h2⟩ := hnd
    rcases List.mem_cons.mp hm with m1 | m1
    · rcases List.mem_cons.mp hp with m2 | m2
      · rw [m2, ← m1]
      · refine (h1 ?_).elim
        rw [← m1, ← e]
        exact List.mem_map.mpr ⟨p, m2, rfl⟩
    · rcases List.mem_cons.mp hp with m2 | m2
      · refine (h1 ?_).elim
        rw [← m2, e]
        exact List.mem_map.mpr ⟨(P, q), m1, rfl⟩
      · exact tab_one h2 m1 p m2 e
/-! ### tuple(range(n)) -/
def dTupR : D → Option D
  | .int n => if bound62 n && decide (n.toNat ≤ lineN) then some (.tuple (rng 0 n)) else none
  | _ => none
def eTupR (a : DE) : DE := fun ρ m => (a ρ m).bind fun x m => lift (dTupR x) m
theorem rg_dp {K : PySem.W.Frag} {H : Hp} (a b : Int) : RpAll K H (rgV a b) (rng a b) := by
  unfold rgV rng
  generalize List.range (b - a).toNat = l
  induction l with
  | nil => exact .nil
  | cons i l ih => exact .cons (.int _) ih
section
variable {j : J} {a : Expr} {ga : DE} {pos pos2 p p2 : Pos}
theorem SE.tupR {k : Nat} (o : JOk j k) (hg : Gl j.X "tuple") (hm : j.X.mg "tuple" = none) (hg2 : Gl j.X "range") (hm2 : j.X.mg "range" = none) (ha : SE j a ga) (na : starEach [.Call (.Name "range" p2) [a] [] pos2] j.X.env = (false, eval (.Call (.Name "range" p2) [a] [] pos2) j.X.env) :: starEach [] j.X.env := by rfl)
    (hs : starEach [a] j.X.env = (false, eval a j.X.env) :: starEach [] j.X.env := by rfl) : SE j (.Call (.Name "tuple" p) [.Call (.Name "range" p2) [a] [] pos2] [] pos) (eTupR ga) := by
  obtain ⟨t1, p1, k1⟩ := ha
  refine ⟨_, pe_tupRg o.calm hg hm (prg_1 hg2 hm2 p1 hs) na, fun w ρ m σ H Q E h => ?_⟩
  refine k1 w ρ m σ H _ E (Post.bind h fun d m1 _ v H1 A1 r1 h1 => ?_)
  obtain ⟨z, hz, hq⟩ := post_lift h1
  cases d <;> simp only [dTupR, reduceCtorEq] at hz
  split at hz
  · rename_i hb
    simp only [Bool.and_eq_true, decide_eq_true_eq] at hb
    cases hz; cases r1
    obtain ⟨b1, b2⟩ := bound62_of hb.1
    have hl : lineN = 1000000 := rfl
    refine ⟨_, rfl, ⟨by decide, by decide, b1, b2, by rw [Int.sub_zero]; omega⟩, fun q hq' => ?_⟩
    exact fin_tup A1.tabs A1.obs hq' (rg_dp 0 _) fun v H' x r => hq v H' (ex_aft A1.tabs A1.obs x) r
  · cases hz
end
end DS

set_option maxRecDepth 100000
set_option maxHeartbeats 2000000
namespace DS
open PySem

/-! ### reckoning with denotations -/
section
variable (f g : D → D → Option D) (u : D → Option D) (bf : List D → Option D) (a b c : DE) (ta tb : DT) (as bs : DA) (lo hi : DO) (F : FnSem) (xs ys : DXs) (x : DX) (sa sb : DS) (tg : DG) (ρ : List Slot) (m : Ms) (i n : Nat) (d : D) (ts : String)
@[simp] theorem ev_eC : eC d ρ m = .ok d m := rfl
@[simp] theorem ev_eBin : eBin f a b ρ m = (a ρ m).bind fun x m => (b ρ m).bind fun y m => lift (f x y) m := rfl
@[simp] theorem ev_eUn : eUn u a ρ m = (a ρ m).bind fun x m => lift (u x) m := rfl
@[simp] theorem ev_tAnd : tAnd ta tb ρ m = (ta ρ m).bind fun c m => if c = true then tb ρ m else .ok false m := rfl
@[simp] theorem ev_tOr : tOr ta tb ρ m = (ta ρ m).bind fun c m => if c = true then .ok true m else tb ρ m := rfl
@[simp] theorem ev_tNot : tNot ta ρ m = (ta ρ m).bind fun c m => .ok (!c) m := rfl
@[simp] theorem ev_eAnd : eAnd a b ρ m = (tV a ρ m).bind fun c m => if c = true then b ρ m else .ok (.bool false) m := rfl
@[simp] theorem ev_eOr : eOr a b ρ m = (tV a ρ m).bind fun c m => if c = true then .ok (.bool true) m else b ρ m := rfl
@[simp] theorem ev_eNot : eNot a ρ m = (tV a ρ m).bind fun c m => .ok (.bool !c) m := rfl
@[simp] theorem ev_eIf : eIf ta a b ρ m = (ta ρ m).bind fun c m => if c = true then a ρ m else b ρ m := rfl
@[simp] theorem ev_eTup : eTup as ρ m = (as ρ m).bind fun xs m => if xs.length ≤ lineN then .ok (.tuple xs) m else .bad := rfl
@[simp] theorem ev_eLst : eLst as ρ m = (as ρ m).bind fun xs m => if xs.length ≤ lineN then .ok (.list xs) m else .bad := rfl
@[simp] theorem ev_aNil : aNil ρ m = .ok [] m := rfl
@[simp] theorem ev_aCons : aCons a as ρ m = (a ρ m).bind fun x m => (as ρ m).bind fun xs m => .ok (x :: xs) m := rfl
@[simp] theorem ev_oNone : oNone ρ m = .ok none m := rfl
@[simp] theorem ev_eSl : eSl a lo hi ρ m = (a ρ m).bind fun x m => (lo ρ m).bind fun l m => (hi ρ m).bind fun h m => lift (dSl x l h) m := rfl
@[simp] theorem ev_eCall : eCall F xs ρ m = (xs ρ m).bind fun ys m => F ys m := rfl
@[simp] theorem ev_eCallK : eCallK F xs ys ρ m = (xs ρ m).bind fun us m => (ys ρ m).bind fun vs m => F (us ++ vs) m := rfl
@[simp] theorem ev_xNil : xNil ρ m = .ok [] m := rfl
@[simp] theorem ev_xCons : xCons x xs ρ m = (x ρ m).bind fun y m => (xs ρ m).bind fun ys m => .ok (y :: ys) m := rfl
@[simp] theorem ev_eBi : eBi bf as ρ m = (as ρ m).bind fun xs m => lift (bf xs) m := rfl
@[simp] theorem ev_eIsa : eIsa ts a ρ m = (a ρ m).bind fun x m => .ok (.bool (isa ts x)) m := rfl
@[simp] theorem ev_sNil : sNil ρ m = .next ρ m := rfl
@[simp] theorem ev_sRet : sRet a ρ m = (a ρ m).thn fun d m => .ret d m := rfl
@[simp] theorem ev_sRetN : sRetN ρ m = .ret .none m := rfl
@[simp] theorem ev_sIf : sIf ta sa sb ρ m = (ta ρ m).thn fun c m => if c = true then sa ρ m else sb ρ m := rfl
@[simp] theorem ev_sExpr : sExpr a ρ m = (a ρ m).thn fun _ m => .next ρ m := rfl
@[simp] theorem ev_tTrue : tTrue ρ m = .ok true m := rfl
@[simp] theorem ev_iSeq : iSeq a ρ m = (a ρ m).bind fun d m => lift (itemsOf d) m := rfl
@[simp] theorem ev_iRng1 : iRng1 a ρ m = (a ρ m).bind fun d m => lift (dRng1 d) m := rfl
@[simp] theorem ev_tupR : eTupR a ρ m = (a ρ m).bind fun d m => lift (dTupR d) m := rfl
@[simp] theorem ev_items_t (ds : List D) : itemsOf (.tuple ds) = some ds := rfl
@[simp] theorem ev_items_l (ds : List D) : itemsOf (.list ds) = some ds := rfl
theorem ev_eV : eV i ρ m = match ρ[i]? with | some (.v d) => .ok d m | _ => .bad := rfl
@[simp] theorem ev_eV' (h : ρ[i]? = some (.v d)) : eV i ρ m = .ok d m := by rw [ev_eV, h]
end
/-! a whole run by simp -/
def SR.seq (r : SR) (k : DS) : SR := match r with
  | .next ρ m => k ρ m
  | r => r
def SR.fin (n : Nat) (r : SR) : Res D := match r with
  | .ret d m' => .ok d (m'.take n)
  | .next _ m' => .ok .none (m'.take n)
  | .exc x m' => .exc x (m'.take n)
  | _ => .bad
def Res.toB (r : Res D) : Res Bool := r.bind fun x m => match x with
  | .bool k => .ok k m
  | _ => .bad
def Res.toI (r : Res D) : Res (Option Int) := r.bind fun x m => match x with
  | .int i => .ok (some i) m
  | _ => .bad
def nxtO (o : Option (List Slot)) (m : Ms) : SR := match o with
  | some ρ' => .next ρ' m
  | none => .bad
section
variable {α β : Type} {f g : D → D → Option D} {a b c : DE} {as bs : DA} {sa sb k : DS} {tg : DG} {ρ ρ' : List Slot} {m m' : Ms} {i n N : Nat} {d e : D} {p : Prop} [Decidable p] {x : Exc} {args : List Slot}
@[simp] theorem ev_sSeq : sSeq sa sb ρ m = (sa ρ m).seq sb := by unfold sSeq SR.seq; cases sa ρ m <;> rfl
@[simp] theorem seq_next : (SR.next ρ m).seq k = k ρ m := rfl
@[simp] theorem seq_ret : (SR.ret d m).seq k = .ret d m := rfl
@[simp] theorem seq_bad : (SR.bad).seq k = .bad := rfl
@[simp] theorem seq_exc : (SR.exc x m).seq k = .exc x m := rfl
@[simp] theorem seq_brk : (SR.brk ρ m).seq k = .brk ρ m := rfl
@[simp] theorem seq_cont : (SR.cont ρ m).seq k = .cont ρ m := rfl
@[simp] theorem seq_ite {r s : SR} : (if p then r else s).seq k = if p then r.seq k else s.seq k := by split <;> rfl
@[simp] theorem fin_next : (SR.next ρ m).fin n = .ok .none (m.take n) := rfl
@[simp] theorem fin_ret : (SR.ret d m).fin n = .ok d (m.take n) := rfl
@[simp] theorem fin_bad : (SR.bad).fin n = .bad := rfl
@[simp] theorem fin_exc : (SR.exc x m).fin n = .exc x (m.take n) := rfl
@[simp] theorem fin_ite {r s : SR} : (if p then r else s).fin n = if p then r.fin n else s.fin n := by split <;> rfl
@[simp] theorem bind_ite {r s : Res α} {h : α → Ms → Res β} : (if p then r else s).bind h = if p then r.bind h else s.bind h := by split <;> rfl
@[simp] theorem thn_ite {r s : Res α} {h : α → Ms → SR} : (if p then r else s).thn h = if p then r.thn h else s.thn h := by split <;> rfl
@[simp] theorem ev_tV : tV a ρ m = (a ρ m).toB := by unfold tV Res.toB; rfl
@[simp] theorem toB_ok {k : Bool} : (Res.ok (.bool k) m : Res D).toB = .ok k m := rfl
@[simp] theorem toB_bad : (Res.bad : Res D).toB = .bad := rfl
@[simp] theorem toB_exc : (Res.exc x m : Res D).toB = .exc x m := rfl
@[simp] theorem toB_ite {r s : Res D} : (if p then r else s).toB = if p then r.toB else s.toB := by split <;> rfl
@[simp] theorem ev_oSome : oSome a ρ m = (a ρ m).toI := by unfold oSome Res.toI; rfl
@[simp] theorem toI_ok {j : Int} : (Res.ok (.int j) m : Res D).toI = .ok (some j) m := rfl
@[simp] theorem ev_sAsg : sAsg a tg ρ m = (a ρ m).thn fun d m => nxtO (tg d ρ) m := by unfold sAsg nxtO; rfl
@[simp] theorem nxtO_some : nxtO (some ρ) m = .next ρ m := rfl
@[simp] theorem ev_gV (h : i < ρ.length) : gV i d ρ = some (ρ.set i (.v d)) := by unfold gV; rw [if_pos h]
@[simp] theorem ev_gT0 {b : List D → List Slot → Option (List Slot)} {ds : List D} (h : ds.length = n) : gTup' n b (.tuple ds) ρ = b ds ρ := if_pos h
@[simp] theorem ev_gC {b : List D → List Slot → Option (List Slot)} {ds : List D} : gCons' tg b (d :: ds) ρ = (tg d ρ).bind (b ds) := rfl
@[simp] theorem ev_gN : gNil' [] ρ = some ρ := rfl
@[simp] theorem fn_ev {body : DS} : fnD N body args m = (body (args ++ List.replicate (N - args.length) .un) m).fin m.length := by unfold fnD SR.fin; rfl
@[simp] theorem ev_par {ga : DA} {l : Nat} : sPar i l ga ρ m = (ga ρ m).thn fun ds m => match ds with | [d, e] => if i < ρ.length ∧ l < ρ.length then .next ((ρ.set i (.v d)).set l (.v e)) m else .bad | _ => .bad := rfl
@[simp] theorem lift_ite {α : Type} {r s : Option α} : lift (if p then r else s) m = if p then lift r m else lift s m := by split <;> rfl
end
@[simp] theorem xV_ev (a : DE) (ρ : List Slot) (m : Ms) : xV a ρ m = (a ρ m).bind fun d m => .ok (.v d) m := rfl
@[simp] theorem xO_ob (i k : Nat) (ρ : List Slot) (m : Ms) (h : ρ[i]? = some (.ob k)) : xO i ρ m = .ok (.ob k) m := by simp [xO, h]
@[simp] theorem xO_ow (i k : Nat) (ρ : List Slot) (m : Ms) (h : ρ[i]? = some (.ow k)) : xO i ρ m = .ok (.ob k) m := by simp [xO, h]
@[simp] theorem lt_int (a b : Int) : PySem.W.dataLt (.int a) (.int b) = decide (a < b) := by
  have h := congrFun (congrFun (PySem.W.dataLe_int (β := Int) (fun x => x)) b) a
  rw [PySem.W.dataLe_eq] at h
  have h' : (!PySem.W.dataLt (.int a) (.int b)) = decide (b ≤ a) := h
  by_cases e : a < b
  · have : ¬ b ≤ a := by omega
    rw [decide_eq_false this] at h'
    simp [e]
    simpa using h'
  · have : b ≤ a := by omega
    rw [decide_eq_true this] at h'
    simp [e]
    simpa using h'
@[simp] theorem dLt_int (a b : Int) : dLt (.int a) (.int b) = some (.bool (decide (a < b))) := by
  simp [dLt, ordOk, shal, PyData.depth, PySem.W.alike]
@[simp] theorem dGt_int (a b : Int) : dGt (.int a) (.int b) = some (.bool (decide (b < a))) := by
  simp [dGt, ordOk, shal, PyData.depth, PySem.W.alike]
@[simp] theorem dLe_int (a b : Int) : dLe (.int a) (.int b) = some (.bool (decide (a ≤ b))) := by
  have e : (!decide (b < a)) = decide (a ≤ b) := by by_cases h : a ≤ b <;> simp [h] <;> omega
  simp only [dLe, lt_int, e]
  simp [ordOk, shal, PyData.depth, PySem.W.alike]
@[simp] theorem dGe_int (a b : Int) : dGe (.int a) (.int b) = some (.bool (decide (b ≤ a))) := by
  have e : (!decide (a < b)) = decide (b ≤ a) := by by_cases h : b ≤ a <;> simp [h] <;> omega
  simp only [dGe, lt_int, e]
  simp [ordOk, shal, PyData.depth, PySem.W.alike]
@[simp] theorem dAdd_int (a b : Int) : dAdd (.int a) (.int b) = some (.int (a + b)) := rfl
@[simp] theorem dSub_int (a b : Int) : dSub (.int a) (.int b) = some (.int (a - b)) := rfl
@[simp] theorem dNeg_int (a : Int) : dNeg (.int a) = some (.int (-a)) := rfl
theorem dMul_int {a b : Int} (h1 : small a = true) (h2 : small b = true) : dMul (.int a) (.int b) = some (.int (a * b)) := by simp [dMul, h1, h2]
theorem dFdiv_int {a b : Int} (h1 : b ≠ 0) (h2 : small b = true) : dFdiv (.int a) (.int b) = some (.int (a.fdiv b)) := by simp [dFdiv, h1, h2]
theorem dMod_int {a b : Int} (h1 : b ≠ 0) : dMod (.int a) (.int b) = some (.int (a.fmod b)) := by simp [dMod, h1]
@[simp] theorem eqv_int (a b : Int) : PyData.eqv (.int a) (.int b) = decide (a = b) := by
  simp only [PyData.eqv]; rfl
@[simp] theorem eqv_bool (a b : Bool) : PyData.eqv (.bool a) (.bool b) = (a == b) := by
  simp [PyData.eqv]
@[simp] theorem eqv_tup (xs ys : List D) : PyData.eqv (.tuple xs) (.tuple ys) = PyData.eqvAll xs ys := by simp [PyData.eqv]
@[simp] theorem eqv_list (xs ys : List D) : PyData.eqv (.list xs) (.list ys) = PyData.eqvAll xs ys := by simp [PyData.eqv]
@[simp] theorem eqvAll_nil : PyData.eqvAll [] [] = true := by simp [PyData.eqvAll]
@[simp] theorem eqvAll_cons (x y : D) (xs ys : List D) : PyData.eqvAll (x :: xs) (y :: ys) = (PyData.eqv x y && PyData.eqvAll xs ys) := by simp [PyData.eqvAll]
theorem dEq_of {d e : D} (h : shal d e = true) : dEq d e = some (.bool (PyData.eqv d e)) := by simp [dEq, h]
theorem dNe_of {d e : D} (h : shal d e = true) : dNe d e = some (.bool (!PyData.eqv d e)) := by simp [dNe, h]
@[simp] theorem shal_int (a : Int) (d : D) : shal (.int a) d = true := by simp [shal, PyData.depth]
@[simp] theorem shal_int' (a : Int) (d : D) : shal d (.int a) = true := by simp [shal, PyData.depth]
@[simp] theorem shal_non (d : D) : shal d .none = true := by simp [shal, PyData.depth]
@[simp] theorem dEq_int (a b : Int) : dEq (.int a) (.int b) = some (.bool (decide (a = b))) := by simp [dEq_of]
@[simp] theorem dNe_int (a b : Int) : dNe (.int a) (.int b) = some (.bool (!decide (a = b))) := by simp [dNe_of]
@[simp] theorem dInt_int (i : Int) : dInt [.int i] = some (.int i) := rfl
@[simp] theorem dAbs_int (i : Int) : dAbs [.int i] = some (.int (if i < 0 then -i else i)) := rfl
@[simp] theorem dGcd_2 (a b : Int) : dGcdA [.int a, .int b] = some (.int ((Nat.gcd a.natAbs b.natAbs : Nat) : Int)) := rfl
@[simp] theorem dGcd_3 (a b c : Int) : dGcdA [.int a, .int b, .int c] = some (.int ((Nat.gcd (Nat.gcd a.natAbs b.natAbs) c.natAbs : Nat) : Int)) := rfl
@[simp] theorem dLen_t (xs : List D) : dLen [.tuple xs] = some (.int xs.length) := rfl
@[simp] theorem dLen_l (xs : List D) : dLen [.list xs] = some (.int xs.length) := rfl
@[simp] theorem dTuple_l (xs : List D) : dTuple [.list xs] = some (.tuple xs) := rfl
@[simp] theorem isa_ii (i : Int) : DS.isa "int" (.int i) = true := rfl
@[simp] theorem isa_bi (i : Int) : DS.isa "bool" (.int i) = false := rfl
@[simp] theorem isa_ti (i : Int) : DS.isa "tuple" (.int i) = false := rfl
@[simp] theorem isa_it (xs : List D) : DS.isa "int" (.tuple xs) = false := rfl
@[simp] theorem isa_bt (xs : List D) : DS.isa "bool" (.tuple xs) = false := rfl
@[simp] theorem isa_tt (xs : List D) : DS.isa "tuple" (.tuple xs) = true := rfl
@[simp] theorem isa_in : DS.isa "int" .none = false := rfl
@[simp] theorem isa_bn : DS.isa "bool" .none = false := rfl
@[simp] theorem isa_tn : DS.isa "tuple" .none = false := rfl
/-- items by place -/
theorem ixN_nat {n k : Nat} (h : k < n) : L2.ixN n (k : Int) = some k := by
  unfold L2.ixN
  simp
  omega
/-! loops, comprehensions -/
def SR.loop (r : SR) (k : DS) : SR := match r with
  | .next ρ m => k ρ m
  | .cont ρ m => k ρ m
  | .brk ρ m => .next ρ m
  | r => r
section
variable {gi : DI} {g : DG} {body k : DS} {t : DT} {e : DE} {ρ ρ' : List Slot} {m : Ms} {d : D} {ds : List D} {vs : List Nat} {p : Prop} [Decidable p] {x : Exc}
@[simp] theorem loop_next : (SR.next ρ m).loop k = k ρ m := rfl
@[simp] theorem loop_cont : (SR.cont ρ m).loop k = k ρ m := rfl
@[simp] theorem loop_brk : (SR.brk ρ m).loop k = .next ρ m := rfl
@[simp] theorem loop_ret : (SR.ret d m).loop k = .ret d m := rfl
@[simp] theorem loop_bad : (SR.bad).loop k = .bad := rfl
@[simp] theorem loop_ite {r s : SR} : (if p then r else s).loop k = if p then r.loop k else s.loop k := by split <;> rfl
@[simp] theorem ev_sFor : sFor gi g body ρ m = (gi ρ m).thn fun ds m => forF g body ds ρ m := rfl
@[simp] theorem for_nil : forF g body [] ρ m = .next ρ m := rfl
theorem for_cons (h : g d ρ = some ρ') : forF g body (d :: ds) ρ m = (body ρ' m).loop (forF g body ds) := by
  unfold SR.loop
  simp only [forF, h]
  all_goals (cases body ρ' m <;> rfl)
@[simp] theorem ev_eLc : eLc gi g t e vs ρ m = (gi ρ m).bind fun ds m => if ds.length ≤ lineN then (lcF g t e ds (wipeS ρ vs) m).bind fun xs m => .ok (.list xs) m else .bad := rfl
/-- a comprehension whose parts leave the mutable lists as they are -/
theorem lc_pure {α : Type} (enc : α → D) (c : α → Bool) (f : α → D) : ∀ (xs : List α), (∀ x ∈ xs, ∃ ρ', g (enc x) ρ = some ρ' ∧ t ρ' m = .ok (c x) m ∧ (c x = true → e ρ' m = .ok (f x) m)) → lcF g t e (xs.map enc) ρ m = .ok ((xs.filter c).map f) m
  | [], _ => rfl
  | x :: xs, h => by
    obtain ⟨ρ', h1, h2, h3⟩ := h x (by simp)
    have ih := lc_pure enc c f xs fun y hy => h y (by simp [hy])
    simp only [List.map_cons, lcF, h1, h2, Res.noX_ok, Res.bind_ok]
    cases hc : c x with
    | false => simp [hc, ih]
    | true => simp [hc, h3 hc, ih]
/-- without a test -/
theorem lc_all {α : Type} (enc : α → D) (f : α → D) (xs : List α) (h : ∀ x ∈ xs, ∃ ρ', g (enc x) ρ = some ρ' ∧ e ρ' m = .ok (f x) m) : lcF g tTrue e (xs.map enc) ρ m = .ok (xs.map f) m := by
  have q := lc_pure (g := g) (t := tTrue) (e := e) (ρ := ρ) (m := m) enc (fun _ => true) f xs fun x hx => by
    obtain ⟨ρ', h1, h2⟩ := h x hx
    exact ⟨ρ', h1, rfl, fun _ => h2⟩
  rw [q, List.filter_eq_self.mpr (fun _ _ => rfl)]
theorem boolsOf_map {α : Type} (f : α → Bool) : ∀ xs : List α, boolsOf (xs.map fun x => .bool (f x)) = some (xs.map f)
  | [] => rfl
  | x :: xs => by simp [boolsOf, boolsOf_map f xs]
theorem dAll_map {α : Type} (f : α → Bool) (xs : List α) : dAll [.list (xs.map fun x => .bool (f x))] = some (.bool (xs.all f)) := by
  simp [dAll, boolsOf_map]
end
@[simp] theorem ev_fnDH {N : Nat} {body : FnSem → DS} {G : FnSem} {args : List Slot} {m : Ms} : fnDH N body G args m = (body G (args ++ .fn 0 :: List.replicate (N - args.length - 1) .un) m).fin m.length := by unfold fnDH SR.fin; rfl
@[simp] theorem ev_iEnum {a : DE} {ρ : List Slot} {m : Ms} : iEnum' a ρ m = (a ρ m).bind fun d m => lift ((lt_items d).map (enD 0)) m := rfl
@[simp] theorem lt_items_t (xs : List D) : lt_items (.tuple xs) = some xs := rfl
@[simp] theorem lt_items_l (xs : List D) : lt_items (.list xs) = some xs := rfl
theorem ev_eCallC {i l : Nat} {G : FnSem} {a : DXs} {ρ : List Slot} {m : Ms} (h : ρ[i]? = some (.fn l)) : eCallC i l G a ρ m = (a ρ m).bind fun xs m => G xs m := by simp [eCallC, fnAtS, h]
theorem ev_eCallH {i l : Nat} {F : FnSem → FnSem} {G : FnSem} {a : DXs} {ρ : List Slot} {m : Ms} (h : ρ[i]? = some (.fn l)) : eCallH i l F G a ρ m = (a ρ m).bind fun xs m => F G xs m := by simp [eCallH, fnAtS, h]
@[simp] theorem ev_eCallL {F : FnSem → FnSem} {N : Nat} {js : List Nat} {g : DE} {a : DXs} {ρ : List Slot} {m : Ms} : eCallL F N js g a ρ m = (a ρ m).bind fun xs m => F (lamD N (js.map (capOf ρ)) g) xs m := rfl
end DS

set_option maxRecDepth 100000
set_option maxHeartbeats 2000000
namespace DS
open PySem
/-! more rows for simp: new lists, own lists, laps of lists -/
def SR.nq (r : SR) (b : DA) : Res (List D) := match r with
  | .next ρ m => b ρ m
  | _ => .bad
def Res.finN (n : Nat) (r : Res (List D)) : Res (List D) := match r with
  | .ok ds m' => .ok ds (m'.take n)
  | _ => .bad
section
variable {α β : Type} {a b c : DE} {sa sb : DS} {as bs : DA} {xs : DXs} {x y : DX} {ρ ρ' : List Slot} {m m' : Ms} {i k n N : Nat} {d e : D} {ds : List D} {p : Prop} [Decidable p] {ex : Exc} {args : List Slot}
@[simp] theorem ev_nSeq {b : DA} : nSeq sa b ρ m = (sa ρ m).nq b := rfl
@[simp] theorem nq_next {b : DA} : (SR.next ρ m).nq b = b ρ m := rfl
@[simp] theorem nq_ite {r s : SR} {b : DA} : (if p then r else s).nq b = if p then r.nq b else s.nq b := by split <;> rfl
@[simp] theorem ev_fnNew {body : DA} : fnNewD N body args m = (body (args ++ List.replicate (N - args.length) .un) m).finN m.length := by unfold fnNewD Res.finN; rfl
@[simp] theorem finN_ok : (Res.ok ds m').finN n = .ok ds (m'.take n) := rfl
@[simp] theorem ev_aLen : aLen as ρ m = (as ρ m).bind fun ds m => if ds.length ≤ lineN then .ok ds m else .bad := rfl
@[simp] theorem ev_sNew : sNew i as ρ m = (as ρ m).thn fun ds m => if i < ρ.length then .next (ρ.set i (.ow m.length)) (m ++ [some ds]) else .bad := rfl
@[simp] theorem ev_eBinS {f : D → D → Option D} : eBinS f x y ρ m = (x ρ m).bind fun x m => (y ρ m).bind fun y m => lift ((slotD x m).bind fun d => (slotD y m).bind fun e => f d e) m := rfl
@[simp] theorem ev_eBiS {f : List D → Option D} : eBiS f xs ρ m = (xs ρ m).bind fun xs m => lift ((slotsD xs m).bind f) m := rfl
@[simp] theorem slotD_v : slotD (.v d) m = some d := rfl
theorem slotD_ob (h : mAt k m = some ds) : slotD (.ob k) m = some (.list ds) := by
  have := mAt_of h
  simp [slotD, this]
theorem ev_sApp (h : objAt i ρ = some k) (hm : mAt k m = some ds) : sApp i a ρ m = (a ρ m).thn fun d m => appD k d ρ m := by simp [sApp, h, hm]
theorem ev_appD (hm : mAt k m = some ds) (hl : ds.length < lineN) : appD k d ρ m = .next ρ (m.set k (some (ds ++ [d]))) := by simp [appD, hm, hl]
theorem ev_sFrz {g : DS} (h : ρ[i]? = some (.ow k)) (hm : mAt k m = some ds) : sFrz i g ρ m = g (ρ.set i (.v (.list ds))) (m.set k none) := by simp [sFrz, h, hm]
@[simp] theorem objAt_ow (h : ρ[i]? = some (.ow k)) : objAt i ρ = some k := by simp [objAt, h]
@[simp] theorem objAt_ob (h : ρ[i]? = some (.ob k)) : objAt i ρ = some k := by simp [objAt, h]
@[simp] theorem mAt_last : mAt m.length (m ++ [some ds]) = some ds := by simp [mAt]
@[simp] theorem set_last {o o' : Option (List D)} : (m ++ [o]).set m.length o' = m ++ [o'] := by
  rw [List.set_append_right _ _ (Nat.le_refl _)]; simp
@[simp] theorem take_last : (m ++ m').take m.length = m := by simp
end
theorem lcNF_nil {g : DG} {e : DA} {ρ : List Slot} {m : Ms} : lcNF g e [] ρ m = .ok [] m := rfl
theorem lcNF_cons {g : DG} {e : DA} {d : D} {ds : List D} {ρ ρ' : List Slot} {m m1 : Ms} {xs : List D} (hg : g d ρ = some ρ') (he : e ρ' m = .ok xs m1) : lcNF g e (d :: ds) ρ m = (lcNF g e ds ρ (m1 ++ [some xs])).bind fun ks m2 => .ok (m1.length :: ks) m2 := by
  simp only [lcNF, hg, he, Res.noX_ok, Res.bind_ok]
@[simp] theorem ev_sNewOs {gi : DI} {g : DG} {e : DA} {vs : List Nat} {i : Nat} {ρ : List Slot} {m : Ms} : sNewOs gi g e vs i ρ m = (gi ρ m).thn fun ds m => if ds.length ≤ lineN then (lcNF g e ds (wipeS ρ vs) m).thn fun ks m => if i < ρ.length then .next (ρ.set i (.os ks)) m else .bad else .bad := rfl
/-- a comprehension whose parts change the mutable lists -/
theorem lc_run {g : DG} {e : DE} {f : D → D} (I : Nat → Ms → Prop) (ρ : List Slot) : ∀ (ds : List D) (i : Nat) (m : Ms), I i m →
    (∀ (d : D) (i : Nat) (m : Ms), d ∈ ds → I i m → ∃ ρ' m', g d ρ = some ρ' ∧ e ρ' m = .ok (f d) m' ∧ I (i + 1) m') →
    ∃ m', lcF g tTrue e ds ρ m = .ok (ds.map f) m' ∧ I (i + ds.length) m'
  | [], i, m, h, _ => ⟨m, rfl, h⟩
  | d :: ds, i, m, h, hs => by
    obtain ⟨ρ', m1, h1, h2, h3⟩ := hs d i m (by simp) h
    obtain ⟨m2, h4, h5⟩ := lc_run I ρ ds (i + 1) m1 h3 fun d' i' m' hd => hs d' i' m' (by simp [hd])
    refine ⟨m2, ?_, by simpa [Nat.add_assoc, Nat.add_comm 1] using h5⟩
    simp only [lcF, h1, tTrue, Res.noX_ok, Res.bind_ok, h2, h4, List.map_cons]
    rfl
end DS

set_option maxRecDepth 100000
set_option maxHeartbeats 4000000
namespace K82
open PySem PySem.Spec PyProof.Rows L2 LamX NdefX DS
def top (i : Nat) : Stmt := PySem.Challenge.pw_swingrooms_k82_whole_sterns.main.body.getD i (.Pass ⟨0, 0, 0, 0⟩)
def c_MOST_IN_BAR : D := (.int 3)
def c_MOST_SCALE : D := (.int 1000000000000)
def c_MOST_STERNS : D := (.int 10)
def c_WHOLE : D := (.tuple [(.int 1), (.int 1)])
/-- what the walk asks of the module's names -/
structure GlM (K : PySem.W.Frag) (mg : Str → Option Value) : Prop where
  b_ValueError : mg "ValueError" = none
  b_abs : mg "abs" = none
  b_all : mg "all" = none
  b_bool : mg "bool" = none
  b_divmod : mg "divmod" = none
  b_enumerate : mg "enumerate" = none
  i_gcd : mg "gcd" = some (.builtin "math.gcd")
  b_int : mg "int" = none
  b_isinstance : mg "isinstance" = none
  b_len : mg "len" = none
  b_range : mg "range" = none
  b_repr : mg "repr" = none
  b_sorted : mg "sorted" = none
  b_tuple : mg "tuple" = none
  c_MOST_IN_BAR : ∃ v u, mg "MOST_IN_BAR" = some u ∧ RelV v u ∧ ∀ H, Rp K H v c_MOST_IN_BAR
  c_MOST_SCALE : ∃ v u, mg "MOST_SCALE" = some u ∧ RelV v u ∧ ∀ H, Rp K H v c_MOST_SCALE
  c_MOST_STERNS : ∃ v u, mg "MOST_STERNS" = some u ∧ RelV v u ∧ ∀ H, Rp K H v c_MOST_STERNS
  c_WHOLE : ∃ v u, mg "WHOLE" = some u ∧ RelV v u ∧ ∀ H, Rp K H v c_WHOLE
  r_NoFit : ∃ (C : Addr) (bmB : List Value) (B newId initId : String), ExcBaseFacts B newId initId bmB ∧ PySem.W.excIn K C bmB newId = true ∧ mg "NoFit" = some (.ref C) ∧ PySem.W.keepIn K (.ref C) = true ∧ PySem.W.subIn K (.ref C) (.type "BaseException") = some true ∧ PySem.W.typeIn K (.ref C) = some (.type "type")
  x_NoFit : ∃ D B, mg "NoFit" = some (.ref D) ∧ mg "BoatError" = some (.ref B) ∧ ExcC K D ∧ PySem.W.exmOne K (.ref D) (.ref B) = some true ∧ PySem.W.kitOne K (.ref D) (.ref D) = some true ∧ PySem.W.kitOne K (.ref D) (.type "ValueError") = some true
section
variable {P : Program} {w : World} {K : PySem.W.Frag} {mg : Str → Option Value} {base : Heap} {T : List (Addr × Str)}
/-! is_whole -/
def G_is_whole : DS := (sRet (eAnd (eIsa "int" (eV 0)) (eNot (eIsa "bool" (eV 0)))))
def D_is_whole : FnSem := fnD 1 G_is_whole
theorem sc_is_whole : FnScope (["value"] : List Str) (["value"] : List Str) (defScope (top 6)) := ⟨rfl, rfl, rfl, by decide +kernel, rfl, by decide +kernel, by decide +kernel⟩
theorem w_is_whole {f : Addr} {fd : FuncData} (Fu : Fun K "is_whole" "is_whole" (top 6) f fd) (M : GlM K mg) (hm : mg "is_whole" = some (.ref f)) (hb : ∀ n1 ∈ ([1] : List Nat), ∀ (s : Shared) (us ws : List Value), K.In s.heap → us.length = n1 → us.length + ws.length = 1 → BindsTo s fd ⟨us, (((["value"] : List Str) : List Str).drop n1).zip ws⟩ (((["value"] : List Str) : List Str).zip (us ++ ws)))  :
    FnT P w K mg base T 1 "is_whole" (["value"] : List Str) [1] D_is_whole :=
  ⟨f, fd, hm, Fu.kp, fn_body Fu sc_is_whole fun cdv hcd A outer s H E o => by
   unfold G_is_whole
   exact (SSs.one (SS.ret (SE.and (SE.isa (SE.var 0) rfl M.b_isinstance rfl M.b_int (by decide +kernel) (by decide) (by decide) isa_int) (SE.one (SE.not (SE.isa (SE.var 0) rfl M.b_isinstance rfl M.b_bool (by decide +kernel) (by decide) (by decide) isa_bool)))))), hb⟩
/-! lowest -/
def G_lowest : DS := (sSeq (sAsg (eIf (tV (eBin dGt (eV 1) (eC (.int 0)))) (eBi dGcdA (aCons (eV 0) (aCons (eV 1) aNil))) (eUn dNeg (eBi dGcdA (aCons (eV 0) (aCons (eV 1) aNil))))) (gV 2))
    (sRet (eTup (aCons (eBin dFdiv (eV 0) (eV 2)) (aCons (eBin dFdiv (eV 1) (eV 2)) aNil)))))
def D_lowest : FnSem := fnD 3 G_lowest
theorem sc_lowest : FnScope (["number", "scale", "common"] : List Str) (["number", "scale"] : List Str) (defScope (top 7)) := ⟨rfl, rfl, rfl, by decide +kernel, rfl, by decide +kernel, by decide +kernel⟩
theorem w_lowest {f : Addr} {fd : FuncData} (Fu : Fun K "lowest" "lowest" (top 7) f fd) (M : GlM K mg) (hm : mg "lowest" = some (.ref f)) (hb : ∀ n1 ∈ ([2] : List Nat), ∀ (s : Shared) (us ws : List Value), K.In s.heap → us.length = n1 → us.length + ws.length = 2 → BindsTo s fd ⟨us, (((["number", "scale"] : List Str) : List Str).drop n1).zip ws⟩ (((["number", "scale"] : List Str) : List Str).zip (us ++ ws)))  :
    FnT P w K mg base T 1 "lowest" (["number", "scale"] : List Str) [2] D_lowest :=
  ⟨f, fd, hm, Fu.kp, fn_body Fu sc_lowest fun cdv hcd A outer s H E o => by
   unfold G_lowest
   exact (SSs.cons (SS.asg (SE.ifx (ST.cmp (OpD.gt o.hu) (SE.var 1) SE.int) (SE.callI CallD.gcdA rfl M.i_gcd (SA.cons (SE.var 0) (SA.cons (SE.var 1) SA.nil))) (SE.un UnD.neg (SE.callI CallD.gcdA rfl M.i_gcd (SA.cons (SE.var 0) (SA.cons (SE.var 1) SA.nil))))) (SG.name o 2))
    (SSs.one (SS.ret (SE.tup (SA.cons (SE.op OpD.fdiv (SE.var 0) (SE.var 2)) (SA.cons (SE.op OpD.fdiv (SE.var 1) (SE.var 2)) SA.nil)))))), hb⟩
/-! sum_of_two -/
def G_sum_of_two : DS := (sRet (eCall D_lowest (xCons (xV (eBin dAdd (eBin dMul (eBin dIx (eV 0) (eC (.int 0))) (eBin dIx (eV 1) (eC (.int 1)))) (eBin dMul (eBin dIx (eV 1) (eC (.int 0))) (eBin dIx (eV 0) (eC (.int 1)))))) (xCons (xV (eBin dMul (eBin dIx (eV 0) (eC (.int 1))) (eBin dIx (eV 1) (eC (.int 1))))) xNil))))
def D_sum_of_two : FnSem := fnD 2 G_sum_of_two
theorem sc_sum_of_two : FnScope (["one", "two"] : List Str) (["one", "two"] : List Str) (defScope (top 8)) := ⟨rfl, rfl, rfl, by decide +kernel, rfl, by decide +kernel, by decide +kernel⟩
theorem w_sum_of_two {f : Addr} {fd : FuncData} (Fu : Fun K "sum_of_two" "sum_of_two" (top 8) f fd) (M : GlM K mg) (hm : mg "sum_of_two" = some (.ref f)) (hb : ∀ n1 ∈ ([2] : List Nat), ∀ (s : Shared) (us ws : List Value), K.In s.heap → us.length = n1 → us.length + ws.length = 2 → BindsTo s fd ⟨us, (((["one", "two"] : List Str) : List Str).drop n1).zip ws⟩ (((["one", "two"] : List Str) : List Str).zip (us ++ ws))) (h_lowest : FnT P w K mg base T 1 "lowest" (["number", "scale"] : List Str) [2] D_lowest) :
    FnT P w K mg base T 2 "sum_of_two" (["one", "two"] : List Str) [2] D_sum_of_two :=
  ⟨f, fd, hm, Fu.kp, fn_body Fu sc_sum_of_two fun cdv hcd A outer s H E o => by
   unfold G_sum_of_two
   exact (SSs.one (SS.ret (SE.call h_lowest o (by decide) rfl (SXs.cons (SX.val (SE.op OpD.add (SE.op OpD.mul (SE.ix (SE.var 0) SE.int (fun _ _ => rfl)) (SE.ix (SE.var 1) SE.int (fun _ _ => rfl))) (SE.op OpD.mul (SE.ix (SE.var 1) SE.int (fun _ _ => rfl)) (SE.ix (SE.var 0) SE.int (fun _ _ => rfl))))) (SXs.cons (SX.val (SE.op OpD.mul (SE.ix (SE.var 0) SE.int (fun _ _ => rfl)) (SE.ix (SE.var 1) SE.int (fun _ _ => rfl)))) SXs.nil))))), hb⟩
/-! difference -/
def G_difference : DS := (sRet (eCall D_lowest (xCons (xV (eBin dSub (eBin dMul (eBin dIx (eV 0) (eC (.int 0))) (eBin dIx (eV 1) (eC (.int 1)))) (eBin dMul (eBin dIx (eV 1) (eC (.int 0))) (eBin dIx (eV 0) (eC (.int 1)))))) (xCons (xV (eBin dMul (eBin dIx (eV 0) (eC (.int 1))) (eBin dIx (eV 1) (eC (.int 1))))) xNil))))
def D_difference : FnSem := fnD 2 G_difference
theorem sc_difference : FnScope (["one", "two"] : List Str) (["one", "two"] : List Str) (defScope (top 9)) := ⟨rfl, rfl, rfl, by decide +kernel, rfl, by decide +kernel, by decide +kernel⟩
theorem w_difference {f : Addr} {fd : FuncData} (Fu : Fun K "difference" "difference" (top 9) f fd) (M : GlM K mg) (hm : mg "difference" = some (.ref f)) (hb : ∀ n1 ∈ ([2] : List Nat), ∀ (s : Shared) (us ws : List Value), K.In s.heap → us.length = n1 → us.length + ws.length = 2 → BindsTo s fd ⟨us, (((["one", "two"] : List Str) : List Str).drop n1).zip ws⟩ (((["one", "two"] : List Str) : List Str).zip (us ++ ws))) (h_lowest : FnT P w K mg base T 1 "lowest" (["number", "scale"] : List Str) [2] D_lowest) :
    FnT P w K mg base T 2 "difference" (["one", "two"] : List Str) [2] D_difference :=
  ⟨f, fd, hm, Fu.kp, fn_body Fu sc_difference fun cdv hcd A outer s H E o => by
   unfold G_difference
   exact (SSs.one (SS.ret (SE.call h_lowest o (by decide) rfl (SXs.cons (SX.val (SE.op OpD.sub (SE.op OpD.mul (SE.ix (SE.var 0) SE.int (fun _ _ => rfl)) (SE.ix (SE.var 1) SE.int (fun _ _ => rfl))) (SE.op OpD.mul (SE.ix (SE.var 1) SE.int (fun _ _ => rfl)) (SE.ix (SE.var 0) SE.int (fun _ _ => rfl))))) (SXs.cons (SX.val (SE.op OpD.mul (SE.ix (SE.var 0) SE.int (fun _ _ => rfl)) (SE.ix (SE.var 1) SE.int (fun _ _ => rfl)))) SXs.nil))))), hb⟩
/-! product_of_two -/
def G_product_of_two : DS := (sRet (eCall D_lowest (xCons (xV (eBin dMul (eBin dIx (eV 0) (eC (.int 0))) (eBin dIx (eV 1) (eC (.int 0))))) (xCons (xV (eBin dMul (eBin dIx (eV 0) (eC (.int 1))) (eBin dIx (eV 1) (eC (.int 1))))) xNil))))
def D_product_of_two : FnSem := fnD 2 G_product_of_two
theorem sc_product_of_two : FnScope (["one", "two"] : List Str) (["one", "two"] : List Str) (defScope (top 10)) := ⟨rfl, rfl, rfl, by decide +kernel, rfl, by decide +kernel, by decide +kernel⟩
theorem w_product_of_two {f : Addr} {fd : FuncData} (Fu : Fun K "product_of_two" "product_of_two" (top 10) f fd) (M : GlM K mg) (hm : mg "product_of_two" = some (.ref f)) (hb : ∀ n1 ∈ ([2] : List Nat), ∀ (s : Shared) (us ws : List Value), K.In s.heap → us.length = n1 → us.length + ws.length = 2 → BindsTo s fd ⟨us, (((["one", "two"] : List Str) : List Str).drop n1).zip ws⟩ (((["one", "two"] : List Str) : List Str).zip (us ++ ws))) (h_lowest : FnT P w K mg base T 1 "lowest" (["number", "scale"] : List Str) [2] D_lowest) :
    FnT P w K mg base T 2 "product_of_two" (["one", "two"] : List Str) [2] D_product_of_two :=
  ⟨f, fd, hm, Fu.kp, fn_body Fu sc_product_of_two fun cdv hcd A outer s H E o => by
   unfold G_product_of_two
   exact (SSs.one (SS.ret (SE.call h_lowest o (by decide) rfl (SXs.cons (SX.val (SE.op OpD.mul (SE.ix (SE.var 0) SE.int (fun _ _ => rfl)) (SE.ix (SE.var 1) SE.int (fun _ _ => rfl)))) (SXs.cons (SX.val (SE.op OpD.mul (SE.ix (SE.var 0) SE.int (fun _ _ => rfl)) (SE.ix (SE.var 1) SE.int (fun _ _ => rfl)))) SXs.nil))))), hb⟩
/-! quotient -/
def G_quotient : DS := (sRet (eCall D_lowest (xCons (xV (eBin dMul (eBin dIx (eV 0) (eC (.int 0))) (eBin dIx (eV 1) (eC (.int 1))))) (xCons (xV (eBin dMul (eBin dIx (eV 0) (eC (.int 1))) (eBin dIx (eV 1) (eC (.int 0))))) xNil))))
def D_quotient : FnSem := fnD 2 G_quotient
theorem sc_quotient : FnScope (["one", "two"] : List Str) (["one", "two"] : List Str) (defScope (top 11)) := ⟨rfl, rfl, rfl, by decide +kernel, rfl, by decide +kernel, by decide +kernel⟩
theorem w_quotient {f : Addr} {fd : FuncData} (Fu : Fun K "quotient" "quotient" (top 11) f fd) (M : GlM K mg) (hm : mg "quotient" = some (.ref f)) (hb : ∀ n1 ∈ ([2] : List Nat), ∀ (s : Shared) (us ws : List Value), K.In s.heap → us.length = n1 → us.length + ws.length = 2 → BindsTo s fd ⟨us, (((["one", "two"] : List Str) : List Str).drop n1).zip ws⟩ (((["one", "two"] : List Str) : List Str).zip (us ++ ws))) (h_lowest : FnT P w K mg base T 1 "lowest" (["number", "scale"] : List Str) [2] D_lowest) :
    FnT P w K mg base T 2 "quotient" (["one", "two"] : List Str) [2] D_quotient :=
  ⟨f, fd, hm, Fu.kp, fn_body Fu sc_quotient fun cdv hcd A outer s H E o => by
   unfold G_quotient
   exact (SSs.one (SS.ret (SE.call h_lowest o (by decide) rfl (SXs.cons (SX.val (SE.op OpD.mul (SE.ix (SE.var 0) SE.int (fun _ _ => rfl)) (SE.ix (SE.var 1) SE.int (fun _ _ => rfl)))) (SXs.cons (SX.val (SE.op OpD.mul (SE.ix (SE.var 0) SE.int (fun _ _ => rfl)) (SE.ix (SE.var 1) SE.int (fun _ _ => rfl)))) SXs.nil))))), hb⟩
/-! is_tuple_of -/
def G_is_tuple_of : DS := (sRet (eAnd (eIsa "tuple" (eV 0)) (eBin dEq (eBi dLen (aCons (eV 0) aNil)) (eV 1))))
def D_is_tuple_of : FnSem := fnD 2 G_is_tuple_of
theorem sc_is_tuple_of : FnScope (["value", "many"] : List Str) (["value", "many"] : List Str) (defScope (top 13)) := ⟨rfl, rfl, rfl, by decide +kernel, rfl, by decide +kernel, by decide +kernel⟩
theorem w_is_tuple_of {f : Addr} {fd : FuncData} (Fu : Fun K "is_tuple_of" "is_tuple_of" (top 13) f fd) (M : GlM K mg) (hm : mg "is_tuple_of" = some (.ref f)) (hb : ∀ n1 ∈ ([2] : List Nat), ∀ (s : Shared) (us ws : List Value), K.In s.heap → us.length = n1 → us.length + ws.length = 2 → BindsTo s fd ⟨us, (((["value", "many"] : List Str) : List Str).drop n1).zip ws⟩ (((["value", "many"] : List Str) : List Str).zip (us ++ ws)))  :
    FnT P w K mg base T 1 "is_tuple_of" (["value", "many"] : List Str) [2] D_is_tuple_of :=
  ⟨f, fd, hm, Fu.kp, fn_body Fu sc_is_tuple_of fun cdv hcd A outer s H E o => by
   unfold G_is_tuple_of
   exact (SSs.one (SS.ret (SE.and (SE.isa (SE.var 0) rfl M.b_isinstance rfl M.b_tuple (by decide +kernel) (by decide) (by decide) isa_tuple) (SE.one (SE.cmp (OpD.eq o.hu) (SE.callB CallD.len rfl M.b_len (by decide +kernel) (SA.cons (SE.var 0) SA.nil)) (SE.var 1)))))), hb⟩
/-! is_fraction -/
def G_is_fraction : DS := (sSeq (sIf (tOr (tNot (tV (eCall D_is_tuple_of (xCons (xV (eV 0)) (xCons (xV (eC (.int 2))) xNil))))) (tOr (tNot (tV (eCall D_is_whole (xCons (xV (eBin dIx (eV 0) (eC (.int 0)))) xNil)))) (tOr (tNot (tV (eCall D_is_whole (xCons (xV (eBin dIx (eV 0) (eC (.int 1)))) xNil)))) (tV (eBin dLt (eBin dIx (eV 0) (eC (.int 1))) (eC (.int 1))))))) (sRet (eC (.bool false))) sNil)
    (sRet (eBin dEq (eBi dGcdA (aCons (eBin dIx (eV 0) (eC (.int 0))) (aCons (eBin dIx (eV 0) (eC (.int 1))) aNil))) (eC (.int 1)))))
def D_is_fraction : FnSem := fnD 1 G_is_fraction
theorem sc_is_fraction : FnScope (["value"] : List Str) (["value"] : List Str) (defScope (top 12)) := ⟨rfl, rfl, rfl, by decide +kernel, rfl, by decide +kernel, by decide +kernel⟩
theorem w_is_fraction {f : Addr} {fd : FuncData} (Fu : Fun K "is_fraction" "is_fraction" (top 12) f fd) (M : GlM K mg) (hm : mg "is_fraction" = some (.ref f)) (hb : ∀ n1 ∈ ([1] : List Nat), ∀ (s : Shared) (us ws : List Value), K.In s.heap → us.length = n1 → us.length + ws.length = 1 → BindsTo s fd ⟨us, (((["value"] : List Str) : List Str).drop n1).zip ws⟩ (((["value"] : List Str) : List Str).zip (us ++ ws))) (h_is_whole : FnT P w K mg base T 1 "is_whole" (["value"] : List Str) [1] D_is_whole) (h_is_tuple_of : FnT P w K mg base T 1 "is_tuple_of" (["value", "many"] : List Str) [2] D_is_tuple_of) :
    FnT P w K mg base T 2 "is_fraction" (["value"] : List Str) [1] D_is_fraction :=
  ⟨f, fd, hm, Fu.kp, fn_body Fu sc_is_fraction fun cdv hcd A outer s H E o => by
   unfold G_is_fraction
   exact (SSs.cons (SS.ife (SW.st (SW.or (ST.not (ST.val (SE.call h_is_tuple_of o (by decide) rfl (SXs.cons (SX.val (SE.var 0)) (SXs.cons (SX.val SE.int) SXs.nil))))) (SW.or (ST.not (ST.val (SE.call h_is_whole o (by decide) rfl (SXs.cons (SX.val (SE.ix (SE.var 0) SE.int (fun _ _ => rfl))) SXs.nil)))) (SW.or (ST.not (ST.val (SE.call h_is_whole o (by decide) rfl (SXs.cons (SX.val (SE.ix (SE.var 0) SE.int (fun _ _ => rfl))) SXs.nil)))) (SW.or1 (ST.cmp (OpD.lt o.hu) (SE.ix (SE.var 0) SE.int (fun _ _ => rfl)) SE.int)))))) (SSs.one (SS.ret SE.bl)) SSs.nil)
    (SSs.one (SS.ret (SE.cmp (OpD.eq o.hu) (SE.callI CallD.gcdA rfl M.i_gcd (SA.cons (SE.ix (SE.var 0) SE.int (fun _ _ => rfl)) (SA.cons (SE.ix (SE.var 0) SE.int (fun _ _ => rfl)) SA.nil))) SE.int)))), hb⟩
/-! wrong_at -/
def G_wrong_at (G : FnSem) : DS := (sSeq (sIf (tNot (tV (eIsa "tuple" (eV 0)))) (sRet (eLst (aCons (eC .none) aNil))) sNil)
    (sSeq (sFor (iEnum' (eV 0)) (gTup' 2 (gCons' (gV 3) (gCons' (gV 4) gNil'))) (sIf (tOr (tV (eBin dEq (eV 3) (eV 1))) (tNot (tV (eCallC 2 0 G (xCons (xV (eV 4)) (xCons (xV (eSl (eV 0) oNone (oSome (eV 3)))) xNil)))))) (sRet (eLst (aCons (eV 3) aNil))) sNil))
    (sRet (eLst aNil))))
def D_wrong_at : FnSem → FnSem := fnDH 5 G_wrong_at
theorem sc_wrong_at : FnScope (["values", "most", "is_right", "at", "value"] : List Str) (["values", "most", "is_right"] : List Str) (defScope (top 14)) := ⟨rfl, rfl, rfl, by decide +kernel, rfl, by decide +kernel, by decide +kernel⟩
theorem w_wrong_at {f : Addr} {fd : FuncData} (Fu : Fun K "wrong_at" "wrong_at" (top 14) f fd) (M : GlM K mg) (hm : mg "wrong_at" = some (.ref f)) (hb : ∀ (s : Shared) (us : List Value), K.In s.heap → us.length = 3 → BindsTo s fd ⟨us, []⟩ ((["values", "most", "is_right"] : List Str).zip us))  :
    FnH P w K mg base T 6 "wrong_at" (["values", "most", "is_right"] : List Str) 5 2 D_wrong_at :=
  fnH_body Fu hm sc_wrong_at hb fun cdv hcd A outer s H E cf cfx bp G o cx => by
   unfold G_wrong_at
   exact (SSs.cons (SS.ife (ST.not (ST.val (SE.isa (SE.var 0) rfl M.b_isinstance rfl M.b_tuple (by decide +kernel) (by decide) (by decide) isa_tuple))) (SSs.one (SS.ret (SE.lst (SA.cons SE.non SA.nil)))) SSs.nil)
    (SSs.cons (SS.for o (SI.enum rfl M.b_enumerate (SE.var 0)) (SG.tup o (SGs.cons (SG.name o 3) (SGs.cons (SG.name o 4) SGs.nil))) (SSs.one (SS.ife (SW.st (SW.or (ST.cmp (OpD.eq o.hu) (SE.var 3) (SE.var 1)) (SW.or1 (ST.not (ST.val (SE.callC 2 cx o (by decide) (SXs.cons (SX.val (SE.var 4)) (SXs.cons (SX.val (SE.sl (SE.var 0) SO.none (SO.some (SE.var 3)))) SXs.nil)))))))) (SSs.one (SS.ret (SE.lst (SA.cons (SE.var 3) SA.nil)))) SSs.nil)))
    (SSs.one (SS.ret (SE.lst SA.nil)))))
/-! wrong_from_one -/
def G_wrong_from_one (G : FnSem) : DS := (sSeq (sIf (tOr (tNot (tV (eIsa "tuple" (eV 0)))) (tV (eBin dEq (eV 0) (eTup aNil)))) (sRet (eLst (aCons (eC .none) aNil))) sNil)
    (sRet (eCallH 2 0 D_wrong_at G (xCons (xV (eV 0)) (xCons (xV (eV 1)) xNil)))))
def D_wrong_from_one : FnSem → FnSem := fnDH 3 G_wrong_from_one
theorem sc_wrong_from_one : FnScope (["values", "most", "is_right"] : List Str) (["values", "most", "is_right"] : List Str) (defScope (top 15)) := ⟨rfl, rfl, rfl, by decide +kernel, rfl, by decide +kernel, by decide +kernel⟩
theorem w_wrong_from_one {f : Addr} {fd : FuncData} (Fu : Fun K "wrong_from_one" "wrong_from_one" (top 15) f fd) (M : GlM K mg) (hm : mg "wrong_from_one" = some (.ref f)) (hb : ∀ (s : Shared) (us : List Value), K.In s.heap → us.length = 3 → BindsTo s fd ⟨us, []⟩ ((["values", "most", "is_right"] : List Str).zip us)) (h_wrong_at : FnH P w K mg base T 6 "wrong_at" (["values", "most", "is_right"] : List Str) 5 2 D_wrong_at) :
    FnH P w K mg base T 7 "wrong_from_one" (["values", "most", "is_right"] : List Str) 5 2 D_wrong_from_one :=
  fnH_body Fu hm sc_wrong_from_one hb fun cdv hcd A outer s H E cf cfx bp G o cx => by
   unfold G_wrong_from_one
   exact (SSs.cons (SS.ife (SW.st (SW.or (ST.not (ST.val (SE.isa (SE.var 0) rfl M.b_isinstance rfl M.b_tuple (by decide +kernel) (by decide) (by decide) isa_tuple))) (SW.or1 (ST.cmp (OpD.eq o.hu) (SE.var 0) (SE.tup SA.nil))))) (SSs.one (SS.ret (SE.lst (SA.cons SE.non SA.nil)))) SSs.nil)
    (SSs.one (SS.ret (SE.callHC h_wrong_at cx o (by decide) rfl (fun cf hcf => (SHs.cons (SX.val (SE.var 0)) (SHs.cons (SX.val (SE.var 1)) (SHs.last 2 0 hcf))))))))
/-! sets_of -/
def G_sets_of : DS := (sSeq (sAsg (eLst (aCons (eTup aNil) aNil)) (gV 1))
    (sSeq (sFor (iSeq (eV 0)) (gV 2) (sAsg (eBin dAdd (eV 1) (eLc (iSeq (eV 1)) (gV 3) tTrue (eBin dAdd (eV 3) (eTup (aCons (eV 2) aNil))) [3])) (gV 1)))
    (sRet (eSortL 1 [] (eTup (aCons (eBi dLen (aCons (eV 0) aNil)) (aCons (eV 0) aNil))) (eV 1)))))
def D_sets_of : FnSem := fnD 4 G_sets_of
theorem sc_sets_of : FnScope (["values", "found", "value", "part"] : List Str) (["values"] : List Str) (defScope (top 16)) := ⟨rfl, rfl, rfl, by decide +kernel, rfl, by decide +kernel, by decide +kernel⟩
theorem w_sets_of {f : Addr} {fd : FuncData} (Fu : Fun K "sets_of" "sets_of" (top 16) f fd) (M : GlM K mg) (hm : mg "sets_of" = some (.ref f)) (hb : ∀ n1 ∈ ([1] : List Nat), ∀ (s : Shared) (us ws : List Value), K.In s.heap → us.length = n1 → us.length + ws.length = 1 → BindsTo s fd ⟨us, (((["values"] : List Str) : List Str).drop n1).zip ws⟩ (((["values"] : List Str) : List Str).zip (us ++ ws)))  {c tP : Addr} (hcode : fd.code = .ref c) (tb : TabB base mg c tP) (hmem : (tP, ("sets_of" ++ ".<locals>." ++ "<lambda>" : Str)) ∈ T) (hone : ∀ p ∈ T, p.1 = tP → p.2 = ("sets_of" ++ ".<locals>." ++ "<lambda>" : Str)) :
    FnT P w K mg base T 5 "sets_of" (["values"] : List Str) [1] D_sets_of :=
  ⟨f, fd, hm, Fu.kp, fn_body Fu sc_sets_of fun cdv hcd A outer s H E o => by
   unfold G_sets_of
   exact (SSs.cons (SS.asg (SE.lst (SA.cons (SE.tup SA.nil) SA.nil)) (SG.name o 1))
    (SSs.cons (SS.for o (SI.seq (SE.var 0)) (SG.name o 2) (SSs.one (SS.asg (SE.op OpD.add (SE.var 1) (SE.lc o (SI.seq (SE.var 1)) (fun s1 H1 C1 cl1 fp1 => (SG.name (o.blk s1 H1 _ C1 cl1 fp1) 3)) (fun s1 H1 C1 cl1 fp1 => STs.nil) (fun s1 H1 C1 cl1 fp1 => (SE.op OpD.add (SE.var 3) (SE.tup (SA.cons (SE.var 2) SA.nil)))) (own := [("part", 3)]) (blk_ok (N := (["values", "found", "value", "part"] : List Str)) (sc := defScope (top 16)) (by decide +kernel)) (by decide))) (SG.name o 1))))
    (SSs.one (SS.ret (SE.sortedL (NL := ["part"]) (lps := ["part"]) (fr := []) (js := []) (kb := 0) o (by decide) rfl M.b_sorted (fun _ => rfl) rfl (SE.var 1) ⟨hcd.symm.trans hcode, tb, hmem, hone⟩ (nscope_by (by decide +kernel)) rfl (fr_ok (sc := defScope (top 16)) (by decide +kernel)) (fr2_ok (by decide +kernel)) rfl (fun q cl pm cv ctv us hl => match us, hl with | [_], _ => rfl) (fun cl c1 fl A1 outer1 s1 H1 E1 ol => (SE.tup (SA.cons (SE.callB CallD.len rfl M.b_len (by decide +kernel) (SA.cons (SE.var 0) SA.nil)) (SA.cons (SE.var 0) SA.nil))))))))), hb⟩
/-! are_of_one_wind -/
def G_are_of_one_wind : DS := (sRet (eBi dAll (aCons (eLc (iSeq (eV 0)) (gV 1) tTrue (eBin dEq (eBin dIx (eV 1) (eC (.int 0))) (eBin dIx (eBin dIx (eV 0) (eC (.int 0))) (eC (.int 0)))) [1]) aNil)))
def D_are_of_one_wind : FnSem := fnD 2 G_are_of_one_wind
theorem sc_are_of_one_wind : FnScope (["sterns", "stern"] : List Str) (["sterns"] : List Str) (defScope (top 19)) := ⟨rfl, rfl, rfl, by decide +kernel, rfl, by decide +kernel, by decide +kernel⟩
theorem w_are_of_one_wind {f : Addr} {fd : FuncData} (Fu : Fun K "are_of_one_wind" "are_of_one_wind" (top 19) f fd) (M : GlM K mg) (hm : mg "are_of_one_wind" = some (.ref f)) (hb : ∀ n1 ∈ ([1] : List Nat), ∀ (s : Shared) (us ws : List Value), K.In s.heap → us.length = n1 → us.length + ws.length = 1 → BindsTo s fd ⟨us, (((["sterns"] : List Str) : List Str).drop n1).zip ws⟩ (((["sterns"] : List Str) : List Str).zip (us ++ ws)))  :
    FnT P w K mg base T 1 "are_of_one_wind" (["sterns"] : List Str) [1] D_are_of_one_wind :=
  ⟨f, fd, hm, Fu.kp, fn_body Fu sc_are_of_one_wind fun cdv hcd A outer s H E o => by
   unfold G_are_of_one_wind
   exact (SSs.one (SS.ret (SE.callB (CallD.all o) rfl M.b_all (by decide +kernel) (SA.cons (SE.lc o (SI.seq (SE.var 0)) (fun s1 H1 C1 cl1 fp1 => (SG.name (o.blk s1 H1 _ C1 cl1 fp1) 1)) (fun s1 H1 C1 cl1 fp1 => STs.nil) (fun s1 H1 C1 cl1 fp1 => (SE.cmp (OpD.eq (o.blk s1 H1 _ C1 cl1 fp1).hu) (SE.ix (SE.var 1) SE.int (fun _ _ => rfl)) (SE.ix (SE.ix (SE.var 0) SE.int (fun _ _ => rfl)) SE.int (fun _ _ => rfl)))) (own := [("stern", 1)]) (blk_ok (N := (["sterns", "stern"] : List Str)) (sc := defScope (top 19)) (by decide +kernel)) (by decide)) SA.nil)))), hb⟩
/-! parts_of -/
def G_parts_of : DS := (sRet (eTup (aCons (eCall D_lowest (xCons (xV (eBin dIx (eV 0) (eC (.int 0)))) (xCons (xV (eBin dIx (eV 0) (eC (.int 2)))) xNil))) (aCons (eCall D_lowest (xCons (xV (eBin dIx (eV 0) (eC (.int 1)))) (xCons (xV (eBin dIx (eV 0) (eC (.int 2)))) xNil))) aNil))))
def D_parts_of : FnSem := fnD 1 G_parts_of
theorem sc_parts_of : FnScope (["wind"] : List Str) (["wind"] : List Str) (defScope (top 20)) := ⟨rfl, rfl, rfl, by decide +kernel, rfl, by decide +kernel, by decide +kernel⟩
theorem w_parts_of {f : Addr} {fd : FuncData} (Fu : Fun K "parts_of" "parts_of" (top 20) f fd) (M : GlM K mg) (hm : mg "parts_of" = some (.ref f)) (hb : ∀ n1 ∈ ([1] : List Nat), ∀ (s : Shared) (us ws : List Value), K.In s.heap → us.length = n1 → us.length + ws.length = 1 → BindsTo s fd ⟨us, (((["wind"] : List Str) : List Str).drop n1).zip ws⟩ (((["wind"] : List Str) : List Str).zip (us ++ ws))) (h_lowest : FnT P w K mg base T 1 "lowest" (["number", "scale"] : List Str) [2] D_lowest) :
    FnT P w K mg base T 2 "parts_of" (["wind"] : List Str) [1] D_parts_of :=
  ⟨f, fd, hm, Fu.kp, fn_body Fu sc_parts_of fun cdv hcd A outer s H E o => by
   unfold G_parts_of
   exact (SSs.one (SS.ret (SE.tup (SA.cons (SE.call h_lowest o (by decide) rfl (SXs.cons (SX.val (SE.ix (SE.var 0) SE.int (fun _ _ => rfl))) (SXs.cons (SX.val (SE.ix (SE.var 0) SE.int (fun _ _ => rfl))) SXs.nil))) (SA.cons (SE.call h_lowest o (by decide) rfl (SXs.cons (SX.val (SE.ix (SE.var 0) SE.int (fun _ _ => rfl))) (SXs.cons (SX.val (SE.ix (SE.var 0) SE.int (fun _ _ => rfl))) SXs.nil))) SA.nil))))), hb⟩
/-! reach_by -/
def G_reach_by : DS := (sSeq (sAsg (eTup (aCons (eCall D_parts_of (xCons (xV (eBin dIx (eV 0) (eC (.int 0)))) xNil)) (aCons (eCall D_parts_of (xCons (xV (eBin dIx (eV 1) (eC (.int 0)))) xNil)) aNil))) (gTup' 2 (gCons' (gTup' 2 (gCons' (gV 2) (gCons' (gV 3) gNil'))) (gCons' (gTup' 2 (gCons' (gV 4) (gCons' (gV 5) gNil'))) gNil'))))
    (sSeq (sIf (tV (eBin dNe (eV 2) (eV 4))) (sRet (eCall D_quotient (xCons (xV (eCall D_difference (xCons (xV (eBin dIx (eV 0) (eC (.int 1)))) (xCons (xV (eBin dIx (eV 1) (eC (.int 1)))) xNil)))) (xCons (xV (eCall D_difference (xCons (xV (eV 2)) (xCons (xV (eV 4)) xNil)))) xNil)))) sNil)
    (sRet (eCall D_quotient (xCons (xV (eCall D_difference (xCons (xV (eBin dIx (eV 0) (eC (.int 2)))) (xCons (xV (eBin dIx (eV 1) (eC (.int 2)))) xNil)))) (xCons (xV (eCall D_difference (xCons (xV (eV 3)) (xCons (xV (eV 5)) xNil)))) xNil))))))
def D_reach_by : FnSem := fnD 6 G_reach_by
theorem sc_reach_by : FnScope (["stern", "stern2", "east", "north", "east2", "north2"] : List Str) (["stern", "stern2"] : List Str) (defScope (top 21)) := ⟨rfl, rfl, rfl, by decide +kernel, rfl, by decide +kernel, by decide +kernel⟩
theorem w_reach_by {f : Addr} {fd : FuncData} (Fu : Fun K "reach_by" "reach_by" (top 21) f fd) (M : GlM K mg) (hm : mg "reach_by" = some (.ref f)) (hb : ∀ n1 ∈ ([2] : List Nat), ∀ (s : Shared) (us ws : List Value), K.In s.heap → us.length = n1 → us.length + ws.length = 2 → BindsTo s fd ⟨us, (((["stern", "stern2"] : List Str) : List Str).drop n1).zip ws⟩ (((["stern", "stern2"] : List Str) : List Str).zip (us ++ ws))) (h_difference : FnT P w K mg base T 2 "difference" (["one", "two"] : List Str) [2] D_difference) (h_quotient : FnT P w K mg base T 2 "quotient" (["one", "two"] : List Str) [2] D_quotient) (h_parts_of : FnT P w K mg base T 2 "parts_of" (["wind"] : List Str) [1] D_parts_of) :
    FnT P w K mg base T 3 "reach_by" (["stern", "stern2"] : List Str) [2] D_reach_by :=
  ⟨f, fd, hm, Fu.kp, fn_body Fu sc_reach_by fun cdv hcd A outer s H E o => by
   unfold G_reach_by
   exact (SSs.cons (SS.asg (SE.tup (SA.cons (SE.call h_parts_of o (by decide) rfl (SXs.cons (SX.val (SE.ix (SE.var 0) SE.int (fun _ _ => rfl))) SXs.nil)) (SA.cons (SE.call h_parts_of o (by decide) rfl (SXs.cons (SX.val (SE.ix (SE.var 1) SE.int (fun _ _ => rfl))) SXs.nil)) SA.nil))) (SG.tup o (SGs.cons (SG.tup o (SGs.cons (SG.name o 2) (SGs.cons (SG.name o 3) SGs.nil))) (SGs.cons (SG.tup o (SGs.cons (SG.name o 4) (SGs.cons (SG.name o 5) SGs.nil))) SGs.nil))))
    (SSs.cons (SS.ife (ST.cmp (OpD.ne o.hu) (SE.var 2) (SE.var 4)) (SSs.one (SS.ret (SE.call h_quotient o (by decide) rfl (SXs.cons (SX.val (SE.call h_difference o (by decide) rfl (SXs.cons (SX.val (SE.ix (SE.var 0) SE.int (fun _ _ => rfl))) (SXs.cons (SX.val (SE.ix (SE.var 1) SE.int (fun _ _ => rfl))) SXs.nil)))) (SXs.cons (SX.val (SE.call h_difference o (by decide) rfl (SXs.cons (SX.val (SE.var 2)) (SXs.cons (SX.val (SE.var 4)) SXs.nil)))) SXs.nil))))) SSs.nil)
    (SSs.one (SS.ret (SE.call h_quotient o (by decide) rfl (SXs.cons (SX.val (SE.call h_difference o (by decide) rfl (SXs.cons (SX.val (SE.ix (SE.var 0) SE.int (fun _ _ => rfl))) (SXs.cons (SX.val (SE.ix (SE.var 1) SE.int (fun _ _ => rfl))) SXs.nil)))) (SXs.cons (SX.val (SE.call h_difference o (by decide) rfl (SXs.cons (SX.val (SE.var 3)) (SXs.cons (SX.val (SE.var 5)) SXs.nil)))) SXs.nil))))))), hb⟩
/-! place_by -/
def G_place_by : DS := (sSeq (sAsg (eCall D_parts_of (xCons (xV (eBin dIx (eV 0) (eC (.int 0)))) xNil)) (gTup' 2 (gCons' (gV 2) (gCons' (gV 3) gNil'))))
    (sRet (eTup (aCons (eCall D_difference (xCons (xV (eBin dIx (eV 0) (eC (.int 1)))) (xCons (xV (eCall D_product_of_two (xCons (xV (eV 1)) (xCons (xV (eV 2)) xNil)))) xNil))) (aCons (eCall D_difference (xCons (xV (eBin dIx (eV 0) (eC (.int 2)))) (xCons (xV (eCall D_product_of_two (xCons (xV (eV 1)) (xCons (xV (eV 3)) xNil)))) xNil))) aNil)))))
def D_place_by : FnSem := fnD 4 G_place_by
theorem sc_place_by : FnScope (["stern", "reach", "east", "north"] : List Str) (["stern", "reach"] : List Str) (defScope (top 22)) := ⟨rfl, rfl, rfl, by decide +kernel, rfl, by decide +kernel, by decide +kernel⟩
theorem w_place_by {f : Addr} {fd : FuncData} (Fu : Fun K "place_by" "place_by" (top 22) f fd) (M : GlM K mg) (hm : mg "place_by" = some (.ref f)) (hb : ∀ n1 ∈ ([2] : List Nat), ∀ (s : Shared) (us ws : List Value), K.In s.heap → us.length = n1 → us.length + ws.length = 2 → BindsTo s fd ⟨us, (((["stern", "reach"] : List Str) : List Str).drop n1).zip ws⟩ (((["stern", "reach"] : List Str) : List Str).zip (us ++ ws))) (h_difference : FnT P w K mg base T 2 "difference" (["one", "two"] : List Str) [2] D_difference) (h_product_of_two : FnT P w K mg base T 2 "product_of_two" (["one", "two"] : List Str) [2] D_product_of_two) (h_parts_of : FnT P w K mg base T 2 "parts_of" (["wind"] : List Str) [1] D_parts_of) :
    FnT P w K mg base T 3 "place_by" (["stern", "reach"] : List Str) [2] D_place_by :=
  ⟨f, fd, hm, Fu.kp, fn_body Fu sc_place_by fun cdv hcd A outer s H E o => by
   unfold G_place_by
   exact (SSs.cons (SS.asg (SE.call h_parts_of o (by decide) rfl (SXs.cons (SX.val (SE.ix (SE.var 0) SE.int (fun _ _ => rfl))) SXs.nil)) (SG.tup o (SGs.cons (SG.name o 2) (SGs.cons (SG.name o 3) SGs.nil))))
    (SSs.one (SS.ret (SE.tup (SA.cons (SE.call h_difference o (by decide) rfl (SXs.cons (SX.val (SE.ix (SE.var 0) SE.int (fun _ _ => rfl))) (SXs.cons (SX.val (SE.call h_product_of_two o (by decide) rfl (SXs.cons (SX.val (SE.var 1)) (SXs.cons (SX.val (SE.var 2)) SXs.nil)))) SXs.nil))) (SA.cons (SE.call h_difference o (by decide) rfl (SXs.cons (SX.val (SE.ix (SE.var 0) SE.int (fun _ _ => rfl))) (SXs.cons (SX.val (SE.call h_product_of_two o (by decide) rfl (SXs.cons (SX.val (SE.var 1)) (SXs.cons (SX.val (SE.var 3)) SXs.nil)))) SXs.nil))) SA.nil)))))), hb⟩
/-! does_fit -/
def G_does_fit : DS := (sSeq (sAsg (eCall D_parts_of (xCons (xV (eBin dIx (eV 0) (eC (.int 0)))) xNil)) (gTup' 2 (gCons' (gV 3) (gCons' (gV 4) gNil'))))
    (sSeq (sIf (tV (eBin dNe (eCall D_sum_of_two (xCons (xV (eBin dIx (eV 1) (eC (.int 0)))) (xCons (xV (eCall D_product_of_two (xCons (xV (eV 2)) (xCons (xV (eV 3)) xNil)))) xNil))) (eBin dIx (eV 0) (eC (.int 1))))) (sRet (eC (.bool false))) sNil)
    (sRet (eBin dEq (eCall D_sum_of_two (xCons (xV (eBin dIx (eV 1) (eC (.int 1)))) (xCons (xV (eCall D_product_of_two (xCons (xV (eV 2)) (xCons (xV (eV 4)) xNil)))) xNil))) (eBin dIx (eV 0) (eC (.int 2)))))))
def D_does_fit : FnSem := fnD 5 G_does_fit
theorem sc_does_fit : FnScope (["stern", "place", "reach", "east", "north"] : List Str) (["stern", "place", "reach"] : List Str) (defScope (top 23)) := ⟨rfl, rfl, rfl, by decide +kernel, rfl, by decide +kernel, by decide +kernel⟩
theorem w_does_fit {f : Addr} {fd : FuncData} (Fu : Fun K "does_fit" "does_fit" (top 23) f fd) (M : GlM K mg) (hm : mg "does_fit" = some (.ref f)) (hb : ∀ n1 ∈ ([3] : List Nat), ∀ (s : Shared) (us ws : List Value), K.In s.heap → us.length = n1 → us.length + ws.length = 3 → BindsTo s fd ⟨us, (((["stern", "place", "reach"] : List Str) : List Str).drop n1).zip ws⟩ (((["stern", "place", "reach"] : List Str) : List Str).zip (us ++ ws))) (h_sum_of_two : FnT P w K mg base T 2 "sum_of_two" (["one", "two"] : List Str) [2] D_sum_of_two) (h_product_of_two : FnT P w K mg base T 2 "product_of_two" (["one", "two"] : List Str) [2] D_product_of_two) (h_parts_of : FnT P w K mg base T 2 "parts_of" (["wind"] : List Str) [1] D_parts_of) :
    FnT P w K mg base T 3 "does_fit" (["stern", "place", "reach"] : List Str) [3] D_does_fit :=
  ⟨f, fd, hm, Fu.kp, fn_body Fu sc_does_fit fun cdv hcd A outer s H E o => by
   unfold G_does_fit
   exact (SSs.cons (SS.asg (SE.call h_parts_of o (by decide) rfl (SXs.cons (SX.val (SE.ix (SE.var 0) SE.int (fun _ _ => rfl))) SXs.nil)) (SG.tup o (SGs.cons (SG.name o 3) (SGs.cons (SG.name o 4) SGs.nil))))
    (SSs.cons (SS.ife (ST.cmp (OpD.ne o.hu) (SE.call h_sum_of_two o (by decide) rfl (SXs.cons (SX.val (SE.ix (SE.var 1) SE.int (fun _ _ => rfl))) (SXs.cons (SX.val (SE.call h_product_of_two o (by decide) rfl (SXs.cons (SX.val (SE.var 2)) (SXs.cons (SX.val (SE.var 3)) SXs.nil)))) SXs.nil))) (SE.ix (SE.var 0) SE.int (fun _ _ => rfl))) (SSs.one (SS.ret SE.bl)) SSs.nil)
    (SSs.one (SS.ret (SE.cmp (OpD.eq o.hu) (SE.call h_sum_of_two o (by decide) rfl (SXs.cons (SX.val (SE.ix (SE.var 1) SE.int (fun _ _ => rfl))) (SXs.cons (SX.val (SE.call h_product_of_two o (by decide) rfl (SXs.cons (SX.val (SE.var 2)) (SXs.cons (SX.val (SE.var 4)) SXs.nil)))) SXs.nil))) (SE.ix (SE.var 0) SE.int (fun _ _ => rfl))))))), hb⟩
/-! reach_for -/
def G_reach_for : DS := (sSeq (sFor (iSeq (eV 0)) (gV 1) (sIf (tV (eBin dNe (eBin dIx (eV 1) (eC (.int 0))) (eBin dIx (eBin dIx (eV 0) (eC (.int 0))) (eC (.int 0))))) (sRet (eCall D_reach_by (xCons (xV (eBin dIx (eV 0) (eC (.int 0)))) (xCons (xV (eV 1)) xNil)))) sNil))
    (sRet (eC c_WHOLE)))
def D_reach_for : FnSem := fnD 2 G_reach_for
theorem sc_reach_for : FnScope (["sterns", "stern"] : List Str) (["sterns"] : List Str) (defScope (top 24)) := ⟨rfl, rfl, rfl, by decide +kernel, rfl, by decide +kernel, by decide +kernel⟩
theorem w_reach_for {f : Addr} {fd : FuncData} (Fu : Fun K "reach_for" "reach_for" (top 24) f fd) (M : GlM K mg) (hm : mg "reach_for" = some (.ref f)) (hb : ∀ n1 ∈ ([1] : List Nat), ∀ (s : Shared) (us ws : List Value), K.In s.heap → us.length = n1 → us.length + ws.length = 1 → BindsTo s fd ⟨us, (((["sterns"] : List Str) : List Str).drop n1).zip ws⟩ (((["sterns"] : List Str) : List Str).zip (us ++ ws))) (h_reach_by : FnT P w K mg base T 3 "reach_by" (["stern", "stern2"] : List Str) [2] D_reach_by) :
    FnT P w K mg base T 4 "reach_for" (["sterns"] : List Str) [1] D_reach_for :=
  ⟨f, fd, hm, Fu.kp, fn_body Fu sc_reach_for fun cdv hcd A outer s H E o => by
   unfold G_reach_for
   exact (SSs.cons (SS.for o (SI.seq (SE.var 0)) (SG.name o 1) (SSs.one (SS.ife (ST.cmp (OpD.ne o.hu) (SE.ix (SE.var 1) SE.int (fun _ _ => rfl)) (SE.ix (SE.ix (SE.var 0) SE.int (fun _ _ => rfl)) SE.int (fun _ _ => rfl))) (SSs.one (SS.ret (SE.call h_reach_by o (by decide) rfl (SXs.cons (SX.val (SE.ix (SE.var 0) SE.int (fun _ _ => rfl))) (SXs.cons (SX.val (SE.var 1)) SXs.nil))))) SSs.nil)))
    (SSs.one (SS.ret (SE.glob ⟨M.c_WHOLE⟩ rfl)))), hb⟩
/-! fits_of -/
def G_fits_of : DS := (sSeq (sAsg (eCall D_reach_for (xCons (xV (eV 0)) xNil)) (gV 1))
    (sSeq (sIf (tV (eBin dLe (eBin dIx (eV 1) (eC (.int 0))) (eC (.int 0)))) (sRet (eLst aNil)) sNil)
    (sSeq (sAsg (eCall D_place_by (xCons (xV (eBin dIx (eV 0) (eC (.int 0)))) (xCons (xV (eV 1)) xNil))) (gV 2))
    (sRet (eIf (tV (eBi dAll (aCons (eLc (iSeq (eV 0)) (gV 3) tTrue (eCall D_does_fit (xCons (xV (eV 3)) (xCons (xV (eV 2)) (xCons (xV (eV 1)) xNil)))) [3]) aNil))) (eLst (aCons (eTup (aStar (eV 2) (aCons (eV 1) aNil))) aNil)) (eLst aNil))))))
def D_fits_of : FnSem := fnD 4 G_fits_of
theorem sc_fits_of : FnScope (["sterns", "reach", "place", "stern"] : List Str) (["sterns"] : List Str) (defScope (top 25)) := ⟨rfl, rfl, rfl, by decide +kernel, rfl, by decide +kernel, by decide +kernel⟩
theorem w_fits_of {f : Addr} {fd : FuncData} (Fu : Fun K "fits_of" "fits_of" (top 25) f fd) (M : GlM K mg) (hm : mg "fits_of" = some (.ref f)) (hb : ∀ n1 ∈ ([1] : List Nat), ∀ (s : Shared) (us ws : List Value), K.In s.heap → us.length = n1 → us.length + ws.length = 1 → BindsTo s fd ⟨us, (((["sterns"] : List Str) : List Str).drop n1).zip ws⟩ (((["sterns"] : List Str) : List Str).zip (us ++ ws))) (h_place_by : FnT P w K mg base T 3 "place_by" (["stern", "reach"] : List Str) [2] D_place_by) (h_does_fit : FnT P w K mg base T 3 "does_fit" (["stern", "place", "reach"] : List Str) [3] D_does_fit) (h_reach_for : FnT P w K mg base T 4 "reach_for" (["sterns"] : List Str) [1] D_reach_for) :
    FnT P w K mg base T 5 "fits_of" (["sterns"] : List Str) [1] D_fits_of :=
  ⟨f, fd, hm, Fu.kp, fn_body Fu sc_fits_of fun cdv hcd A outer s H E o => by
   unfold G_fits_of
   exact (SSs.cons (SS.asg (SE.call h_reach_for o (by decide) rfl (SXs.cons (SX.val (SE.var 0)) SXs.nil)) (SG.name o 1))
    (SSs.cons (SS.ife (ST.cmp (OpD.le o.hu) (SE.ix (SE.var 1) SE.int (fun _ _ => rfl)) SE.int) (SSs.one (SS.ret (SE.lst SA.nil))) SSs.nil)
    (SSs.cons (SS.asg (SE.call h_place_by o (by decide) rfl (SXs.cons (SX.val (SE.ix (SE.var 0) SE.int (fun _ _ => rfl))) (SXs.cons (SX.val (SE.var 1)) SXs.nil))) (SG.name o 2))
    (SSs.one (SS.ret (SE.ifx (ST.val (SE.callB (CallD.all o) rfl M.b_all (by decide +kernel) (SA.cons (SE.lc o (SI.seq (SE.var 0)) (fun s1 H1 C1 cl1 fp1 => (SG.name (o.blk s1 H1 _ C1 cl1 fp1) 3)) (fun s1 H1 C1 cl1 fp1 => STs.nil) (fun s1 H1 C1 cl1 fp1 => (SE.call h_does_fit (o.blk s1 H1 _ C1 cl1 fp1) (by decide) rfl (SXs.cons (SX.val (SE.var 3)) (SXs.cons (SX.val (SE.var 2)) (SXs.cons (SX.val (SE.var 1)) SXs.nil))))) (own := [("stern", 3)]) (blk_ok (N := (["sterns", "reach", "place", "stern"] : List Str)) (sc := defScope (top 25)) (by decide +kernel)) (by decide)) SA.nil))) (SE.lst (SA.cons (SE.tup (SA.star (SE.var 2) (SA.cons (SE.var 1) SA.nil))) SA.nil)) (SE.lst SA.nil))))))), hb⟩
/-! dot -/
def G_dot : DS := (sRet (eBin dAdd (eBin dMul (eBin dIx (eV 0) (eC (.int 0))) (eBin dIx (eV 1) (eC (.int 0)))) (eBin dMul (eBin dIx (eV 0) (eC (.int 1))) (eBin dIx (eV 1) (eC (.int 1))))))
def D_dot : FnSem := fnD 2 G_dot
theorem sc_dot : FnScope (["one", "two"] : List Str) (["one", "two"] : List Str) (defScope (top 27)) := ⟨rfl, rfl, rfl, by decide +kernel, rfl, by decide +kernel, by decide +kernel⟩
theorem w_dot {f : Addr} {fd : FuncData} (Fu : Fun K "dot" "dot" (top 27) f fd) (M : GlM K mg) (hm : mg "dot" = some (.ref f)) (hb : ∀ n1 ∈ ([2] : List Nat), ∀ (s : Shared) (us ws : List Value), K.In s.heap → us.length = n1 → us.length + ws.length = 2 → BindsTo s fd ⟨us, (((["one", "two"] : List Str) : List Str).drop n1).zip ws⟩ (((["one", "two"] : List Str) : List Str).zip (us ++ ws)))  :
    FnT P w K mg base T 1 "dot" (["one", "two"] : List Str) [2] D_dot :=
  ⟨f, fd, hm, Fu.kp, fn_body Fu sc_dot fun cdv hcd A outer s H E o => by
   unfold G_dot
   exact (SSs.one (SS.ret (SE.op OpD.add (SE.op OpD.mul (SE.ix (SE.var 0) SE.int (fun _ _ => rfl)) (SE.ix (SE.var 1) SE.int (fun _ _ => rfl))) (SE.op OpD.mul (SE.ix (SE.var 0) SE.int (fun _ _ => rfl)) (SE.ix (SE.var 1) SE.int (fun _ _ => rfl)))))), hb⟩
/-! square_of -/
def G_square_of : DS := (sRet (eCall D_dot (xCons (xV (eV 0)) (xCons (xV (eV 0)) xNil))))
def D_square_of : FnSem := fnD 1 G_square_of
theorem sc_square_of : FnScope (["vector"] : List Str) (["vector"] : List Str) (defScope (top 28)) := ⟨rfl, rfl, rfl, by decide +kernel, rfl, by decide +kernel, by decide +kernel⟩
theorem w_square_of {f : Addr} {fd : FuncData} (Fu : Fun K "square_of" "square_of" (top 28) f fd) (M : GlM K mg) (hm : mg "square_of" = some (.ref f)) (hb : ∀ n1 ∈ ([1] : List Nat), ∀ (s : Shared) (us ws : List Value), K.In s.heap → us.length = n1 → us.length + ws.length = 1 → BindsTo s fd ⟨us, (((["vector"] : List Str) : List Str).drop n1).zip ws⟩ (((["vector"] : List Str) : List Str).zip (us ++ ws))) (h_dot : FnT P w K mg base T 1 "dot" (["one", "two"] : List Str) [2] D_dot) :
    FnT P w K mg base T 2 "square_of" (["vector"] : List Str) [1] D_square_of :=
  ⟨f, fd, hm, Fu.kp, fn_body Fu sc_square_of fun cdv hcd A outer s H E o => by
   unfold G_square_of
   exact (SSs.one (SS.ret (SE.call h_dot o (by decide) rfl (SXs.cons (SX.val (SE.var 0)) (SXs.cons (SX.val (SE.var 0)) SXs.nil))))), hb⟩
/-! is_wind_form -/
def G_is_wind_form : DS := (sSeq (sIf (tOr (tNot (tV (eCall D_is_tuple_of (xCons (xV (eV 0)) (xCons (xV (eC (.int 3))) xNil))))) (tOr (tNot (tV (eBi dAll (aCons (eLc (iSeq (eV 0)) (gV 1) tTrue (eCall D_is_whole (xCons (xV (eV 1)) xNil)) [1]) aNil)))) (tNot (tV (eChain dLe dLe (eC (.int 1)) (eBin dIx (eV 0) (eC (.int 2))) (eC c_MOST_SCALE)))))) (sRet (eC (.bool false))) sNil)
    (sSeq (sIf (tOr (tV (eBin dGt (eBi dAbs (aCons (eBin dIx (eV 0) (eC (.int 0))) aNil)) (eBin dIx (eV 0) (eC (.int 2))))) (tOr (tV (eBin dGt (eBi dAbs (aCons (eBin dIx (eV 0) (eC (.int 1))) aNil)) (eBin dIx (eV 0) (eC (.int 2))))) (tV (eBin dNe (eCall D_square_of (xCons (xV (eSl (eV 0) oNone (oSome (eC (.int 2))))) xNil)) (eBin dMul (eBin dIx (eV 0) (eC (.int 2))) (eBin dIx (eV 0) (eC (.int 2)))))))) (sRet (eC (.bool false))) sNil)
    (sRet (eBin dEq (eBi dGcdA (aCons (eBin dIx (eV 0) (eC (.int 0))) (aCons (eBin dIx (eV 0) (eC (.int 1))) (aCons (eBin dIx (eV 0) (eC (.int 2))) aNil)))) (eC (.int 1))))))
def D_is_wind_form : FnSem := fnD 2 G_is_wind_form
theorem sc_is_wind_form : FnScope (["value", "each"] : List Str) (["value"] : List Str) (defScope (top 31)) := ⟨rfl, rfl, rfl, by decide +kernel, rfl, by decide +kernel, by decide +kernel⟩
theorem w_is_wind_form {f : Addr} {fd : FuncData} (Fu : Fun K "is_wind_form" "is_wind_form" (top 31) f fd) (M : GlM K mg) (hm : mg "is_wind_form" = some (.ref f)) (hb : ∀ n1 ∈ ([1] : List Nat), ∀ (s : Shared) (us ws : List Value), K.In s.heap → us.length = n1 → us.length + ws.length = 1 → BindsTo s fd ⟨us, (((["value"] : List Str) : List Str).drop n1).zip ws⟩ (((["value"] : List Str) : List Str).zip (us ++ ws))) (h_is_whole : FnT P w K mg base T 1 "is_whole" (["value"] : List Str) [1] D_is_whole) (h_is_tuple_of : FnT P w K mg base T 1 "is_tuple_of" (["value", "many"] : List Str) [2] D_is_tuple_of) (h_square_of : FnT P w K mg base T 2 "square_of" (["vector"] : List Str) [1] D_square_of) :
    FnT P w K mg base T 3 "is_wind_form" (["value"] : List Str) [1] D_is_wind_form :=
  ⟨f, fd, hm, Fu.kp, fn_body Fu sc_is_wind_form fun cdv hcd A outer s H E o => by
   unfold G_is_wind_form
   exact (SSs.cons (SS.ife (SW.st (SW.or (ST.not (ST.val (SE.call h_is_tuple_of o (by decide) rfl (SXs.cons (SX.val (SE.var 0)) (SXs.cons (SX.val SE.int) SXs.nil))))) (SW.or (ST.not (ST.val (SE.callB (CallD.all o) rfl M.b_all (by decide +kernel) (SA.cons (SE.lc o (SI.seq (SE.var 0)) (fun s1 H1 C1 cl1 fp1 => (SG.name (o.blk s1 H1 _ C1 cl1 fp1) 1)) (fun s1 H1 C1 cl1 fp1 => STs.nil) (fun s1 H1 C1 cl1 fp1 => (SE.call h_is_whole (o.blk s1 H1 _ C1 cl1 fp1) (by decide) rfl (SXs.cons (SX.val (SE.var 1)) SXs.nil))) (own := [("each", 1)]) (blk_ok (N := (["value", "each"] : List Str)) (sc := defScope (top 31)) (by decide +kernel)) (by decide)) SA.nil)))) (SW.or1 (ST.not (ST.chain (OpD.le o.hu) (OpD.le o.hu) SE.int (SE.ix (SE.var 0) SE.int (fun _ _ => rfl)) (SE.glob ⟨M.c_MOST_SCALE⟩ rfl))))))) (SSs.one (SS.ret SE.bl)) SSs.nil)
    (SSs.cons (SS.ife (SW.st (SW.or (ST.cmp (OpD.gt o.hu) (SE.callB CallD.abs rfl M.b_abs (by decide +kernel) (SA.cons (SE.ix (SE.var 0) SE.int (fun _ _ => rfl)) SA.nil)) (SE.ix (SE.var 0) SE.int (fun _ _ => rfl))) (SW.or (ST.cmp (OpD.gt o.hu) (SE.callB CallD.abs rfl M.b_abs (by decide +kernel) (SA.cons (SE.ix (SE.var 0) SE.int (fun _ _ => rfl)) SA.nil)) (SE.ix (SE.var 0) SE.int (fun _ _ => rfl))) (SW.or1 (ST.cmp (OpD.ne o.hu) (SE.call h_square_of o (by decide) rfl (SXs.cons (SX.val (SE.sl (SE.var 0) SO.none (SO.some SE.int))) SXs.nil)) (SE.op OpD.mul (SE.ix (SE.var 0) SE.int (fun _ _ => rfl)) (SE.ix (SE.var 0) SE.int (fun _ _ => rfl)))))))) (SSs.one (SS.ret SE.bl)) SSs.nil)
    (SSs.one (SS.ret (SE.cmp (OpD.eq o.hu) (SE.callI CallD.gcdA rfl M.i_gcd (SA.cons (SE.ix (SE.var 0) SE.int (fun _ _ => rfl)) (SA.cons (SE.ix (SE.var 0) SE.int (fun _ _ => rfl)) (SA.cons (SE.ix (SE.var 0) SE.int (fun _ _ => rfl)) SA.nil)))) SE.int))))), hb⟩
/-! is_stern -/
def G_is_stern : DS := (sSeq (sIf (tOr (tNot (tV (eCall D_is_tuple_of (xCons (xV (eV 0)) (xCons (xV (eC (.int 3))) xNil))))) (tNot (tV (eCall D_is_wind_form (xCons (xV (eBin dIx (eV 0) (eC (.int 0)))) xNil))))) (sRet (eC (.bool false))) sNil)
    (sRet (eAnd (eCall D_is_fraction (xCons (xV (eBin dIx (eV 0) (eC (.int 1)))) xNil)) (eCall D_is_fraction (xCons (xV (eBin dIx (eV 0) (eC (.int 2)))) xNil)))))
def D_is_stern : FnSem := fnD 1 G_is_stern
theorem sc_is_stern : FnScope (["value"] : List Str) (["value"] : List Str) (defScope (top 35)) := ⟨rfl, rfl, rfl, by decide +kernel, rfl, by decide +kernel, by decide +kernel⟩
theorem w_is_stern {f : Addr} {fd : FuncData} (Fu : Fun K "is_stern" "is_stern" (top 35) f fd) (M : GlM K mg) (hm : mg "is_stern" = some (.ref f)) (hb : ∀ n1 ∈ ([1] : List Nat), ∀ (s : Shared) (us ws : List Value), K.In s.heap → us.length = n1 → us.length + ws.length = 1 → BindsTo s fd ⟨us, (((["value"] : List Str) : List Str).drop n1).zip ws⟩ (((["value"] : List Str) : List Str).zip (us ++ ws))) (h_is_fraction : FnT P w K mg base T 2 "is_fraction" (["value"] : List Str) [1] D_is_fraction) (h_is_tuple_of : FnT P w K mg base T 1 "is_tuple_of" (["value", "many"] : List Str) [2] D_is_tuple_of) (h_is_wind_form : FnT P w K mg base T 3 "is_wind_form" (["value"] : List Str) [1] D_is_wind_form) :
    FnT P w K mg base T 4 "is_stern" (["value"] : List Str) [1] D_is_stern :=
  ⟨f, fd, hm, Fu.kp, fn_body Fu sc_is_stern fun cdv hcd A outer s H E o => by
   unfold G_is_stern
   exact (SSs.cons (SS.ife (SW.st (SW.or (ST.not (ST.val (SE.call h_is_tuple_of o (by decide) rfl (SXs.cons (SX.val (SE.var 0)) (SXs.cons (SX.val SE.int) SXs.nil))))) (SW.or1 (ST.not (ST.val (SE.call h_is_wind_form o (by decide) rfl (SXs.cons (SX.val (SE.ix (SE.var 0) SE.int (fun _ _ => rfl))) SXs.nil))))))) (SSs.one (SS.ret SE.bl)) SSs.nil)
    (SSs.one (SS.ret (SE.and (SE.call h_is_fraction o (by decide) rfl (SXs.cons (SX.val (SE.ix (SE.var 0) SE.int (fun _ _ => rfl))) SXs.nil)) (SE.one (SE.call h_is_fraction o (by decide) rfl (SXs.cons (SX.val (SE.ix (SE.var 0) SE.int (fun _ _ => rfl))) SXs.nil))))))), hb⟩
/-! check_sterns -/
def G_check_sterns : DS := (sFor (iSeq (eCallL D_wrong_from_one 2 [] (eCall D_is_stern (xCons (xV (eV 0)) xNil)) (xCons (xV (eV 0)) (xCons (xV (eC c_MOST_STERNS)) xNil)))) (gV 1) (fun _ _ => .bad))
def D_check_sterns : FnSem := fnD 2 G_check_sterns
theorem sc_check_sterns : FnScope (["value", "at"] : List Str) (["value"] : List Str) (defScope (top 36)) := ⟨rfl, rfl, rfl, by decide +kernel, rfl, by decide +kernel, by decide +kernel⟩
theorem w_check_sterns {f : Addr} {fd : FuncData} (Fu : Fun K "check_sterns" "check_sterns" (top 36) f fd) (M : GlM K mg) (hm : mg "check_sterns" = some (.ref f)) (hb : ∀ n1 ∈ ([1] : List Nat), ∀ (s : Shared) (us ws : List Value), K.In s.heap → us.length = n1 → us.length + ws.length = 1 → BindsTo s fd ⟨us, (((["value"] : List Str) : List Str).drop n1).zip ws⟩ (((["value"] : List Str) : List Str).zip (us ++ ws))) (h_wrong_from_one : FnH P w K mg base T 7 "wrong_from_one" (["values", "most", "is_right"] : List Str) 5 2 D_wrong_from_one) (h_is_stern : FnT P w K mg base T 4 "is_stern" (["value"] : List Str) [1] D_is_stern) {c tP : Addr} (hcode : fd.code = .ref c) (tb : TabB base mg c tP) (hmem : (tP, ("check_sterns" ++ ".<locals>." ++ "<lambda>" : Str)) ∈ T) (hone : ∀ p ∈ T, p.1 = tP → p.2 = ("check_sterns" ++ ".<locals>." ++ "<lambda>" : Str)) :
    FnT P w K mg base T 12 "check_sterns" (["value"] : List Str) [1] D_check_sterns :=
  ⟨f, fd, hm, Fu.kp, fn_body Fu sc_check_sterns fun cdv hcd A outer s H E o => by
   unfold G_check_sterns
   exact (SSs.one (SS.for o (SI.seq (SE.callHL (es := [_, _]) (NL := ["each", "before"]) (lps := ["each", "before"]) (fr := []) (js := []) h_wrong_from_one o (by decide) (kb := 4) (by decide) rfl (fun _ => rfl) (SL.cons (SX.val (SE.var 0)) (SL.cons (SX.val (SE.glob ⟨M.c_MOST_STERNS⟩ rfl)) (SL.nil ⟨hcd.symm.trans hcode, tb, hmem, hone⟩ rfl (fun ok y hy z => ok.has _ (fr_ok (sc := defScope (top 36)) (by decide +kernel) y hy z))))) rfl (nscope_by (by decide +kernel)) (fr_ok (sc := defScope (top 36)) (by decide +kernel)) (fr2_ok (by decide +kernel)) rfl (fun q cl pm cv ctv us hl => match us, hl with | [_, _], _ => rfl) (fun cl c1 fl A1 outer1 s1 H1 E1 ol => (SE.call h_is_stern ol (by decide) rfl (SXs.cons (SX.val (SE.var 0)) SXs.nil))) (by decide) ⟨_, _, rfl, rfl, rfl⟩)) (SG.name o 1) (SSs.one SS.never))), hb⟩
/-! check_fit -/
def G_check_fit : DS := (sSeq (sExpr (eCall D_check_sterns (xCons (xV (eV 0)) xNil)))
    (sIf (tV (eBin dEq (eCall D_fits_of (xCons (xV (eV 0)) xNil)) (eLst aNil))) (sRaise0 "NoFit") sNil))
def D_check_fit : FnSem := fnD 1 G_check_fit
theorem sc_check_fit : FnScope (["sterns"] : List Str) (["sterns"] : List Str) (defScope (top 37)) := ⟨rfl, rfl, rfl, by decide +kernel, rfl, by decide +kernel, by decide +kernel⟩
theorem w_check_fit {f : Addr} {fd : FuncData} (Fu : Fun K "check_fit" "check_fit" (top 37) f fd) (M : GlM K mg) (hm : mg "check_fit" = some (.ref f)) (hb : ∀ n1 ∈ ([1] : List Nat), ∀ (s : Shared) (us ws : List Value), K.In s.heap → us.length = n1 → us.length + ws.length = 1 → BindsTo s fd ⟨us, (((["sterns"] : List Str) : List Str).drop n1).zip ws⟩ (((["sterns"] : List Str) : List Str).zip (us ++ ws))) (h_fits_of : FnT P w K mg base T 5 "fits_of" (["sterns"] : List Str) [1] D_fits_of) (h_check_sterns : FnT P w K mg base T 12 "check_sterns" (["value"] : List Str) [1] D_check_sterns) :
    FnT P w K mg base T 13 "check_fit" (["sterns"] : List Str) [1] D_check_fit :=
  ⟨f, fd, hm, Fu.kp, fn_body Fu sc_check_fit fun cdv hcd A outer s H E o => by
   unfold G_check_fit
   exact (SSs.cons (SS.expr (SE.call h_check_sterns o (by decide) rfl (SXs.cons (SX.val (SE.var 0)) SXs.nil)))
    (SSs.one (SS.ife (ST.cmp (OpD.eq o.hu) (SE.call h_fits_of o (by decide) rfl (SXs.cons (SX.val (SE.var 0)) SXs.nil)) (SE.lst SA.nil)) (SSs.one (SS.raise0 o ⟨M.r_NoFit⟩ rfl)) SSs.nil))), hb⟩
/-! do_fit -/
def G_do_fit : DS := (sSeq (sExpr (eCall D_check_sterns (xCons (xV (eV 0)) xNil)))
    (sRet (eBin dNe (eCall D_fits_of (xCons (xV (eV 0)) xNil)) (eLst aNil))))
def D_do_fit : FnSem := fnD 1 G_do_fit
theorem sc_do_fit : FnScope (["sterns"] : List Str) (["sterns"] : List Str) (defScope (top 38)) := ⟨rfl, rfl, rfl, by decide +kernel, rfl, by decide +kernel, by decide +kernel⟩
theorem w_do_fit {f : Addr} {fd : FuncData} (Fu : Fun K "do_fit" "do_fit" (top 38) f fd) (M : GlM K mg) (hm : mg "do_fit" = some (.ref f)) (hb : ∀ n1 ∈ ([1, 0] : List Nat), ∀ (s : Shared) (us ws : List Value), K.In s.heap → us.length = n1 → us.length + ws.length = 1 → BindsTo s fd ⟨us, (((["sterns"] : List Str) : List Str).drop n1).zip ws⟩ (((["sterns"] : List Str) : List Str).zip (us ++ ws))) (h_fits_of : FnT P w K mg base T 5 "fits_of" (["sterns"] : List Str) [1] D_fits_of) (h_check_sterns : FnT P w K mg base T 12 "check_sterns" (["value"] : List Str) [1] D_check_sterns) :
    FnT P w K mg base T 13 "do_fit" (["sterns"] : List Str) [1, 0] D_do_fit :=
  ⟨f, fd, hm, Fu.kp, fn_body Fu sc_do_fit fun cdv hcd A outer s H E o => by
   unfold G_do_fit
   exact (SSs.cons (SS.expr (SE.call h_check_sterns o (by decide) rfl (SXs.cons (SX.val (SE.var 0)) SXs.nil)))
    (SSs.one (SS.ret (SE.cmp (OpD.ne o.hu) (SE.call h_fits_of o (by decide) rfl (SXs.cons (SX.val (SE.var 0)) SXs.nil)) (SE.lst SA.nil))))), hb⟩
/-! told_place -/
def G_told_place : DS := (sSeq (sExpr (eCall D_check_fit (xCons (xV (eV 0)) xNil)))
    (sRet (eIf (tV (eCall D_are_of_one_wind (xCons (xV (eV 0)) xNil))) (eC .none) (eSl (eBin dIx (eCall D_fits_of (xCons (xV (eV 0)) xNil)) (eC (.int 0))) oNone (oSome (eC (.int 2)))))))
def D_told_place : FnSem := fnD 1 G_told_place
theorem sc_told_place : FnScope (["sterns"] : List Str) (["sterns"] : List Str) (defScope (top 39)) := ⟨rfl, rfl, rfl, by decide +kernel, rfl, by decide +kernel, by decide +kernel⟩
theorem w_told_place {f : Addr} {fd : FuncData} (Fu : Fun K "told_place" "told_place" (top 39) f fd) (M : GlM K mg) (hm : mg "told_place" = some (.ref f)) (hb : ∀ n1 ∈ ([1, 0] : List Nat), ∀ (s : Shared) (us ws : List Value), K.In s.heap → us.length = n1 → us.length + ws.length = 1 → BindsTo s fd ⟨us, (((["sterns"] : List Str) : List Str).drop n1).zip ws⟩ (((["sterns"] : List Str) : List Str).zip (us ++ ws))) (h_are_of_one_wind : FnT P w K mg base T 1 "are_of_one_wind" (["sterns"] : List Str) [1] D_are_of_one_wind) (h_fits_of : FnT P w K mg base T 5 "fits_of" (["sterns"] : List Str) [1] D_fits_of) (h_check_fit : FnT P w K mg base T 13 "check_fit" (["sterns"] : List Str) [1] D_check_fit) :
    FnT P w K mg base T 14 "told_place" (["sterns"] : List Str) [1, 0] D_told_place :=
  ⟨f, fd, hm, Fu.kp, fn_body Fu sc_told_place fun cdv hcd A outer s H E o => by
   unfold G_told_place
   exact (SSs.cons (SS.expr (SE.call h_check_fit o (by decide) rfl (SXs.cons (SX.val (SE.var 0)) SXs.nil)))
    (SSs.one (SS.ret (SE.ifx (ST.val (SE.call h_are_of_one_wind o (by decide) rfl (SXs.cons (SX.val (SE.var 0)) SXs.nil))) SE.non (SE.sl (SE.ix (SE.call h_fits_of o (by decide) rfl (SXs.cons (SX.val (SE.var 0)) SXs.nil)) SE.int (fun _ _ => rfl)) SO.none (SO.some SE.int)))))), hb⟩
/-! told_reach -/
def G_told_reach : DS := (sSeq (sExpr (eCall D_check_fit (xCons (xV (eV 0)) xNil)))
    (sRet (eIf (tV (eCall D_are_of_one_wind (xCons (xV (eV 0)) xNil))) (eC .none) (eBin dIx (eBin dIx (eCall D_fits_of (xCons (xV (eV 0)) xNil)) (eC (.int 0))) (eC (.int 2))))))
def D_told_reach : FnSem := fnD 1 G_told_reach
theorem sc_told_reach : FnScope (["sterns"] : List Str) (["sterns"] : List Str) (defScope (top 40)) := ⟨rfl, rfl, rfl, by decide +kernel, rfl, by decide +kernel, by decide +kernel⟩
theorem w_told_reach {f : Addr} {fd : FuncData} (Fu : Fun K "told_reach" "told_reach" (top 40) f fd) (M : GlM K mg) (hm : mg "told_reach" = some (.ref f)) (hb : ∀ n1 ∈ ([1, 0] : List Nat), ∀ (s : Shared) (us ws : List Value), K.In s.heap → us.length = n1 → us.length + ws.length = 1 → BindsTo s fd ⟨us, (((["sterns"] : List Str) : List Str).drop n1).zip ws⟩ (((["sterns"] : List Str) : List Str).zip (us ++ ws))) (h_are_of_one_wind : FnT P w K mg base T 1 "are_of_one_wind" (["sterns"] : List Str) [1] D_are_of_one_wind) (h_fits_of : FnT P w K mg base T 5 "fits_of" (["sterns"] : List Str) [1] D_fits_of) (h_check_fit : FnT P w K mg base T 13 "check_fit" (["sterns"] : List Str) [1] D_check_fit) :
    FnT P w K mg base T 14 "told_reach" (["sterns"] : List Str) [1, 0] D_told_reach :=
  ⟨f, fd, hm, Fu.kp, fn_body Fu sc_told_reach fun cdv hcd A outer s H E o => by
   unfold G_told_reach
   exact (SSs.cons (SS.expr (SE.call h_check_fit o (by decide) rfl (SXs.cons (SX.val (SE.var 0)) SXs.nil)))
    (SSs.one (SS.ret (SE.ifx (ST.val (SE.call h_are_of_one_wind o (by decide) rfl (SXs.cons (SX.val (SE.var 0)) SXs.nil))) SE.non (SE.ix (SE.ix (SE.call h_fits_of o (by decide) rfl (SXs.cons (SX.val (SE.var 0)) SXs.nil)) SE.int (fun _ _ => rfl)) SE.int (fun _ _ => rfl)))))), hb⟩
/-! stern_bar -/
def G_stern_bar : DS := (sSeq (sExpr (eCall D_check_sterns (xCons (xV (eV 0)) xNil)))
    (sSeq (sFor (iSeq (eCall D_sets_of (xCons (xV (eTupR (eBi dLen (aCons (eV 0) aNil)))) xNil))) (gV 1) (sIf (tAnd (tV (eChain dLe dLe (eC (.int 2)) (eBi dLen (aCons (eV 1) aNil)) (eC c_MOST_IN_BAR))) (tV (eBin dEq (eCall D_fits_of (xCons (xV (eLc (iSeq (eV 1)) (gV 2) tTrue (eBin dIx (eV 0) (eV 2)) [2])) xNil)) (eLst aNil)))) (sRet (eV 1)) sNil))
    (sRet (eC .none))))
def D_stern_bar : FnSem := fnD 3 G_stern_bar
theorem sc_stern_bar : FnScope (["sterns", "some", "at"] : List Str) (["sterns"] : List Str) (defScope (top 41)) := ⟨rfl, rfl, rfl, by decide +kernel, rfl, by decide +kernel, by decide +kernel⟩
theorem w_stern_bar {f : Addr} {fd : FuncData} (Fu : Fun K "stern_bar" "stern_bar" (top 41) f fd) (M : GlM K mg) (hm : mg "stern_bar" = some (.ref f)) (hb : ∀ n1 ∈ ([1, 0] : List Nat), ∀ (s : Shared) (us ws : List Value), K.In s.heap → us.length = n1 → us.length + ws.length = 1 → BindsTo s fd ⟨us, (((["sterns"] : List Str) : List Str).drop n1).zip ws⟩ (((["sterns"] : List Str) : List Str).zip (us ++ ws))) (h_sets_of : FnT P w K mg base T 5 "sets_of" (["values"] : List Str) [1] D_sets_of) (h_fits_of : FnT P w K mg base T 5 "fits_of" (["sterns"] : List Str) [1] D_fits_of) (h_check_sterns : FnT P w K mg base T 12 "check_sterns" (["value"] : List Str) [1] D_check_sterns) :
    FnT P w K mg base T 13 "stern_bar" (["sterns"] : List Str) [1, 0] D_stern_bar :=
  ⟨f, fd, hm, Fu.kp, fn_body Fu sc_stern_bar fun cdv hcd A outer s H E o => by
   unfold G_stern_bar
   exact (SSs.cons (SS.expr (SE.call h_check_sterns o (by decide) rfl (SXs.cons (SX.val (SE.var 0)) SXs.nil)))
    (SSs.cons (SS.for o (SI.seq (SE.call h_sets_of o (by decide) rfl (SXs.cons (SX.val (SE.tupR o rfl M.b_tuple rfl M.b_range (SE.callB CallD.len rfl M.b_len (by decide +kernel) (SA.cons (SE.var 0) SA.nil)))) SXs.nil))) (SG.name o 1) (SSs.one (SS.ife (SW.st (SW.and (ST.chain (OpD.le o.hu) (OpD.le o.hu) SE.int (SE.callB CallD.len rfl M.b_len (by decide +kernel) (SA.cons (SE.var 1) SA.nil)) (SE.glob ⟨M.c_MOST_IN_BAR⟩ rfl)) (SW.and1 (ST.cmp (OpD.eq o.hu) (SE.call h_fits_of o (by decide) rfl (SXs.cons (SX.val (SE.lc o (SI.seq (SE.var 1)) (fun s1 H1 C1 cl1 fp1 => (SG.name (o.blk s1 H1 _ C1 cl1 fp1) 2)) (fun s1 H1 C1 cl1 fp1 => STs.nil) (fun s1 H1 C1 cl1 fp1 => (SE.ix (SE.var 0) (SE.var 2) (fun _ _ => rfl))) (own := [("at", 2)]) (blk_ok (N := (["sterns", "some", "at"] : List Str)) (sc := defScope (top 41)) (by decide +kernel)) (by decide))) SXs.nil)) (SE.lst SA.nil))))) (SSs.one (SS.ret (SE.var 1))) SSs.nil)))
    (SSs.one (SS.ret SE.non)))), hb⟩
/-! _law_well -/
def G__law_well : DA := (nSeq (sAsg (eBin dAdd (eC (.int 130577)) (eBin dMul (eC (.int 7013)) (eV 1))) (gV 2))
    (nSeq (sFor (iSeq (eSl (eV 0) oNone (oSome (eC (.int 12))))) (gV 3) (sAsg (eBin dMod (eBi dInt (aCons (eBin dAdd (eBin dAdd (eBin dMul (eV 2) (eC (.int 45281))) (eBin dMod (eBi dInt (aCons (eV 3) aNil)) (eC (.int 2147483549)))) (eC (.int 19))) aNil)) (eC (.int 2147483563))) (gV 2)))
    (nSeq (sAsg (eIf (tV (eBin dLt (eV 1) (eBi dLen (aCons (eV 0) aNil)))) (eBi dInt (aCons (eBin dIx (eV 0) (eV 1)) aNil)) (eC (.int 0))) (gV 4))
    (nSeq (sAsg (eBin dMod (eBi dInt (aCons (eBin dAdd (eBin dAdd (eBin dMul (eV 2) (eC (.int 41))) (eBin dMul (eBin dMod (eBi dInt (aCons (eV 4) aNil)) (eC (.int 2147483549))) (eC (.int 15031)))) (eC (.int 5))) aNil)) (eC (.int 2147483563))) (gV 2))
    (aLen (aCons (eIf (tOr (tV (eBin dLt (eV 4) (eC (.int 0)))) (tV (eBin dGe (eV 4) (eBin dPow (eC (.int 10)) (eC (.int 15)))))) (eBi dAbs (aCons (eV 4) aNil)) (eC (.int 0))) (aCons (eV 2) (aCons (eC (.int 0)) aNil))))))))
def D__law_well : List Slot → Ms → Res (List D) := fnNewD 5 G__law_well
theorem sc__law_well : FnScope (["script", "lap", "stirred", "cell", "own"] : List Str) (["script", "lap"] : List Str) (defScope (top 43)) := ⟨rfl, rfl, rfl, by decide +kernel, rfl, by decide +kernel, by decide +kernel⟩
theorem w__law_well {f : Addr} {fd : FuncData} (Fu : Fun K "_law_well" "_law_well" (top 43) f fd) (M : GlM K mg) (hm : mg "_law_well" = some (.ref f)) (hb : ∀ (s : Shared) (us : List Value), K.In s.heap → us.length = 2 → BindsTo s fd ⟨us, []⟩ ((["script", "lap"] : List Str).zip us))  :
    FnN P w K mg base T 1 "_law_well" (["script", "lap"] : List Str) D__law_well :=
  fnN_body Fu hm sc__law_well hb fun cdv hcd A outer s H E o => by
   unfold G__law_well
   exact (SSN.cons (SS.asg (SE.op OpD.add SE.int (SE.op OpD.mul SE.int (SE.var 1))) (SG.name o 2))
    (SSN.cons (SS.for o (SI.seq (SE.sl (SE.var 0) SO.none (SO.some SE.int))) (SG.name o 3) (SSs.one (SS.asg (SE.op OpD.mod (SE.callTy CallD.int rfl M.b_int (by decide +kernel) (SA.cons (SE.op OpD.add (SE.op OpD.add (SE.op OpD.mul (SE.var 2) SE.int) (SE.op OpD.mod (SE.callTy CallD.int rfl M.b_int (by decide +kernel) (SA.cons (SE.var 3) SA.nil)) SE.int)) SE.int) SA.nil)) SE.int) (SG.name o 2))))
    (SSN.cons (SS.asg (SE.ifx (ST.cmp (OpD.lt o.hu) (SE.var 1) (SE.callB CallD.len rfl M.b_len (by decide +kernel) (SA.cons (SE.var 0) SA.nil))) (SE.callTy CallD.int rfl M.b_int (by decide +kernel) (SA.cons (SE.ix (SE.var 0) (SE.var 1) (fun _ _ => rfl)) SA.nil)) SE.int) (SG.name o 4))
    (SSN.cons (SS.asg (SE.op OpD.mod (SE.callTy CallD.int rfl M.b_int (by decide +kernel) (SA.cons (SE.op OpD.add (SE.op OpD.add (SE.op OpD.mul (SE.var 2) SE.int) (SE.op OpD.mul (SE.op OpD.mod (SE.callTy CallD.int rfl M.b_int (by decide +kernel) (SA.cons (SE.var 4) SA.nil)) SE.int) SE.int)) SE.int) SA.nil)) SE.int) (SG.name o 2))
    (SSN.ret (SN.lst (SA.cons (SE.ifx (SW.st (SW.or (ST.cmp (OpD.lt o.hu) (SE.var 4) SE.int) (SW.or1 (ST.cmp (OpD.ge o.hu) (SE.var 4) (SE.op OpD.pow SE.int SE.int))))) (SE.callB CallD.abs rfl M.b_abs (by decide +kernel) (SA.cons (SE.var 4) SA.nil)) SE.int) (SA.cons (SE.var 2) (SA.cons SE.int SA.nil)))))))))
/-! _law_draw -/
def G__law_draw : DS := (sSeq (sIf (tV (eBin dGt (eBinS dIx (xO 0) (xV (eC (.int 0)))) (eC (.int 0)))) (sSeq (sSubN 0 0 2 (eBi dDivmod (aCons (eBinS dIx (xO 0) (xV (eC (.int 0)))) (aCons (eV 1) aNil))))
    (sRet (eV 2))) sNil)
    (sSeq (sSetI 0 (eC (.int 2)) (eBin dAdd (eBinS dIx (xO 0) (xV (eC (.int 2)))) (eC (.int 1))))
    (sSeq (sAsg (eBin dMod (eBi dInt (aCons (eBin dAdd (eBin dAdd (eBin dMul (eBinS dIx (xO 0) (xV (eC (.int 1)))) (eC (.int 40037))) (eBin dMul (eC (.int 13001)) (eBinS dIx (xO 0) (xV (eC (.int 2)))))) (eC (.int 7))) aNil)) (eC (.int 2147483563))) (gV 3))
    (sSeq (sSetI 0 (eC (.int 1)) (eBin dMod (eBi dInt (aCons (eBin dAdd (eBin dMul (eV 3) (eBin dAdd (eBin dMod (eBi dInt (aCons (eV 3) aNil)) (eC (.int 5009))) (eC (.int 20023)))) (eBinS dIx (xO 0) (xV (eC (.int 2))))) aNil)) (eC (.int 2147483563))))
    (sRet (eBin dMod (eBi dInt (aCons (eBin dFdiv (eBinS dIx (xO 0) (xV (eC (.int 1)))) (eC (.int 1013))) aNil)) (eV 1)))))))
def D__law_draw : FnSem := fnD 4 G__law_draw
theorem sc__law_draw : FnScope (["well", "limit", "digit", "stir"] : List Str) (["well", "limit"] : List Str) (defScope (top 44)) := ⟨rfl, rfl, rfl, by decide +kernel, rfl, by decide +kernel, by decide +kernel⟩
theorem w__law_draw {f : Addr} {fd : FuncData} (Fu : Fun K "_law_draw" "_law_draw" (top 44) f fd) (M : GlM K mg) (hm : mg "_law_draw" = some (.ref f)) (hb : ∀ n1 ∈ ([2] : List Nat), ∀ (s : Shared) (us ws : List Value), K.In s.heap → us.length = n1 → us.length + ws.length = 2 → BindsTo s fd ⟨us, (((["well", "limit"] : List Str) : List Str).drop n1).zip ws⟩ (((["well", "limit"] : List Str) : List Str).zip (us ++ ws)))  :
    FnT P w K mg base T 1 "_law_draw" (["well", "limit"] : List Str) [2] D__law_draw :=
  ⟨f, fd, hm, Fu.kp, fn_body Fu sc__law_draw fun cdv hcd A outer s H E o => by
   unfold G__law_draw
   exact (SSs.cons (SS.ife (ST.cmp (OpD.gt o.hu) (SE.ixS (SX.obj 0) (SX.val SE.int) (fun _ _ => rfl)) SE.int) (SSs.cons (SS.subN (n := 0) (l := 2) 0 o (SE.callB CallD.divmod rfl M.b_divmod (by decide +kernel) (SA.cons (SE.ixS (SX.obj 0) (SX.val SE.int) (fun _ _ => rfl)) (SA.cons (SE.var 1) SA.nil))))
    (SSs.one (SS.ret (SE.var 2)))) SSs.nil)
    (SSs.cons (SS.setI 0 o (SE.op OpD.add (SE.ixS (SX.obj 0) (SX.val SE.int) (fun _ _ => rfl)) SE.int) SE.int)
    (SSs.cons (SS.asg (SE.op OpD.mod (SE.callTy CallD.int rfl M.b_int (by decide +kernel) (SA.cons (SE.op OpD.add (SE.op OpD.add (SE.op OpD.mul (SE.ixS (SX.obj 0) (SX.val SE.int) (fun _ _ => rfl)) SE.int) (SE.op OpD.mul SE.int (SE.ixS (SX.obj 0) (SX.val SE.int) (fun _ _ => rfl)))) SE.int) SA.nil)) SE.int) (SG.name o 3))
    (SSs.cons (SS.setI 0 o (SE.op OpD.mod (SE.callTy CallD.int rfl M.b_int (by decide +kernel) (SA.cons (SE.op OpD.add (SE.op OpD.mul (SE.var 3) (SE.op OpD.add (SE.op OpD.mod (SE.callTy CallD.int rfl M.b_int (by decide +kernel) (SA.cons (SE.var 3) SA.nil)) SE.int) SE.int)) (SE.ixS (SX.obj 0) (SX.val SE.int) (fun _ _ => rfl))) SA.nil)) SE.int) SE.int)
    (SSs.one (SS.ret (SE.op OpD.mod (SE.callTy CallD.int rfl M.b_int (by decide +kernel) (SA.cons (SE.op OpD.fdiv (SE.ixS (SX.obj 0) (SX.val SE.int) (fun _ _ => rfl)) SE.int) SA.nil)) (SE.var 1)))))))), hb⟩
/-! _law_of -/
def G__law_of : DS := (sRet (eBin dIx (eV 1) (eCall D__law_draw (xCons (xO 0) (xCons (xV (eBi dLen (aCons (eV 1) aNil))) xNil)))))
def D__law_of : FnSem := fnD 2 G__law_of
theorem sc__law_of : FnScope (["well", "some"] : List Str) (["well", "some"] : List Str) (defScope (top 45)) := ⟨rfl, rfl, rfl, by decide +kernel, rfl, by decide +kernel, by decide +kernel⟩
theorem w__law_of {f : Addr} {fd : FuncData} (Fu : Fun K "_law_of" "_law_of" (top 45) f fd) (M : GlM K mg) (hm : mg "_law_of" = some (.ref f)) (hb : ∀ n1 ∈ ([2] : List Nat), ∀ (s : Shared) (us ws : List Value), K.In s.heap → us.length = n1 → us.length + ws.length = 2 → BindsTo s fd ⟨us, (((["well", "some"] : List Str) : List Str).drop n1).zip ws⟩ (((["well", "some"] : List Str) : List Str).zip (us ++ ws))) (h__law_draw : FnT P w K mg base T 1 "_law_draw" (["well", "limit"] : List Str) [2] D__law_draw) :
    FnT P w K mg base T 2 "_law_of" (["well", "some"] : List Str) [2] D__law_of :=
  ⟨f, fd, hm, Fu.kp, fn_body Fu sc__law_of fun cdv hcd A outer s H E o => by
   unfold G__law_of
   exact (SSs.one (SS.ret (SE.ix (SE.var 1) (SE.call h__law_draw o (by decide) rfl (SXs.cons (SX.obj 0) (SXs.cons (SX.val (SE.callB CallD.len rfl M.b_len (by decide +kernel) (SA.cons (SE.var 1) SA.nil))) SXs.nil))) (fun _ _ => rfl)))), hb⟩
/-! _law_same -/
def G__law_same (D__law_same : FnSem) : DS := (sSeq (sIf (tAnd (tV (eIsa "tuple" (eV 0))) (tV (eIsa "tuple" (eV 1)))) (sRet (eAnd (eBin dEq (eBi dLen (aCons (eV 0) aNil)) (eBi dLen (aCons (eV 1) aNil))) (eBi dAll (aCons (eLc (iRng1 (eBi dLen (aCons (eV 0) aNil))) (gV 2) tTrue (eCall D__law_same (xCons (xV (eBin dIx (eV 0) (eV 2))) (xCons (xV (eBin dIx (eV 1) (eV 2))) xNil))) [2]) aNil)))) sNil)
    (sSeq (sIf (tOr (tV (eBin dNe (eIsa "bool" (eV 0)) (eIsa "bool" (eV 1)))) (tV (eBin dNe (eIsa "int" (eV 0)) (eIsa "int" (eV 1))))) (sRet (eC (.bool false))) sNil)
    (sRet (eAnd (eBin dEq (eIsa "tuple" (eV 0)) (eIsa "tuple" (eV 1))) (eBin dEq (eV 0) (eV 1))))))
def D__law_same : Nat → FnSem
  | 0 => fun _ _ => .bad
  | n + 1 => fnD 3 (G__law_same (D__law_same n))
theorem sc__law_same : FnScope (["one", "two", "k"] : List Str) (["one", "two"] : List Str) (defScope (top 46)) := ⟨rfl, rfl, rfl, by decide +kernel, rfl, by decide +kernel, by decide +kernel⟩
theorem w__law_same {f : Addr} {fd : FuncData} (Fu : Fun K "_law_same" "_law_same" (top 46) f fd) (M : GlM K mg) (hm : mg "_law_same" = some (.ref f)) (hb : ∀ n1 ∈ ([2] : List Nat), ∀ (s : Shared) (us ws : List Value), K.In s.heap → us.length = n1 → us.length + ws.length = 2 → BindsTo s fd ⟨us, (((["one", "two"] : List Str) : List Str).drop n1).zip ws⟩ (((["one", "two"] : List Str) : List Str).zip (us ++ ws)))  :
    ∀ n : Nat, FnT P w K mg base T (1 + n) "_law_same" (["one", "two"] : List Str) [2] (D__law_same n)
  | 0 => ⟨f, fd, hm, Fu.kp, FnG.never, hb⟩
  | n + 1 => ⟨f, fd, hm, Fu.kp, fn_body Fu sc__law_same fun cdv hcd A outer s H E o => by
   have h__law_same := w__law_same Fu M hm hb  n
   unfold G__law_same
   exact (SSs.cons (SS.ife (SW.st (SW.and (ST.val (SE.isa (SE.var 0) rfl M.b_isinstance rfl M.b_tuple (by decide +kernel) (by decide) (by decide) isa_tuple)) (SW.and1 (ST.val (SE.isa (SE.var 1) rfl M.b_isinstance rfl M.b_tuple (by decide +kernel) (by decide) (by decide) isa_tuple))))) (SSs.one (SS.ret (SE.and (SE.cmp (OpD.eq o.hu) (SE.callB CallD.len rfl M.b_len (by decide +kernel) (SA.cons (SE.var 0) SA.nil)) (SE.callB CallD.len rfl M.b_len (by decide +kernel) (SA.cons (SE.var 1) SA.nil))) (SE.one (SE.callB (CallD.all o) rfl M.b_all (by decide +kernel) (SA.cons (SE.lc o (SI.range1 rfl M.b_range (SE.callB CallD.len rfl M.b_len (by decide +kernel) (SA.cons (SE.var 0) SA.nil))) (fun s1 H1 C1 cl1 fp1 => (SG.name (o.blk s1 H1 _ C1 cl1 fp1) 2)) (fun s1 H1 C1 cl1 fp1 => STs.nil) (fun s1 H1 C1 cl1 fp1 => (SE.call h__law_same (o.blk s1 H1 _ C1 cl1 fp1) (Nat.le_refl _) rfl (SXs.cons (SX.val (SE.ix (SE.var 0) (SE.var 2) (fun _ _ => rfl))) (SXs.cons (SX.val (SE.ix (SE.var 1) (SE.var 2) (fun _ _ => rfl))) SXs.nil)))) (own := [("k", 2)]) (blk_ok (N := (["one", "two", "k"] : List Str)) (sc := defScope (top 46)) (by decide +kernel)) (by decide)) SA.nil)))))) SSs.nil)
    (SSs.cons (SS.ife (SW.st (SW.or (ST.cmp (OpD.ne o.hu) (SE.isa (SE.var 0) rfl M.b_isinstance rfl M.b_bool (by decide +kernel) (by decide) (by decide) isa_bool) (SE.isa (SE.var 1) rfl M.b_isinstance rfl M.b_bool (by decide +kernel) (by decide) (by decide) isa_bool)) (SW.or1 (ST.cmp (OpD.ne o.hu) (SE.isa (SE.var 0) rfl M.b_isinstance rfl M.b_int (by decide +kernel) (by decide) (by decide) isa_int) (SE.isa (SE.var 1) rfl M.b_isinstance rfl M.b_int (by decide +kernel) (by decide) (by decide) isa_int))))) (SSs.one (SS.ret SE.bl)) SSs.nil)
    (SSs.one (SS.ret (SE.and (SE.cmp (OpD.eq o.hu) (SE.isa (SE.var 0) rfl M.b_isinstance rfl M.b_tuple (by decide +kernel) (by decide) (by decide) isa_tuple) (SE.isa (SE.var 1) rfl M.b_isinstance rfl M.b_tuple (by decide +kernel) (by decide) (by decide) isa_tuple)) (SE.one (SE.cmp (OpD.eq o.hu) (SE.var 0) (SE.var 1)))))))), hb⟩
/-! _law_sets -/
def G__law_sets : DS := (sSeq (sAsg (eLst (aCons (eTup aNil) aNil)) (gV 1))
    (sSeq (sFor (iSeq (eV 0)) (gV 2) (sAsg (eBin dAdd (eV 1) (eLc (iSeq (eV 1)) (gV 3) tTrue (eBin dAdd (eV 3) (eTup (aCons (eV 2) aNil))) [3])) (gV 1)))
    (sRet (eLc (iSeq (eBi dSorted (aCons (eLc (iSeq (eV 1)) (gV 3) tTrue (eTup (aCons (eBi dLen (aCons (eV 3) aNil)) (aCons (eV 3) aNil))) [3]) aNil))) (gTup' 2 (gCons' (gV 4) (gCons' (gV 3) gNil'))) tTrue (eV 3) [3, 4]))))
def D__law_sets : FnSem := fnD 5 G__law_sets
theorem sc__law_sets : FnScope (["things", "found", "each", "some", "many"] : List Str) (["things"] : List Str) (defScope (top 47)) := ⟨rfl, rfl, rfl, by decide +kernel, rfl, by decide +kernel, by decide +kernel⟩
theorem w__law_sets {f : Addr} {fd : FuncData} (Fu : Fun K "_law_sets" "_law_sets" (top 47) f fd) (M : GlM K mg) (hm : mg "_law_sets" = some (.ref f)) (hb : ∀ n1 ∈ ([1] : List Nat), ∀ (s : Shared) (us ws : List Value), K.In s.heap → us.length = n1 → us.length + ws.length = 1 → BindsTo s fd ⟨us, (((["things"] : List Str) : List Str).drop n1).zip ws⟩ (((["things"] : List Str) : List Str).zip (us ++ ws)))  :
    FnT P w K mg base T 1 "_law_sets" (["things"] : List Str) [1] D__law_sets :=
  ⟨f, fd, hm, Fu.kp, fn_body Fu sc__law_sets fun cdv hcd A outer s H E o => by
   unfold G__law_sets
   exact (SSs.cons (SS.asg (SE.lst (SA.cons (SE.tup SA.nil) SA.nil)) (SG.name o 1))
    (SSs.cons (SS.for o (SI.seq (SE.var 0)) (SG.name o 2) (SSs.one (SS.asg (SE.op OpD.add (SE.var 1) (SE.lc o (SI.seq (SE.var 1)) (fun s1 H1 C1 cl1 fp1 => (SG.name (o.blk s1 H1 _ C1 cl1 fp1) 3)) (fun s1 H1 C1 cl1 fp1 => STs.nil) (fun s1 H1 C1 cl1 fp1 => (SE.op OpD.add (SE.var 3) (SE.tup (SA.cons (SE.var 2) SA.nil)))) (own := [("some", 3)]) (blk_ok (N := (["things", "found", "each", "some", "many"] : List Str)) (sc := defScope (top 47)) (by decide +kernel)) (by decide))) (SG.name o 1))))
    (SSs.one (SS.ret (SE.lc o (SI.seq (SE.callB (CallD.sorted o) rfl M.b_sorted (by decide +kernel) (SA.cons (SE.lc o (SI.seq (SE.var 1)) (fun s2 H2 C2 cl2 fp2 => (SG.name (o.blk s2 H2 _ C2 cl2 fp2) 3)) (fun s2 H2 C2 cl2 fp2 => STs.nil) (fun s2 H2 C2 cl2 fp2 => (SE.tup (SA.cons (SE.callB CallD.len rfl M.b_len (by decide +kernel) (SA.cons (SE.var 3) SA.nil)) (SA.cons (SE.var 3) SA.nil)))) (own := [("some", 3)]) (blk_ok (N := (["things", "found", "each", "some", "many"] : List Str)) (sc := defScope (top 47)) (by decide +kernel)) (by decide)) SA.nil))) (fun s3 H3 C3 cl3 fp3 => (SG.tup (o.blk s3 H3 _ C3 cl3 fp3) (SGs.cons (SG.name (o.blk s3 H3 _ C3 cl3 fp3) 4) (SGs.cons (SG.name (o.blk s3 H3 _ C3 cl3 fp3) 3) SGs.nil)))) (fun s3 H3 C3 cl3 fp3 => STs.nil) (fun s3 H3 C3 cl3 fp3 => (SE.var 3)) (own := [("some", 3), ("many", 4)]) (blk_ok (N := (["things", "found", "each", "some", "many"] : List Str)) (sc := defScope (top 47)) (by decide +kernel)) (by decide)))))), hb⟩
/-! _law_lowest -/
def G__law_lowest : DS := (sSeq (sPar 2 3 (aCons (eBi dAbs (aCons (eV 0) aNil)) (aCons (eV 1) aNil)))
    (sSeq (sWhile (2 ^ 9000) (tV (eBin dGt (eV 3) (eC (.int 0)))) (sPar 2 3 (aCons (eV 3) (aCons (eBi dInt (aCons (eBin dMod (eV 2) (eV 3)) aNil)) aNil))))
    (sRet (eIf (tV (eBin dGt (eV 2) (eC (.int 0)))) (eTup (aCons (eBin dFdiv (eV 0) (eV 2)) (aCons (eBin dFdiv (eV 1) (eV 2)) aNil))) (eTup (aCons (eC (.int 0)) (aCons (eC (.int 1)) aNil)))))))
def D__law_lowest : FnSem := fnD 4 G__law_lowest
theorem sc__law_lowest : FnScope (["number", "scale", "one", "two"] : List Str) (["number", "scale"] : List Str) (defScope (top 48)) := ⟨rfl, rfl, rfl, by decide +kernel, rfl, by decide +kernel, by decide +kernel⟩
theorem w__law_lowest {f : Addr} {fd : FuncData} (Fu : Fun K "_law_lowest" "_law_lowest" (top 48) f fd) (M : GlM K mg) (hm : mg "_law_lowest" = some (.ref f)) (hb : ∀ n1 ∈ ([2] : List Nat), ∀ (s : Shared) (us ws : List Value), K.In s.heap → us.length = n1 → us.length + ws.length = 2 → BindsTo s fd ⟨us, (((["number", "scale"] : List Str) : List Str).drop n1).zip ws⟩ (((["number", "scale"] : List Str) : List Str).zip (us ++ ws)))  :
    FnT P w K mg base T 1 "_law_lowest" (["number", "scale"] : List Str) [2] D__law_lowest :=
  ⟨f, fd, hm, Fu.kp, fn_body Fu sc__law_lowest fun cdv hcd A outer s H E o => by
   unfold G__law_lowest
   exact (SSs.cons (SS.par (i := 2) (l := 3) o (SA.cons (SE.callB CallD.abs rfl M.b_abs (by decide +kernel) (SA.cons (SE.var 0) SA.nil)) (SA.cons (SE.var 1) SA.nil)))
    (SSs.cons (SS.while o (2 ^ 9000) (ST.cmp (OpD.gt o.hu) (SE.var 3) SE.int) (SSs.one (SS.par (i := 2) (l := 3) o (SA.cons (SE.var 3) (SA.cons (SE.callTy CallD.int rfl M.b_int (by decide +kernel) (SA.cons (SE.op OpD.mod (SE.var 2) (SE.var 3)) SA.nil)) SA.nil)))))
    (SSs.one (SS.ret (SE.ifx (ST.cmp (OpD.gt o.hu) (SE.var 2) SE.int) (SE.tup (SA.cons (SE.op OpD.fdiv (SE.var 0) (SE.var 2)) (SA.cons (SE.op OpD.fdiv (SE.var 1) (SE.var 2)) SA.nil))) (SE.tup (SA.cons SE.int (SA.cons SE.int SA.nil)))))))), hb⟩
/-! _law_plus -/
def G__law_plus : DS := (sRet (eCall D__law_lowest (xCons (xV (eBin dAdd (eBin dMul (eBin dIx (eV 0) (eC (.int 0))) (eBin dIx (eV 1) (eC (.int 1)))) (eBin dMul (eBin dIx (eV 1) (eC (.int 0))) (eBin dIx (eV 0) (eC (.int 1)))))) (xCons (xV (eBin dMul (eBin dIx (eV 0) (eC (.int 1))) (eBin dIx (eV 1) (eC (.int 1))))) xNil))))
def D__law_plus : FnSem := fnD 2 G__law_plus
theorem sc__law_plus : FnScope (["one", "two"] : List Str) (["one", "two"] : List Str) (defScope (top 49)) := ⟨rfl, rfl, rfl, by decide +kernel, rfl, by decide +kernel, by decide +kernel⟩
theorem w__law_plus {f : Addr} {fd : FuncData} (Fu : Fun K "_law_plus" "_law_plus" (top 49) f fd) (M : GlM K mg) (hm : mg "_law_plus" = some (.ref f)) (hb : ∀ n1 ∈ ([2] : List Nat), ∀ (s : Shared) (us ws : List Value), K.In s.heap → us.length = n1 → us.length + ws.length = 2 → BindsTo s fd ⟨us, (((["one", "two"] : List Str) : List Str).drop n1).zip ws⟩ (((["one", "two"] : List Str) : List Str).zip (us ++ ws))) (h__law_lowest : FnT P w K mg base T 1 "_law_lowest" (["number", "scale"] : List Str) [2] D__law_lowest) :
    FnT P w K mg base T 2 "_law_plus" (["one", "two"] : List Str) [2] D__law_plus :=
  ⟨f, fd, hm, Fu.kp, fn_body Fu sc__law_plus fun cdv hcd A outer s H E o => by
   unfold G__law_plus
   exact (SSs.one (SS.ret (SE.call h__law_lowest o (by decide) rfl (SXs.cons (SX.val (SE.op OpD.add (SE.op OpD.mul (SE.ix (SE.var 0) SE.int (fun _ _ => rfl)) (SE.ix (SE.var 1) SE.int (fun _ _ => rfl))) (SE.op OpD.mul (SE.ix (SE.var 1) SE.int (fun _ _ => rfl)) (SE.ix (SE.var 0) SE.int (fun _ _ => rfl))))) (SXs.cons (SX.val (SE.op OpD.mul (SE.ix (SE.var 0) SE.int (fun _ _ => rfl)) (SE.ix (SE.var 1) SE.int (fun _ _ => rfl)))) SXs.nil))))), hb⟩
/-! _law_minus -/
def G__law_minus : DS := (sRet (eCall D__law_lowest (xCons (xV (eBin dSub (eBin dMul (eBin dIx (eV 0) (eC (.int 0))) (eBin dIx (eV 1) (eC (.int 1)))) (eBin dMul (eBin dIx (eV 1) (eC (.int 0))) (eBin dIx (eV 0) (eC (.int 1)))))) (xCons (xV (eBin dMul (eBin dIx (eV 0) (eC (.int 1))) (eBin dIx (eV 1) (eC (.int 1))))) xNil))))
def D__law_minus : FnSem := fnD 2 G__law_minus
theorem sc__law_minus : FnScope (["one", "two"] : List Str) (["one", "two"] : List Str) (defScope (top 50)) := ⟨rfl, rfl, rfl, by decide +kernel, rfl, by decide +kernel, by decide +kernel⟩
theorem w__law_minus {f : Addr} {fd : FuncData} (Fu : Fun K "_law_minus" "_law_minus" (top 50) f fd) (M : GlM K mg) (hm : mg "_law_minus" = some (.ref f)) (hb : ∀ n1 ∈ ([2] : List Nat), ∀ (s : Shared) (us ws : List Value), K.In s.heap → us.length = n1 → us.length + ws.length = 2 → BindsTo s fd ⟨us, (((["one", "two"] : List Str) : List Str).drop n1).zip ws⟩ (((["one", "two"] : List Str) : List Str).zip (us ++ ws))) (h__law_lowest : FnT P w K mg base T 1 "_law_lowest" (["number", "scale"] : List Str) [2] D__law_lowest) :
    FnT P w K mg base T 2 "_law_minus" (["one", "two"] : List Str) [2] D__law_minus :=
  ⟨f, fd, hm, Fu.kp, fn_body Fu sc__law_minus fun cdv hcd A outer s H E o => by
   unfold G__law_minus
   exact (SSs.one (SS.ret (SE.call h__law_lowest o (by decide) rfl (SXs.cons (SX.val (SE.op OpD.sub (SE.op OpD.mul (SE.ix (SE.var 0) SE.int (fun _ _ => rfl)) (SE.ix (SE.var 1) SE.int (fun _ _ => rfl))) (SE.op OpD.mul (SE.ix (SE.var 1) SE.int (fun _ _ => rfl)) (SE.ix (SE.var 0) SE.int (fun _ _ => rfl))))) (SXs.cons (SX.val (SE.op OpD.mul (SE.ix (SE.var 0) SE.int (fun _ _ => rfl)) (SE.ix (SE.var 1) SE.int (fun _ _ => rfl)))) SXs.nil))))), hb⟩
/-! _law_wind -/
def G__law_wind : DS := (sSeq (sAsg (eTup (aCons (eTup (aCons (eC (.int 1)) (aCons (eC (.int 0)) (aCons (eC (.int 1)) aNil)))) (aCons (eTup (aCons (eC (.int 0)) (aCons (eC (.int 1)) (aCons (eC (.int 1)) aNil)))) (aCons (eTup (aCons (eBin dSub (eC (.int 0)) (eC (.int 1))) (aCons (eC (.int 0)) (aCons (eC (.int 1)) aNil)))) (aCons (eTup (aCons (eC (.int 0)) (aCons (eBin dSub (eC (.int 0)) (eC (.int 1))) (aCons (eC (.int 1)) aNil)))) (aCons (eTup (aCons (eC (.int 3)) (aCons (eC (.int 4)) (aCons (eC (.int 5)) aNil)))) (aCons (eTup (aCons (eBin dSub (eC (.int 0)) (eC (.int 4))) (aCons (eC (.int 3)) (aCons (eC (.int 5)) aNil)))) (aCons (eTup (aCons (eC (.int 5)) (aCons (eBin dSub (eC (.int 0)) (eC (.int 12))) (aCons (eC (.int 13)) aNil)))) aNil)))))))) (gV 1))
    (sRet (eCall D__law_of (xCons (xO 0) (xCons (xV (eV 1)) xNil)))))
def D__law_wind : FnSem := fnD 2 G__law_wind
theorem sc__law_wind : FnScope (["well", "some"] : List Str) (["well"] : List Str) (defScope (top 51)) := ⟨rfl, rfl, rfl, by decide +kernel, rfl, by decide +kernel, by decide +kernel⟩
theorem w__law_wind {f : Addr} {fd : FuncData} (Fu : Fun K "_law_wind" "_law_wind" (top 51) f fd) (M : GlM K mg) (hm : mg "_law_wind" = some (.ref f)) (hb : ∀ n1 ∈ ([1] : List Nat), ∀ (s : Shared) (us ws : List Value), K.In s.heap → us.length = n1 → us.length + ws.length = 1 → BindsTo s fd ⟨us, (((["well"] : List Str) : List Str).drop n1).zip ws⟩ (((["well"] : List Str) : List Str).zip (us ++ ws))) (h__law_of : FnT P w K mg base T 2 "_law_of" (["well", "some"] : List Str) [2] D__law_of) :
    FnT P w K mg base T 3 "_law_wind" (["well"] : List Str) [1] D__law_wind :=
  ⟨f, fd, hm, Fu.kp, fn_body Fu sc__law_wind fun cdv hcd A outer s H E o => by
   unfold G__law_wind
   exact (SSs.cons (SS.asg (SE.tup (SA.cons (SE.tup (SA.cons SE.int (SA.cons SE.int (SA.cons SE.int SA.nil)))) (SA.cons (SE.tup (SA.cons SE.int (SA.cons SE.int (SA.cons SE.int SA.nil)))) (SA.cons (SE.tup (SA.cons (SE.op OpD.sub SE.int SE.int) (SA.cons SE.int (SA.cons SE.int SA.nil)))) (SA.cons (SE.tup (SA.cons SE.int (SA.cons (SE.op OpD.sub SE.int SE.int) (SA.cons SE.int SA.nil)))) (SA.cons (SE.tup (SA.cons SE.int (SA.cons SE.int (SA.cons SE.int SA.nil)))) (SA.cons (SE.tup (SA.cons (SE.op OpD.sub SE.int SE.int) (SA.cons SE.int (SA.cons SE.int SA.nil)))) (SA.cons (SE.tup (SA.cons SE.int (SA.cons (SE.op OpD.sub SE.int SE.int) (SA.cons SE.int SA.nil)))) SA.nil)))))))) (SG.name o 1))
    (SSs.one (SS.ret (SE.call h__law_of o (by decide) rfl (SXs.cons (SX.obj 0) (SXs.cons (SX.val (SE.var 1)) SXs.nil)))))), hb⟩
/-! _law_sterns -/
def G__law_sterns : DS := (sSeq (sAsg (eCall D__law_lowest (xCons (xV (eBin dSub (eCall D__law_draw (xCons (xO 0) (xCons (xV (eC (.int 99))) xNil))) (eC (.int 40)))) (xCons (xV (eBin dAdd (eC (.int 1)) (eCall D__law_draw (xCons (xO 0) (xCons (xV (eC (.int 3))) xNil))))) xNil))) (gV 1))
    (sSeq (sPar 2 3 (aCons (eTup (aCons (eCall D__law_draw (xCons (xO 0) (xCons (xV (eC (.int 30))) xNil))) (aCons (eC (.int 1)) aNil))) (aCons (eTup (aCons (eBin dAdd (eC (.int 1)) (eCall D__law_draw (xCons (xO 0) (xCons (xV (eC (.int 30))) xNil)))) (aCons (eC (.int 1)) aNil))) aNil)))
    (sSeq (sPar 4 5 (aCons (eTup aNil) (aCons (eCall D__law_wind (xCons (xO 0) xNil)) aNil)))
    (sSeq (sAsg (eBin dEq (eCall D__law_draw (xCons (xO 0) (xCons (xV (eC (.int 5))) xNil))) (eC (.int 0))) (gV 6))
    (sSeq (sFor (iRng1 (eBin dAdd (eC (.int 1)) (eCall D__law_draw (xCons (xO 0) (xCons (xV (eC (.int 4))) xNil))))) (gV 7) (sSeq (sAsg (eIf (tV (eV 6)) (eV 5) (eCall D__law_wind (xCons (xO 0) xNil))) (gV 8))
    (sSeq (sAsg (eCall D__law_plus (xCons (xV (eV 1)) (xCons (xV (eCall D__law_lowest (xCons (xV (eBin dMul (eBin dIx (eV 3) (eC (.int 0))) (eBin dIx (eV 8) (eC (.int 0))))) (xCons (xV (eBin dMul (eBin dIx (eV 3) (eC (.int 1))) (eBin dIx (eV 8) (eC (.int 2))))) xNil)))) xNil))) (gV 9))
    (sSeq (sAsg (eCall D__law_plus (xCons (xV (eV 2)) (xCons (xV (eCall D__law_lowest (xCons (xV (eBin dMul (eBin dIx (eV 3) (eC (.int 0))) (eBin dIx (eV 8) (eC (.int 1))))) (xCons (xV (eBin dMul (eBin dIx (eV 3) (eC (.int 1))) (eBin dIx (eV 8) (eC (.int 2))))) xNil)))) xNil))) (gV 10))
    (sSeq (sAsg (eIf (tV (eBin dEq (eCall D__law_draw (xCons (xO 0) (xCons (xV (eC (.int 7))) xNil))) (eC (.int 0)))) (eTup (aCons (eC (.int 1)) (aCons (eC (.int 2)) aNil))) (eTup (aCons (eC (.int 0)) (aCons (eC (.int 1)) aNil)))) (gV 11))
    (sAsg (eBin dAdd (eV 4) (eTup (aCons (eTup (aCons (eV 8) (aCons (eCall D__law_plus (xCons (xV (eV 9)) (xCons (xV (eV 11)) xNil))) (aCons (eV 10) aNil)))) aNil))) (gV 4)))))))
    (sRet (eV 4)))))))
def D__law_sterns : FnSem := fnD 12 G__law_sterns
theorem sc__law_sterns : FnScope (["well", "x", "y", "reach", "found", "one", "is_one", "lap", "wind", "far", "high", "off"] : List Str) (["well"] : List Str) (defScope (top 52)) := ⟨rfl, rfl, rfl, by decide +kernel, rfl, by decide +kernel, by decide +kernel⟩
theorem w__law_sterns {f : Addr} {fd : FuncData} (Fu : Fun K "_law_sterns" "_law_sterns" (top 52) f fd) (M : GlM K mg) (hm : mg "_law_sterns" = some (.ref f)) (hb : ∀ n1 ∈ ([1] : List Nat), ∀ (s : Shared) (us ws : List Value), K.In s.heap → us.length = n1 → us.length + ws.length = 1 → BindsTo s fd ⟨us, (((["well"] : List Str) : List Str).drop n1).zip ws⟩ (((["well"] : List Str) : List Str).zip (us ++ ws))) (h__law_draw : FnT P w K mg base T 1 "_law_draw" (["well", "limit"] : List Str) [2] D__law_draw) (h__law_lowest : FnT P w K mg base T 1 "_law_lowest" (["number", "scale"] : List Str) [2] D__law_lowest) (h__law_plus : FnT P w K mg base T 2 "_law_plus" (["one", "two"] : List Str) [2] D__law_plus) (h__law_wind : FnT P w K mg base T 3 "_law_wind" (["well"] : List Str) [1] D__law_wind) :
    FnT P w K mg base T 4 "_law_sterns" (["well"] : List Str) [1] D__law_sterns :=
  ⟨f, fd, hm, Fu.kp, fn_body Fu sc__law_sterns fun cdv hcd A outer s H E o => by
   unfold G__law_sterns
   exact (SSs.cons (SS.asg (SE.call h__law_lowest o (by decide) rfl (SXs.cons (SX.val (SE.op OpD.sub (SE.call h__law_draw o (by decide) rfl (SXs.cons (SX.obj 0) (SXs.cons (SX.val SE.int) SXs.nil))) SE.int)) (SXs.cons (SX.val (SE.op OpD.add SE.int (SE.call h__law_draw o (by decide) rfl (SXs.cons (SX.obj 0) (SXs.cons (SX.val SE.int) SXs.nil))))) SXs.nil))) (SG.name o 1))
    (SSs.cons (SS.par (i := 2) (l := 3) o (SA.cons (SE.tup (SA.cons (SE.call h__law_draw o (by decide) rfl (SXs.cons (SX.obj 0) (SXs.cons (SX.val SE.int) SXs.nil))) (SA.cons SE.int SA.nil))) (SA.cons (SE.tup (SA.cons (SE.op OpD.add SE.int (SE.call h__law_draw o (by decide) rfl (SXs.cons (SX.obj 0) (SXs.cons (SX.val SE.int) SXs.nil)))) (SA.cons SE.int SA.nil))) SA.nil)))
    (SSs.cons (SS.par (i := 4) (l := 5) o (SA.cons (SE.tup SA.nil) (SA.cons (SE.call h__law_wind o (by decide) rfl (SXs.cons (SX.obj 0) SXs.nil)) SA.nil)))
    (SSs.cons (SS.asg (SE.cmp (OpD.eq o.hu) (SE.call h__law_draw o (by decide) rfl (SXs.cons (SX.obj 0) (SXs.cons (SX.val SE.int) SXs.nil))) SE.int) (SG.name o 6))
    (SSs.cons (SS.for o (SI.range1 rfl M.b_range (SE.op OpD.add SE.int (SE.call h__law_draw o (by decide) rfl (SXs.cons (SX.obj 0) (SXs.cons (SX.val SE.int) SXs.nil))))) (SG.name o 7) (SSs.cons (SS.asg (SE.ifx (ST.val (SE.var 6)) (SE.var 5) (SE.call h__law_wind o (by decide) rfl (SXs.cons (SX.obj 0) SXs.nil))) (SG.name o 8))
    (SSs.cons (SS.asg (SE.call h__law_plus o (by decide) rfl (SXs.cons (SX.val (SE.var 1)) (SXs.cons (SX.val (SE.call h__law_lowest o (by decide) rfl (SXs.cons (SX.val (SE.op OpD.mul (SE.ix (SE.var 3) SE.int (fun _ _ => rfl)) (SE.ix (SE.var 8) SE.int (fun _ _ => rfl)))) (SXs.cons (SX.val (SE.op OpD.mul (SE.ix (SE.var 3) SE.int (fun _ _ => rfl)) (SE.ix (SE.var 8) SE.int (fun _ _ => rfl)))) SXs.nil)))) SXs.nil))) (SG.name o 9))
    (SSs.cons (SS.asg (SE.call h__law_plus o (by decide) rfl (SXs.cons (SX.val (SE.var 2)) (SXs.cons (SX.val (SE.call h__law_lowest o (by decide) rfl (SXs.cons (SX.val (SE.op OpD.mul (SE.ix (SE.var 3) SE.int (fun _ _ => rfl)) (SE.ix (SE.var 8) SE.int (fun _ _ => rfl)))) (SXs.cons (SX.val (SE.op OpD.mul (SE.ix (SE.var 3) SE.int (fun _ _ => rfl)) (SE.ix (SE.var 8) SE.int (fun _ _ => rfl)))) SXs.nil)))) SXs.nil))) (SG.name o 10))
    (SSs.cons (SS.asg (SE.ifx (ST.cmp (OpD.eq o.hu) (SE.call h__law_draw o (by decide) rfl (SXs.cons (SX.obj 0) (SXs.cons (SX.val SE.int) SXs.nil))) SE.int) (SE.tup (SA.cons SE.int (SA.cons SE.int SA.nil))) (SE.tup (SA.cons SE.int (SA.cons SE.int SA.nil)))) (SG.name o 11))
    (SSs.one (SS.asg (SE.op OpD.add (SE.var 4) (SE.tup (SA.cons (SE.tup (SA.cons (SE.var 8) (SA.cons (SE.call h__law_plus o (by decide) rfl (SXs.cons (SX.val (SE.var 9)) (SXs.cons (SX.val (SE.var 11)) SXs.nil))) (SA.cons (SE.var 10) SA.nil)))) SA.nil))) (SG.name o 4))))))))
    (SSs.one (SS.ret (SE.var 4)))))))), hb⟩
/-! _law_stern_fits -/
def G__law_stern_fits : DS := (sSeq (sIf (tV (eBin dLe (eBin dIx (eV 3) (eC (.int 0))) (eC (.int 0)))) (sRet (eC (.bool false))) sNil)
    (sSeq (sFor (iSeq (eV 0)) (gTup' 3 (gCons' (gV 4) (gCons' (gV 5) (gCons' (gV 6) gNil')))) (sSeq (sIf (tV (eBin dNe (eCall D__law_plus (xCons (xV (eV 1)) (xCons (xV (eCall D__law_lowest (xCons (xV (eBin dMul (eBin dIx (eV 3) (eC (.int 0))) (eBin dIx (eV 4) (eC (.int 0))))) (xCons (xV (eBin dMul (eBin dIx (eV 3) (eC (.int 1))) (eBin dIx (eV 4) (eC (.int 2))))) xNil)))) xNil))) (eV 5))) (sRet (eC (.bool false))) sNil)
    (sIf (tV (eBin dNe (eCall D__law_plus (xCons (xV (eV 2)) (xCons (xV (eCall D__law_lowest (xCons (xV (eBin dMul (eBin dIx (eV 3) (eC (.int 0))) (eBin dIx (eV 4) (eC (.int 1))))) (xCons (xV (eBin dMul (eBin dIx (eV 3) (eC (.int 1))) (eBin dIx (eV 4) (eC (.int 2))))) xNil)))) xNil))) (eV 6))) (sRet (eC (.bool false))) sNil)))
    (sRet (eC (.bool true)))))
def D__law_stern_fits : FnSem := fnD 7 G__law_stern_fits
theorem sc__law_stern_fits : FnScope (["sterns", "x", "y", "reach", "wind", "far", "high"] : List Str) (["sterns", "x", "y", "reach"] : List Str) (defScope (top 53)) := ⟨rfl, rfl, rfl, by decide +kernel, rfl, by decide +kernel, by decide +kernel⟩
theorem w__law_stern_fits {f : Addr} {fd : FuncData} (Fu : Fun K "_law_stern_fits" "_law_stern_fits" (top 53) f fd) (M : GlM K mg) (hm : mg "_law_stern_fits" = some (.ref f)) (hb : ∀ n1 ∈ ([4] : List Nat), ∀ (s : Shared) (us ws : List Value), K.In s.heap → us.length = n1 → us.length + ws.length = 4 → BindsTo s fd ⟨us, (((["sterns", "x", "y", "reach"] : List Str) : List Str).drop n1).zip ws⟩ (((["sterns", "x", "y", "reach"] : List Str) : List Str).zip (us ++ ws))) (h__law_lowest : FnT P w K mg base T 1 "_law_lowest" (["number", "scale"] : List Str) [2] D__law_lowest) (h__law_plus : FnT P w K mg base T 2 "_law_plus" (["one", "two"] : List Str) [2] D__law_plus) :
    FnT P w K mg base T 3 "_law_stern_fits" (["sterns", "x", "y", "reach"] : List Str) [4] D__law_stern_fits :=
  ⟨f, fd, hm, Fu.kp, fn_body Fu sc__law_stern_fits fun cdv hcd A outer s H E o => by
   unfold G__law_stern_fits
   exact (SSs.cons (SS.ife (ST.cmp (OpD.le o.hu) (SE.ix (SE.var 3) SE.int (fun _ _ => rfl)) SE.int) (SSs.one (SS.ret SE.bl)) SSs.nil)
    (SSs.cons (SS.for o (SI.seq (SE.var 0)) (SG.tup o (SGs.cons (SG.name o 4) (SGs.cons (SG.name o 5) (SGs.cons (SG.name o 6) SGs.nil)))) (SSs.cons (SS.ife (ST.cmp (OpD.ne o.hu) (SE.call h__law_plus o (by decide) rfl (SXs.cons (SX.val (SE.var 1)) (SXs.cons (SX.val (SE.call h__law_lowest o (by decide) rfl (SXs.cons (SX.val (SE.op OpD.mul (SE.ix (SE.var 3) SE.int (fun _ _ => rfl)) (SE.ix (SE.var 4) SE.int (fun _ _ => rfl)))) (SXs.cons (SX.val (SE.op OpD.mul (SE.ix (SE.var 3) SE.int (fun _ _ => rfl)) (SE.ix (SE.var 4) SE.int (fun _ _ => rfl)))) SXs.nil)))) SXs.nil))) (SE.var 5)) (SSs.one (SS.ret SE.bl)) SSs.nil)
    (SSs.one (SS.ife (ST.cmp (OpD.ne o.hu) (SE.call h__law_plus o (by decide) rfl (SXs.cons (SX.val (SE.var 2)) (SXs.cons (SX.val (SE.call h__law_lowest o (by decide) rfl (SXs.cons (SX.val (SE.op OpD.mul (SE.ix (SE.var 3) SE.int (fun _ _ => rfl)) (SE.ix (SE.var 4) SE.int (fun _ _ => rfl)))) (SXs.cons (SX.val (SE.op OpD.mul (SE.ix (SE.var 3) SE.int (fun _ _ => rfl)) (SE.ix (SE.var 4) SE.int (fun _ _ => rfl)))) SXs.nil)))) SXs.nil))) (SE.var 6)) (SSs.one (SS.ret SE.bl)) SSs.nil))))
    (SSs.one (SS.ret SE.bl)))), hb⟩
/-! _law_stern_told -/
def G__law_stern_told : DS := (sSeq (sAsg (eBin dIx (eV 0) (eC (.int 0))) (gTup' 3 (gCons' (gV 1) (gCons' (gV 2) (gCons' (gV 3) gNil')))))
    (sSeq (sAsg (eLc (iSeq (eV 0)) (gV 5) (tV (eBin dNe (eBin dIx (eV 5) (eC (.int 0))) (eV 1))) (eV 5) [5]) (gV 4))
    (sSeq (sIf (tV (eBin dEq (eV 4) (eLst aNil))) (sRet (eTup (aCons (eBin dEq (eLc (iSeq (eV 0)) (gV 5) (tV (eBin dNe (eV 5) (eBin dIx (eV 0) (eC (.int 0))))) (eV 5) [5]) (eLst aNil)) (aCons (eC .none) aNil)))) sNil)
    (sSeq (sAsg (eBin dIx (eV 4) (eC (.int 0))) (gTup' 3 (gCons' (gV 6) (gCons' (gV 7) (gCons' (gV 8) gNil')))))
    (sSeq (sAsg (eCall D__law_minus (xCons (xV (eTup (aCons (eBin dIx (eV 1) (eC (.int 0))) (aCons (eBin dIx (eV 1) (eC (.int 2))) aNil)))) (xCons (xV (eTup (aCons (eBin dIx (eV 6) (eC (.int 0))) (aCons (eBin dIx (eV 6) (eC (.int 2))) aNil)))) xNil))) (gV 9))
    (sSeq (sAsg (eCall D__law_minus (xCons (xV (eTup (aCons (eBin dIx (eV 1) (eC (.int 1))) (aCons (eBin dIx (eV 1) (eC (.int 2))) aNil)))) (xCons (xV (eTup (aCons (eBin dIx (eV 6) (eC (.int 1))) (aCons (eBin dIx (eV 6) (eC (.int 2))) aNil)))) xNil))) (gV 10))
    (sSeq (sAsg (eIf (tV (eBin dNe (eBin dIx (eV 9) (eC (.int 0))) (eC (.int 0)))) (eTup (aCons (eCall D__law_minus (xCons (xV (eV 2)) (xCons (xV (eV 7)) xNil))) (aCons (eV 9) aNil))) (eTup (aCons (eCall D__law_minus (xCons (xV (eV 3)) (xCons (xV (eV 8)) xNil))) (aCons (eV 10) aNil)))) (gTup' 2 (gCons' (gV 11) (gCons' (gV 12) gNil'))))
    (sSeq (sAsg (eIf (tV (eBin dGt (eBin dIx (eV 12) (eC (.int 0))) (eC (.int 0)))) (eC (.int 1)) (eBin dSub (eC (.int 0)) (eC (.int 1)))) (gV 13))
    (sSeq (sAsg (eCall D__law_lowest (xCons (xV (eBin dMul (eBin dMul (eV 13) (eBin dIx (eV 11) (eC (.int 0)))) (eBin dIx (eV 12) (eC (.int 1))))) (xCons (xV (eBin dMul (eBin dMul (eV 13) (eBin dIx (eV 11) (eC (.int 1)))) (eBin dIx (eV 12) (eC (.int 0))))) xNil))) (gV 14))
    (sSeq (sAsg (eCall D__law_minus (xCons (xV (eV 2)) (xCons (xV (eCall D__law_lowest (xCons (xV (eBin dMul (eBin dIx (eV 14) (eC (.int 0))) (eBin dIx (eV 1) (eC (.int 0))))) (xCons (xV (eBin dMul (eBin dIx (eV 14) (eC (.int 1))) (eBin dIx (eV 1) (eC (.int 2))))) xNil)))) xNil))) (gV 15))
    (sSeq (sAsg (eCall D__law_minus (xCons (xV (eV 3)) (xCons (xV (eCall D__law_lowest (xCons (xV (eBin dMul (eBin dIx (eV 14) (eC (.int 0))) (eBin dIx (eV 1) (eC (.int 1))))) (xCons (xV (eBin dMul (eBin dIx (eV 14) (eC (.int 1))) (eBin dIx (eV 1) (eC (.int 2))))) xNil)))) xNil))) (gV 16))
    (sSeq (sAsg (eCall D__law_stern_fits (xCons (xV (eV 0)) (xCons (xV (eV 15)) (xCons (xV (eV 16)) (xCons (xV (eV 14)) xNil))))) (gV 17))
    (sRet (eTup (aCons (eV 17) (aCons (eIf (tV (eV 17)) (eTup (aCons (eV 15) (aCons (eV 16) (aCons (eV 14) aNil)))) (eC .none)) aNil))))))))))))))))
def D__law_stern_told : FnSem := fnD 18 G__law_stern_told
theorem sc__law_stern_told : FnScope (["sterns", "wind", "far", "high", "others", "row", "turn", "wide", "tall", "east", "north", "gap", "by", "sign", "reach", "x", "y", "fits"] : List Str) (["sterns"] : List Str) (defScope (top 54)) := ⟨rfl, rfl, rfl, by decide +kernel, rfl, by decide +kernel, by decide +kernel⟩
theorem w__law_stern_told {f : Addr} {fd : FuncData} (Fu : Fun K "_law_stern_told" "_law_stern_told" (top 54) f fd) (M : GlM K mg) (hm : mg "_law_stern_told" = some (.ref f)) (hb : ∀ n1 ∈ ([1] : List Nat), ∀ (s : Shared) (us ws : List Value), K.In s.heap → us.length = n1 → us.length + ws.length = 1 → BindsTo s fd ⟨us, (((["sterns"] : List Str) : List Str).drop n1).zip ws⟩ (((["sterns"] : List Str) : List Str).zip (us ++ ws))) (h__law_lowest : FnT P w K mg base T 1 "_law_lowest" (["number", "scale"] : List Str) [2] D__law_lowest) (h__law_minus : FnT P w K mg base T 2 "_law_minus" (["one", "two"] : List Str) [2] D__law_minus) (h__law_stern_fits : FnT P w K mg base T 3 "_law_stern_fits" (["sterns", "x", "y", "reach"] : List Str) [4] D__law_stern_fits) :
    FnT P w K mg base T 4 "_law_stern_told" (["sterns"] : List Str) [1] D__law_stern_told :=
  ⟨f, fd, hm, Fu.kp, fn_body Fu sc__law_stern_told fun cdv hcd A outer s H E o => by
   unfold G__law_stern_told
   exact (SSs.cons (SS.asg (SE.ix (SE.var 0) SE.int (fun _ _ => rfl)) (SG.tup o (SGs.cons (SG.name o 1) (SGs.cons (SG.name o 2) (SGs.cons (SG.name o 3) SGs.nil)))))
    (SSs.cons (SS.setLc (i := 4) o (SI.seq (SE.var 0)) (fun s1 H1 C1 cl1 fp1 => (SG.name (o.blk s1 H1 _ C1 cl1 fp1) 5)) (fun s1 H1 C1 cl1 fp1 => (STs.one (ST.cmp (OpD.ne (o.blk s1 H1 _ C1 cl1 fp1).hu) (SE.ix (SE.var 5) SE.int (fun _ _ => rfl)) (SE.var 1)))) (fun s1 H1 C1 cl1 fp1 => (SE.var 5)) (own := [("row", 5)]) (blk_ok (N := (["sterns", "wind", "far", "high", "others", "row", "turn", "wide", "tall", "east", "north", "gap", "by", "sign", "reach", "x", "y", "fits"] : List Str)) (sc := defScope (top 54)) (by decide +kernel)) (by decide) rfl)
    (SSs.cons (SS.ife (ST.cmp (OpD.eq o.hu) (SE.var 4) (SE.lst SA.nil)) (SSs.one (SS.ret (SE.tup (SA.cons (SE.cmp (OpD.eq o.hu) (SE.lc o (SI.seq (SE.var 0)) (fun s2 H2 C2 cl2 fp2 => (SG.name (o.blk s2 H2 _ C2 cl2 fp2) 5)) (fun s2 H2 C2 cl2 fp2 => (STs.one (ST.cmp (OpD.ne (o.blk s2 H2 _ C2 cl2 fp2).hu) (SE.var 5) (SE.ix (SE.var 0) SE.int (fun _ _ => rfl))))) (fun s2 H2 C2 cl2 fp2 => (SE.var 5)) (own := [("row", 5)]) (blk_ok (N := (["sterns", "wind", "far", "high", "others", "row", "turn", "wide", "tall", "east", "north", "gap", "by", "sign", "reach", "x", "y", "fits"] : List Str)) (sc := defScope (top 54)) (by decide +kernel)) (by decide)) (SE.lst SA.nil)) (SA.cons SE.non SA.nil))))) SSs.nil)
    (SSs.cons (SS.asg (SE.ix (SE.var 4) SE.int (fun _ _ => rfl)) (SG.tup o (SGs.cons (SG.name o 6) (SGs.cons (SG.name o 7) (SGs.cons (SG.name o 8) SGs.nil)))))
    (SSs.cons (SS.asg (SE.call h__law_minus o (by decide) rfl (SXs.cons (SX.val (SE.tup (SA.cons (SE.ix (SE.var 1) SE.int (fun _ _ => rfl)) (SA.cons (SE.ix (SE.var 1) SE.int (fun _ _ => rfl)) SA.nil)))) (SXs.cons (SX.val (SE.tup (SA.cons (SE.ix (SE.var 6) SE.int (fun _ _ => rfl)) (SA.cons (SE.ix (SE.var 6) SE.int (fun _ _ => rfl)) SA.nil)))) SXs.nil))) (SG.name o 9))
    (SSs.cons (SS.asg (SE.call h__law_minus o (by decide) rfl (SXs.cons (SX.val (SE.tup (SA.cons (SE.ix (SE.var 1) SE.int (fun _ _ => rfl)) (SA.cons (SE.ix (SE.var 1) SE.int (fun _ _ => rfl)) SA.nil)))) (SXs.cons (SX.val (SE.tup (SA.cons (SE.ix (SE.var 6) SE.int (fun _ _ => rfl)) (SA.cons (SE.ix (SE.var 6) SE.int (fun _ _ => rfl)) SA.nil)))) SXs.nil))) (SG.name o 10))
    (SSs.cons (SS.asg (SE.ifx (ST.cmp (OpD.ne o.hu) (SE.ix (SE.var 9) SE.int (fun _ _ => rfl)) SE.int) (SE.tup (SA.cons (SE.call h__law_minus o (by decide) rfl (SXs.cons (SX.val (SE.var 2)) (SXs.cons (SX.val (SE.var 7)) SXs.nil))) (SA.cons (SE.var 9) SA.nil))) (SE.tup (SA.cons (SE.call h__law_minus o (by decide) rfl (SXs.cons (SX.val (SE.var 3)) (SXs.cons (SX.val (SE.var 8)) SXs.nil))) (SA.cons (SE.var 10) SA.nil)))) (SG.tup o (SGs.cons (SG.name o 11) (SGs.cons (SG.name o 12) SGs.nil))))
    (SSs.cons (SS.asg (SE.ifx (ST.cmp (OpD.gt o.hu) (SE.ix (SE.var 12) SE.int (fun _ _ => rfl)) SE.int) SE.int (SE.op OpD.sub SE.int SE.int)) (SG.name o 13))
    (SSs.cons (SS.asg (SE.call h__law_lowest o (by decide) rfl (SXs.cons (SX.val (SE.op OpD.mul (SE.op OpD.mul (SE.var 13) (SE.ix (SE.var 11) SE.int (fun _ _ => rfl))) (SE.ix (SE.var 12) SE.int (fun _ _ => rfl)))) (SXs.cons (SX.val (SE.op OpD.mul (SE.op OpD.mul (SE.var 13) (SE.ix (SE.var 11) SE.int (fun _ _ => rfl))) (SE.ix (SE.var 12) SE.int (fun _ _ => rfl)))) SXs.nil))) (SG.name o 14))
    (SSs.cons (SS.asg (SE.call h__law_minus o (by decide) rfl (SXs.cons (SX.val (SE.var 2)) (SXs.cons (SX.val (SE.call h__law_lowest o (by decide) rfl (SXs.cons (SX.val (SE.op OpD.mul (SE.ix (SE.var 14) SE.int (fun _ _ => rfl)) (SE.ix (SE.var 1) SE.int (fun _ _ => rfl)))) (SXs.cons (SX.val (SE.op OpD.mul (SE.ix (SE.var 14) SE.int (fun _ _ => rfl)) (SE.ix (SE.var 1) SE.int (fun _ _ => rfl)))) SXs.nil)))) SXs.nil))) (SG.name o 15))
    (SSs.cons (SS.asg (SE.call h__law_minus o (by decide) rfl (SXs.cons (SX.val (SE.var 3)) (SXs.cons (SX.val (SE.call h__law_lowest o (by decide) rfl (SXs.cons (SX.val (SE.op OpD.mul (SE.ix (SE.var 14) SE.int (fun _ _ => rfl)) (SE.ix (SE.var 1) SE.int (fun _ _ => rfl)))) (SXs.cons (SX.val (SE.op OpD.mul (SE.ix (SE.var 14) SE.int (fun _ _ => rfl)) (SE.ix (SE.var 1) SE.int (fun _ _ => rfl)))) SXs.nil)))) SXs.nil))) (SG.name o 16))
    (SSs.cons (SS.asg (SE.call h__law_stern_fits o (by decide) rfl (SXs.cons (SX.val (SE.var 0)) (SXs.cons (SX.val (SE.var 15)) (SXs.cons (SX.val (SE.var 16)) (SXs.cons (SX.val (SE.var 14)) SXs.nil))))) (SG.name o 17))
    (SSs.one (SS.ret (SE.tup (SA.cons (SE.var 17) (SA.cons (SE.ifx (ST.val (SE.var 17)) (SE.tup (SA.cons (SE.var 15) (SA.cons (SE.var 16) (SA.cons (SE.var 14) SA.nil)))) SE.non) SA.nil))))))))))))))))), hb⟩
/-! _law_is_none -/
def G__law_is_none (G : FnSem) : DS := (sSeq (sTryIs 0 0 1 G "NoFit")
    (sRet (eC (.bool false))))
def D__law_is_none : FnSem → FnSem := fnDH 2 G__law_is_none
theorem sc__law_is_none : FnScope (["act", "e"] : List Str) (["act"] : List Str) (defScope (top 55)) := ⟨rfl, rfl, rfl, by decide +kernel, rfl, by decide +kernel, by decide +kernel⟩
theorem w__law_is_none {f : Addr} {fd : FuncData} (Fu : Fun K "_law_is_none" "_law_is_none" (top 55) f fd) (M : GlM K mg) (hm : mg "_law_is_none" = some (.ref f)) (hb : ∀ (s : Shared) (us : List Value), K.In s.heap → us.length = 1 → BindsTo s fd ⟨us, []⟩ ((["act"] : List Str).zip us))  :
    FnH P w K mg base T 16 "_law_is_none" (["act"] : List Str) 15 0 D__law_is_none :=
  fnH_body Fu hm sc__law_is_none hb fun cdv hcd A outer s H E cf cfx bp G o cx => by
   unfold G__law_is_none
   exact (SSs.cons (SS.tryIs 0 1 cx o (by decide) ⟨M.x_NoFit⟩ rfl rfl rfl (Or.inl rfl) (by decide) (by decide) rfl rfl (by decide) (by decide) rfl (by decide) rfl (by decide) rfl M.b_isinstance rfl M.b_ValueError rfl rfl rfl rfl rfl rfl rfl)
    (SSs.one (SS.ret SE.bl)))
/-! _law_right -/
def G__law_right : DS := (sSeq (sAsg (eCall D__law_sterns (xCons (xO 0) xNil)) (gV 1))
    (sSeq (sAsg (eCall D__law_stern_told (xCons (xV (eV 1)) xNil)) (gTup' 2 (gCons' (gV 2) (gCons' (gV 3) gNil'))))
    (sSeq (sIf (tV (eBin dNe (eBi dRepr (aCons (eLst (aCons (eCall D_do_fit (xCons (xV (eV 1)) xNil)) (aCons (eCall D_do_fit (xCons (xV (eV 1)) xNil)) aNil))) aNil)) (eBi dRepr (aCons (eLst (aCons (eV 2) (aCons (eV 2) aNil))) aNil)))) (sRet (eC (.bool false))) sNil)
    (sSeq (sNew 4 (aLen aNil))
    (sSeq (sFor (iSeq (eCall D__law_sets (xCons (xV (eTupR (eBi dLen (aCons (eV 1) aNil)))) xNil))) (gV 5) (sIf (tAnd (tV (eBin dNe (eV 5) (eTup aNil))) (tNot (tV (eBin dIx (eCall D__law_stern_told (xCons (xV (eLc (iSeq (eV 5)) (gV 6) tTrue (eBin dIx (eV 1) (eV 6)) [6])) xNil)) (eC (.int 0)))))) (sApp 4 (eV 5)) sNil))
    (sFrz 4 (sSeq (sAsg (eIf (tV (eBin dNe (eV 4) (eLst aNil))) (eBin dIx (eV 4) (eC (.int 0))) (eC .none)) (gV 7))
    (sSeq (sIf (tOr (tV (eBin dNe (eBin dEq (eV 4) (eLst aNil)) (eV 2))) (tAnd (tV (eBin dNe (eV 4) (eLst aNil))) (tV (eBin dGt (eBi dLen (aCons (eBin dIx (eV 4) (eC (.int 0))) aNil)) (eC (.int 3)))))) (sRet (eC (.bool false))) sNil)
    (sSeq (sIf (tNot (tV (eCall (D__law_same 8) (xCons (xV (eTup (aCons (eCall D_stern_bar (xCons (xV (eV 1)) xNil)) (aCons (eCall D_stern_bar (xCons (xV (eV 1)) xNil)) aNil)))) (xCons (xV (eTup (aCons (eV 7) (aCons (eV 7) aNil)))) xNil))))) (sRet (eC (.bool false))) sNil)
    (sSeq (sIf (tNot (tV (eV 2))) (sSeq (sNew 8 (aLen (aCons (eCallL D__law_is_none 1 [1] (eCall D_told_place (xCons (xV (eV 0)) xNil)) xNil) aNil)))
    (sSeq (sApp 8 (eCallL D__law_is_none 1 [1] (eCall D_told_reach (xCons (xV (eV 0)) xNil)) xNil))
    (sRet (eBinS dEq (xO 8) (xV (eLst (aCons (eC (.bool true)) (aCons (eC (.bool true)) aNil)))))))) sNil)
    (sSeq (sAsg (eIf (tV (eBin dIsNot (eV 3) (eC .none))) (eTup (aCons (eSl (eV 3) oNone (oSome (eC (.int 2)))) (aCons (eBin dIx (eV 3) (eC (.int 2))) aNil))) (eTup (aCons (eC .none) (aCons (eC .none) aNil)))) (gTup' 2 (gCons' (gV 9) (gCons' (gV 10) gNil'))))
    (sSeq (sIf (tNot (tV (eCall (D__law_same 8) (xCons (xV (eTup (aCons (eCall D_told_place (xCons (xV (eV 1)) xNil)) (aCons (eCall D_told_place (xCons (xV (eV 1)) xNil)) aNil)))) (xCons (xV (eTup (aCons (eV 9) (aCons (eV 9) aNil)))) xNil))))) (sRet (eC (.bool false))) sNil)
    (sRet (eCall (D__law_same 8) (xCons (xV (eTup (aCons (eCall D_told_reach (xCons (xV (eV 1)) xNil)) (aCons (eCall D_told_reach (xCons (xV (eV 1)) xNil)) aNil)))) (xCons (xV (eTup (aCons (eV 10) (aCons (eV 10) aNil)))) xNil))))))))))))))))
def D__law_right : FnSem := fnD 11 G__law_right
theorem sc__law_right : FnScope (["well", "sterns", "fits", "told", "bad", "some", "k", "first", "both", "place", "reach"] : List Str) (["well"] : List Str) (defScope (top 56)) := ⟨rfl, rfl, rfl, by decide +kernel, rfl, by decide +kernel, by decide +kernel⟩
theorem w__law_right {f : Addr} {fd : FuncData} (Fu : Fun K "_law_right" "_law_right" (top 56) f fd) (M : GlM K mg) (hm : mg "_law_right" = some (.ref f)) (hb : ∀ n1 ∈ ([1] : List Nat), ∀ (s : Shared) (us ws : List Value), K.In s.heap → us.length = n1 → us.length + ws.length = 1 → BindsTo s fd ⟨us, (((["well"] : List Str) : List Str).drop n1).zip ws⟩ (((["well"] : List Str) : List Str).zip (us ++ ws))) (h_do_fit : FnT P w K mg base T 13 "do_fit" (["sterns"] : List Str) [1, 0] D_do_fit) (h_told_place : FnT P w K mg base T 14 "told_place" (["sterns"] : List Str) [1, 0] D_told_place) (h_told_reach : FnT P w K mg base T 14 "told_reach" (["sterns"] : List Str) [1, 0] D_told_reach) (h_stern_bar : FnT P w K mg base T 13 "stern_bar" (["sterns"] : List Str) [1, 0] D_stern_bar) (h__law_same : FnT P w K mg base T 9 "_law_same" (["one", "two"] : List Str) [2] (D__law_same 8)) (h__law_sets : FnT P w K mg base T 1 "_law_sets" (["things"] : List Str) [1] D__law_sets) (h__law_sterns : FnT P w K mg base T 4 "_law_sterns" (["well"] : List Str) [1] D__law_sterns) (h__law_stern_told : FnT P w K mg base T 4 "_law_stern_told" (["sterns"] : List Str) [1] D__law_stern_told) (h__law_is_none : FnH P w K mg base T 16 "_law_is_none" (["act"] : List Str) 15 0 D__law_is_none) {c tP : Addr} (hcode : fd.code = .ref c) (tb : TabB base mg c tP) (hmem : (tP, ("_law_right" ++ ".<locals>." ++ "<lambda>" : Str)) ∈ T) (hone : ∀ p ∈ T, p.1 = tP → p.2 = ("_law_right" ++ ".<locals>." ++ "<lambda>" : Str)) :
    FnT P w K mg base T 21 "_law_right" (["well"] : List Str) [1] D__law_right :=
  ⟨f, fd, hm, Fu.kp, fn_body Fu sc__law_right fun cdv hcd A outer s H E o => by
   unfold G__law_right
   exact (SSs.cons (SS.asg (SE.call h__law_sterns o (by decide) rfl (SXs.cons (SX.obj 0) SXs.nil)) (SG.name o 1))
    (SSs.cons (SS.asg (SE.call h__law_stern_told o (by decide) rfl (SXs.cons (SX.val (SE.var 1)) SXs.nil)) (SG.tup o (SGs.cons (SG.name o 2) (SGs.cons (SG.name o 3) SGs.nil))))
    (SSs.cons (SS.ife (ST.cmp (OpD.ne o.hu) (SE.callB (CallD.repr o) rfl M.b_repr (by decide +kernel) (SA.cons (SE.lst (SA.cons (SE.call h_do_fit o (by decide) rfl (SXs.cons (SX.val (SE.var 1)) SXs.nil)) (SA.cons (SE.callK0 h_do_fit o (by decide) rfl (SKs.cons (SX.val (SE.var 1)) SKs.nil)) SA.nil))) SA.nil)) (SE.callB (CallD.repr o) rfl M.b_repr (by decide +kernel) (SA.cons (SE.lst (SA.cons (SE.var 2) (SA.cons (SE.var 2) SA.nil))) SA.nil))) (SSs.one (SS.ret SE.bl)) SSs.nil)
    (SSs.cons (SS.new (i := 4) o (SN.lst SA.nil))
    (SSs.cons (SS.for o (SI.seq (SE.call h__law_sets o (by decide) rfl (SXs.cons (SX.val (SE.tupR o rfl M.b_tuple rfl M.b_range (SE.callB CallD.len rfl M.b_len (by decide +kernel) (SA.cons (SE.var 1) SA.nil)))) SXs.nil))) (SG.name o 5) (SSs.one (SS.ife (SW.st (SW.and (ST.cmp (OpD.ne o.hu) (SE.var 5) (SE.tup SA.nil)) (SW.and1 (ST.not (ST.val (SE.ix (SE.call h__law_stern_told o (by decide) rfl (SXs.cons (SX.val (SE.lc o (SI.seq (SE.var 5)) (fun s1 H1 C1 cl1 fp1 => (SG.name (o.blk s1 H1 _ C1 cl1 fp1) 6)) (fun s1 H1 C1 cl1 fp1 => STs.nil) (fun s1 H1 C1 cl1 fp1 => (SE.ix (SE.var 1) (SE.var 6) (fun _ _ => rfl))) (own := [("k", 6)]) (blk_ok (N := (["well", "sterns", "fits", "told", "bad", "some", "k", "first", "both", "place", "reach"] : List Str)) (sc := defScope (top 56)) (by decide +kernel)) (by decide))) SXs.nil)) SE.int (fun _ _ => rfl))))))) (SSs.one (SS.append 4 o (SE.var 5))) SSs.nil)))
    (SSs.frz 4 (SSs.cons (SS.asg (SE.ifx (ST.cmp (OpD.ne o.hu) (SE.var 4) (SE.lst SA.nil)) (SE.ix (SE.var 4) SE.int (fun _ _ => rfl)) SE.non) (SG.name o 7))
    (SSs.cons (SS.ife (SW.st (SW.or (ST.cmp (OpD.ne o.hu) (SE.cmp (OpD.eq o.hu) (SE.var 4) (SE.lst SA.nil)) (SE.var 2)) (SW.or1 (SW.st (SW.and (ST.cmp (OpD.ne o.hu) (SE.var 4) (SE.lst SA.nil)) (SW.and1 (ST.cmp (OpD.gt o.hu) (SE.callB CallD.len rfl M.b_len (by decide +kernel) (SA.cons (SE.ix (SE.var 4) SE.int (fun _ _ => rfl)) SA.nil)) SE.int))))))) (SSs.one (SS.ret SE.bl)) SSs.nil)
    (SSs.cons (SS.ife (ST.not (ST.val (SE.call h__law_same o (by decide) rfl (SXs.cons (SX.val (SE.tup (SA.cons (SE.call h_stern_bar o (by decide) rfl (SXs.cons (SX.val (SE.var 1)) SXs.nil)) (SA.cons (SE.callK0 h_stern_bar o (by decide) rfl (SKs.cons (SX.val (SE.var 1)) SKs.nil)) SA.nil)))) (SXs.cons (SX.val (SE.tup (SA.cons (SE.var 7) (SA.cons (SE.var 7) SA.nil)))) SXs.nil))))) (SSs.one (SS.ret SE.bl)) SSs.nil)
    (SSs.cons (SS.ife (ST.not (ST.val (SE.var 2))) (SSs.cons (SS.new (i := 8) o (SN.lst (SA.cons (SE.callHL (es := []) (NL := ["sterns"]) (lps := []) (fr := ["sterns"]) (js := [1]) h__law_is_none o (by decide) (kb := 14) (by decide) rfl (fun _ => rfl) (SL.nil ⟨hcd.symm.trans hcode, tb, hmem, hone⟩ rfl (fun ok y hy z => ok.has _ (fr_ok (sc := defScope (top 56)) (by decide +kernel) y hy z))) rfl (nscope_by (by decide +kernel)) (fr_ok (sc := defScope (top 56)) (by decide +kernel)) (fr2_ok (by decide +kernel)) rfl (fun q cl pm cv ctv us hl => match us, hl with | [], _ => rfl) (fun cl c1 fl A1 outer1 s1 H1 E1 ol => (SE.call h_told_place ol (by decide) rfl (SXs.cons (SX.val (SE.var 0)) SXs.nil))) (by decide) ⟨_, _, rfl, rfl, rfl⟩) SA.nil)))
    (SSs.cons (SS.append 8 o (SE.callHL (es := []) (NL := ["sterns"]) (lps := []) (fr := ["sterns"]) (js := [1]) h__law_is_none o (by decide) (kb := 14) (by decide) rfl (fun _ => rfl) (SL.nil ⟨hcd.symm.trans hcode, tb, hmem, hone⟩ rfl (fun ok y hy z => ok.has _ (fr_ok (sc := defScope (top 56)) (by decide +kernel) y hy z))) rfl (nscope_by (by decide +kernel)) (fr_ok (sc := defScope (top 56)) (by decide +kernel)) (fr2_ok (by decide +kernel)) rfl (fun q cl pm cv ctv us hl => match us, hl with | [], _ => rfl) (fun cl c1 fl A1 outer1 s1 H1 E1 ol => (SE.call h_told_reach ol (by decide) rfl (SXs.cons (SX.val (SE.var 0)) SXs.nil))) (by decide) ⟨_, _, rfl, rfl, rfl⟩))
    (SSs.one (SS.ret (SE.cmpS (OpD.eq o.hu) (SX.obj 8) (SX.val (SE.lst (SA.cons SE.bl (SA.cons SE.bl SA.nil))))))))) SSs.nil)
    (SSs.cons (SS.asg (SE.ifx (ST.cmp OpD.isNot (SE.var 3) SE.non) (SE.tup (SA.cons (SE.sl (SE.var 3) SO.none (SO.some SE.int)) (SA.cons (SE.ix (SE.var 3) SE.int (fun _ _ => rfl)) SA.nil))) (SE.tup (SA.cons SE.non (SA.cons SE.non SA.nil)))) (SG.tup o (SGs.cons (SG.name o 9) (SGs.cons (SG.name o 10) SGs.nil))))
    (SSs.cons (SS.ife (ST.not (ST.val (SE.call h__law_same o (by decide) rfl (SXs.cons (SX.val (SE.tup (SA.cons (SE.call h_told_place o (by decide) rfl (SXs.cons (SX.val (SE.var 1)) SXs.nil)) (SA.cons (SE.callK0 h_told_place o (by decide) rfl (SKs.cons (SX.val (SE.var 1)) SKs.nil)) SA.nil)))) (SXs.cons (SX.val (SE.tup (SA.cons (SE.var 9) (SA.cons (SE.var 9) SA.nil)))) SXs.nil))))) (SSs.one (SS.ret SE.bl)) SSs.nil)
    (SSs.one (SS.ret (SE.call h__law_same o (by decide) rfl (SXs.cons (SX.val (SE.tup (SA.cons (SE.call h_told_reach o (by decide) rfl (SXs.cons (SX.val (SE.var 1)) SXs.nil)) (SA.cons (SE.callK0 h_told_reach o (by decide) rfl (SKs.cons (SX.val (SE.var 1)) SKs.nil)) SA.nil)))) (SXs.cons (SX.val (SE.tup (SA.cons (SE.var 10) (SA.cons (SE.var 10) SA.nil)))) SXs.nil))))))))))))))))), hb⟩
/-! law -/
def G_law : DS := (sSeq (sNewOs (iRng1 (eC (.int 2))) (gV 2) (nCall D__law_well (xCons (xV (eV 0)) (xCons (xV (eV 2)) xNil))) [2] 1)
    (sRet (eBi dAll (aCons (eLc (iRng1 (eC (.int 16))) (gV 3) tTrue (eCall D__law_right (xCons (xOs 1 (eBin dMod (eBi dInt (aCons (eV 3) aNil)) (eC (.int 2)))) xNil)) [3]) aNil))))
def D_law : FnSem := fnD 4 G_law
theorem sc_law : FnScope (["script", "wells", "lap", "k"] : List Str) (["script"] : List Str) (defScope (top 57)) := ⟨rfl, rfl, rfl, by decide +kernel, rfl, by decide +kernel, by decide +kernel⟩
theorem w_law {f : Addr} {fd : FuncData} (Fu : Fun K "law" "law" (top 57) f fd) (M : GlM K mg) (hm : mg "law" = some (.ref f)) (hb : ∀ n1 ∈ ([1] : List Nat), ∀ (s : Shared) (us ws : List Value), K.In s.heap → us.length = n1 → us.length + ws.length = 1 → BindsTo s fd ⟨us, (((["script"] : List Str) : List Str).drop n1).zip ws⟩ (((["script"] : List Str) : List Str).zip (us ++ ws))) (h__law_well : FnN P w K mg base T 1 "_law_well" (["script", "lap"] : List Str) D__law_well) (h__law_right : FnT P w K mg base T 21 "_law_right" (["well"] : List Str) [1] D__law_right) :
    FnT P w K mg base T 22 "law" (["script"] : List Str) [1] D_law :=
  ⟨f, fd, hm, Fu.kp, fn_body Fu sc_law fun cdv hcd A outer s H E o => by
   unfold G_law
   exact (SSs.cons (SS.setLcN (i := 1) o (SI.range1 rfl M.b_range SE.int) (fun s1 H1 C1 cl1 fp1 => (SG.name (o.blk s1 H1 _ C1 cl1 fp1) 2)) (fun s1 H1 C1 cl1 fp1 => (SN.call h__law_well (o.blk s1 H1 _ C1 cl1 fp1) (by decide) rfl (SXs.cons (SX.val (SE.var 0)) (SXs.cons (SX.val (SE.var 2)) SXs.nil)))) (own := [("lap", 2)]) (blk_ok (N := (["script", "wells", "lap", "k"] : List Str)) (sc := defScope (top 57)) (by decide +kernel)) (by decide) rfl)
    (SSs.one (SS.ret (SE.callB (CallD.all o) rfl M.b_all (by decide +kernel) (SA.cons (SE.lc o (SI.range1 rfl M.b_range SE.int) (fun s2 H2 C2 cl2 fp2 => (SG.name (o.blk s2 H2 _ C2 cl2 fp2) 3)) (fun s2 H2 C2 cl2 fp2 => STs.nil) (fun s2 H2 C2 cl2 fp2 => (SE.call h__law_right (o.blk s2 H2 _ C2 cl2 fp2) (by decide) rfl (SXs.cons (SX.os 1 (SE.op OpD.mod (SE.callTy CallD.int rfl M.b_int (by decide +kernel) (SA.cons (SE.var 3) SA.nil)) SE.int) rfl (fun _ _ => rfl)) SXs.nil))) (own := [("k", 3)]) (blk_ok (N := (["script", "wells", "lap", "k"] : List Str)) (sc := defScope (top 57)) (by decide +kernel)) (by decide)) SA.nil))))), hb⟩
end
end K82

set_option maxRecDepth 100000
set_option maxHeartbeats 4000000
namespace K82
open PySem PySem.Spec PyProof.Rows L2 LamX NdefX DS
theorem asm {l : PySem.W.OpenLaw} {w : World} {K : PySem.W.Frag} {h : Heap} {mg : Str → Option Value} (X : K.In h) (G : h.Ns mainGlobals mg) (hyes : ∀ ns : List Int, ns.length ≤ 63 → (∀ z ∈ ns, Builtin.Int.intBits z ≤ 1048576) → ∃ m, D_law [.v (.list (ns.map .int))] [] = .ok (.bool true) m)
    {f_is_whole : Addr} {oc_is_whole kV_is_whole dc_is_whole pm_is_whole cd_is_whole ct_is_whole : Value} {od_is_whole an_is_whole : Option Addr} {sl_is_whole : Array (Option Value)}
    {f_lowest : Addr} {oc_lowest kV_lowest dc_lowest pm_lowest cd_lowest ct_lowest : Value} {od_lowest an_lowest : Option Addr} {sl_lowest : Array (Option Value)}
    {f_sum_of_two : Addr} {oc_sum_of_two kV_sum_of_two dc_sum_of_two pm_sum_of_two cd_sum_of_two ct_sum_of_two : Value} {od_sum_of_two an_sum_of_two : Option Addr} {sl_sum_of_two : Array (Option Value)}
    {f_difference : Addr} {oc_difference kV_difference dc_difference pm_difference cd_difference ct_difference : Value} {od_difference an_difference : Option Addr} {sl_difference : Array (Option Value)}
    {f_product_of_two : Addr} {oc_product_of_two kV_product_of_two dc_product_of_two pm_product_of_two cd_product_of_two ct_product_of_two : Value} {od_product_of_two an_product_of_two : Option Addr} {sl_product_of_two : Array (Option Value)}
    {f_quotient : Addr} {oc_quotient kV_quotient dc_quotient pm_quotient cd_quotient ct_quotient : Value} {od_quotient an_quotient : Option Addr} {sl_quotient : Array (Option Value)}
    {f_is_tuple_of : Addr} {oc_is_tuple_of kV_is_tuple_of dc_is_tuple_of pm_is_tuple_of cd_is_tuple_of ct_is_tuple_of : Value} {od_is_tuple_of an_is_tuple_of : Option Addr} {sl_is_tuple_of : Array (Option Value)}
    {f_is_fraction : Addr} {oc_is_fraction kV_is_fraction dc_is_fraction pm_is_fraction cd_is_fraction ct_is_fraction : Value} {od_is_fraction an_is_fraction : Option Addr} {sl_is_fraction : Array (Option Value)}
    {f_wrong_at : Addr} {oc_wrong_at kV_wrong_at dc_wrong_at pm_wrong_at cd_wrong_at ct_wrong_at : Value} {od_wrong_at an_wrong_at : Option Addr} {sl_wrong_at : Array (Option Value)}
    {f_wrong_from_one : Addr} {oc_wrong_from_one kV_wrong_from_one dc_wrong_from_one pm_wrong_from_one cd_wrong_from_one ct_wrong_from_one : Value} {od_wrong_from_one an_wrong_from_one : Option Addr} {sl_wrong_from_one : Array (Option Value)}
    {f_sets_of : Addr} {oc_sets_of kV_sets_of dc_sets_of pm_sets_of cd_sets_of ct_sets_of : Value} {od_sets_of an_sets_of : Option Addr} {sl_sets_of : Array (Option Value)}
    {f_are_of_one_wind : Addr} {oc_are_of_one_wind kV_are_of_one_wind dc_are_of_one_wind pm_are_of_one_wind cd_are_of_one_wind ct_are_of_one_wind : Value} {od_are_of_one_wind an_are_of_one_wind : Option Addr} {sl_are_of_one_wind : Array (Option Value)}
    {f_parts_of : Addr} {oc_parts_of kV_parts_of dc_parts_of pm_parts_of cd_parts_of ct_parts_of : Value} {od_parts_of an_parts_of : Option Addr} {sl_parts_of : Array (Option Value)}
    {f_reach_by : Addr} {oc_reach_by kV_reach_by dc_reach_by pm_reach_by cd_reach_by ct_reach_by : Value} {od_reach_by an_reach_by : Option Addr} {sl_reach_by : Array (Option Value)}
    {f_place_by : Addr} {oc_place_by kV_place_by dc_place_by pm_place_by cd_place_by ct_place_by : Value} {od_place_by an_place_by : Option Addr} {sl_place_by : Array (Option Value)}
    {f_does_fit : Addr} {oc_does_fit kV_does_fit dc_does_fit pm_does_fit cd_does_fit ct_does_fit : Value} {od_does_fit an_does_fit : Option Addr} {sl_does_fit : Array (Option Value)}
    {f_reach_for : Addr} {oc_reach_for kV_reach_for dc_reach_for pm_reach_for cd_reach_for ct_reach_for : Value} {od_reach_for an_reach_for : Option Addr} {sl_reach_for : Array (Option Value)}
    {f_fits_of : Addr} {oc_fits_of kV_fits_of dc_fits_of pm_fits_of cd_fits_of ct_fits_of : Value} {od_fits_of an_fits_of : Option Addr} {sl_fits_of : Array (Option Value)}
    {f_dot : Addr} {oc_dot kV_dot dc_dot pm_dot cd_dot ct_dot : Value} {od_dot an_dot : Option Addr} {sl_dot : Array (Option Value)}
    {f_square_of : Addr} {oc_square_of kV_square_of dc_square_of pm_square_of cd_square_of ct_square_of : Value} {od_square_of an_square_of : Option Addr} {sl_square_of : Array (Option Value)}
    {f_is_wind_form : Addr} {oc_is_wind_form kV_is_wind_form dc_is_wind_form pm_is_wind_form cd_is_wind_form ct_is_wind_form : Value} {od_is_wind_form an_is_wind_form : Option Addr} {sl_is_wind_form : Array (Option Value)}
    {f_is_stern : Addr} {oc_is_stern kV_is_stern dc_is_stern pm_is_stern cd_is_stern ct_is_stern : Value} {od_is_stern an_is_stern : Option Addr} {sl_is_stern : Array (Option Value)}
    {f_check_sterns : Addr} {oc_check_sterns kV_check_sterns dc_check_sterns pm_check_sterns cd_check_sterns ct_check_sterns : Value} {od_check_sterns an_check_sterns : Option Addr} {sl_check_sterns : Array (Option Value)}
    {f_check_fit : Addr} {oc_check_fit kV_check_fit dc_check_fit pm_check_fit cd_check_fit ct_check_fit : Value} {od_check_fit an_check_fit : Option Addr} {sl_check_fit : Array (Option Value)}
    {f_do_fit : Addr} {oc_do_fit kV_do_fit dc_do_fit pm_do_fit cd_do_fit ct_do_fit : Value} {od_do_fit an_do_fit : Option Addr} {sl_do_fit : Array (Option Value)}
    {f_told_place : Addr} {oc_told_place kV_told_place dc_told_place pm_told_place cd_told_place ct_told_place : Value} {od_told_place an_told_place : Option Addr} {sl_told_place : Array (Option Value)}
    {f_told_reach : Addr} {oc_told_reach kV_told_reach dc_told_reach pm_told_reach cd_told_reach ct_told_reach : Value} {od_told_reach an_told_reach : Option Addr} {sl_told_reach : Array (Option Value)}
    {f_stern_bar : Addr} {oc_stern_bar kV_stern_bar dc_stern_bar pm_stern_bar cd_stern_bar ct_stern_bar : Value} {od_stern_bar an_stern_bar : Option Addr} {sl_stern_bar : Array (Option Value)}
    {f__law_well : Addr} {oc__law_well kV__law_well dc__law_well pm__law_well cd__law_well ct__law_well : Value} {od__law_well an__law_well : Option Addr} {sl__law_well : Array (Option Value)}
    {f__law_draw : Addr} {oc__law_draw kV__law_draw dc__law_draw pm__law_draw cd__law_draw ct__law_draw : Value} {od__law_draw an__law_draw : Option Addr} {sl__law_draw : Array (Option Value)}
    {f__law_of : Addr} {oc__law_of kV__law_of dc__law_of pm__law_of cd__law_of ct__law_of : Value} {od__law_of an__law_of : Option Addr} {sl__law_of : Array (Option Value)}
    {f__law_same : Addr} {oc__law_same kV__law_same dc__law_same pm__law_same cd__law_same ct__law_same : Value} {od__law_same an__law_same : Option Addr} {sl__law_same : Array (Option Value)}
    {f__law_sets : Addr} {oc__law_sets kV__law_sets dc__law_sets pm__law_sets cd__law_sets ct__law_sets : Value} {od__law_sets an__law_sets : Option Addr} {sl__law_sets : Array (Option Value)}
    {f__law_lowest : Addr} {oc__law_lowest kV__law_lowest dc__law_lowest pm__law_lowest cd__law_lowest ct__law_lowest : Value} {od__law_lowest an__law_lowest : Option Addr} {sl__law_lowest : Array (Option Value)}
    {f__law_plus : Addr} {oc__law_plus kV__law_plus dc__law_plus pm__law_plus cd__law_plus ct__law_plus : Value} {od__law_plus an__law_plus : Option Addr} {sl__law_plus : Array (Option Value)}
    {f__law_minus : Addr} {oc__law_minus kV__law_minus dc__law_minus pm__law_minus cd__law_minus ct__law_minus : Value} {od__law_minus an__law_minus : Option Addr} {sl__law_minus : Array (Option Value)}
    {f__law_wind : Addr} {oc__law_wind kV__law_wind dc__law_wind pm__law_wind cd__law_wind ct__law_wind : Value} {od__law_wind an__law_wind : Option Addr} {sl__law_wind : Array (Option Value)}
    {f__law_sterns : Addr} {oc__law_sterns kV__law_sterns dc__law_sterns pm__law_sterns cd__law_sterns ct__law_sterns : Value} {od__law_sterns an__law_sterns : Option Addr} {sl__law_sterns : Array (Option Value)}
    {f__law_stern_fits : Addr} {oc__law_stern_fits kV__law_stern_fits dc__law_stern_fits pm__law_stern_fits cd__law_stern_fits ct__law_stern_fits : Value} {od__law_stern_fits an__law_stern_fits : Option Addr} {sl__law_stern_fits : Array (Option Value)}
    {f__law_stern_told : Addr} {oc__law_stern_told kV__law_stern_told dc__law_stern_told pm__law_stern_told cd__law_stern_told ct__law_stern_told : Value} {od__law_stern_told an__law_stern_told : Option Addr} {sl__law_stern_told : Array (Option Value)}
    {f__law_is_none : Addr} {oc__law_is_none kV__law_is_none dc__law_is_none pm__law_is_none cd__law_is_none ct__law_is_none : Value} {od__law_is_none an__law_is_none : Option Addr} {sl__law_is_none : Array (Option Value)}
    {f__law_right : Addr} {oc__law_right kV__law_right dc__law_right pm__law_right cd__law_right ct__law_right : Value} {od__law_right an__law_right : Option Addr} {sl__law_right : Array (Option Value)}
    {f_law : Addr} {oc_law kV_law dc_law pm_law cd_law ct_law : Value} {od_law an_law : Option Addr} {sl_law : Array (Option Value)}
    {C_sets_of P_sets_of : Addr}
    {C_check_sterns P_check_sterns : Addr}
    {C__law_right P__law_right : Addr}
    {tk_MOST_IN_BAR : Tok}
    {tk_MOST_STERNS : Tok}
    {A_WHOLE : Addr} {oA_WHOLE : Option Addr} {nA_WHOLE : Nat} {sA_WHOLE : Array (Option Value)}
    {tk0_WHOLE : Tok}
    {tk1_WHOLE : Tok}
    {K_NoFit : Addr}
    {B_NoFit : Addr}
    (a_is_whole : PySem.W.nsIn K mainGlobals "is_whole" = some (some (.ref f_is_whole))) (l_is_whole : K.lookup f_is_whole = some ⟨oc_is_whole, od_is_whole, .func (PySem.W.fnOf "is_whole" "is_whole" (defArgs (top 6)) (defBody (top 6)) (defScope (top 6)) .none kV_is_whole dc_is_whole pm_is_whole an_is_whole cd_is_whole ct_is_whole), sl_is_whole⟩) (c_is_whole : PySem.W.codeIn K cd_is_whole "is_whole" = true) (k_is_whole : PySem.W.keepIn K (.ref f_is_whole) = true)
    (a_lowest : PySem.W.nsIn K mainGlobals "lowest" = some (some (.ref f_lowest))) (l_lowest : K.lookup f_lowest = some ⟨oc_lowest, od_lowest, .func (PySem.W.fnOf "lowest" "lowest" (defArgs (top 7)) (defBody (top 7)) (defScope (top 7)) .none kV_lowest dc_lowest pm_lowest an_lowest cd_lowest ct_lowest), sl_lowest⟩) (c_lowest : PySem.W.codeIn K cd_lowest "lowest" = true) (k_lowest : PySem.W.keepIn K (.ref f_lowest) = true)
    (a_sum_of_two : PySem.W.nsIn K mainGlobals "sum_of_two" = some (some (.ref f_sum_of_two))) (l_sum_of_two : K.lookup f_sum_of_two = some ⟨oc_sum_of_two, od_sum_of_two, .func (PySem.W.fnOf "sum_of_two" "sum_of_two" (defArgs (top 8)) (defBody (top 8)) (defScope (top 8)) .none kV_sum_of_two dc_sum_of_two pm_sum_of_two an_sum_of_two cd_sum_of_two ct_sum_of_two), sl_sum_of_two⟩) (c_sum_of_two : PySem.W.codeIn K cd_sum_of_two "sum_of_two" = true) (k_sum_of_two : PySem.W.keepIn K (.ref f_sum_of_two) = true)
    (a_difference : PySem.W.nsIn K mainGlobals "difference" = some (some (.ref f_difference))) (l_difference : K.lookup f_difference = some ⟨oc_difference, od_difference, .func (PySem.W.fnOf "difference" "difference" (defArgs (top 9)) (defBody (top 9)) (defScope (top 9)) .none kV_difference dc_difference pm_difference an_difference cd_difference ct_difference), sl_difference⟩) (c_difference : PySem.W.codeIn K cd_difference "difference" = true) (k_difference : PySem.W.keepIn K (.ref f_difference) = true)
    (a_product_of_two : PySem.W.nsIn K mainGlobals "product_of_two" = some (some (.ref f_product_of_two))) (l_product_of_two : K.lookup f_product_of_two = some ⟨oc_product_of_two, od_product_of_two, .func (PySem.W.fnOf "product_of_two" "product_of_two" (defArgs (top 10)) (defBody (top 10)) (defScope (top 10)) .none kV_product_of_two dc_product_of_two pm_product_of_two an_product_of_two cd_product_of_two ct_product_of_two), sl_product_of_two⟩) (c_product_of_two : PySem.W.codeIn K cd_product_of_two "product_of_two" = true) (k_product_of_two : PySem.W.keepIn K (.ref f_product_of_two) = true)
    (a_quotient : PySem.W.nsIn K mainGlobals "quotient" = some (some (.ref f_quotient))) (l_quotient : K.lookup f_quotient = some ⟨oc_quotient, od_quotient, .func (PySem.W.fnOf "quotient" "quotient" (defArgs (top 11)) (defBody (top 11)) (defScope (top 11)) .none kV_quotient dc_quotient pm_quotient an_quotient cd_quotient ct_quotient), sl_quotient⟩) (c_quotient : PySem.W.codeIn K cd_quotient "quotient" = true) (k_quotient : PySem.W.keepIn K (.ref f_quotient) = true)
    (a_is_tuple_of : PySem.W.nsIn K mainGlobals "is_tuple_of" = some (some (.ref f_is_tuple_of))) (l_is_tuple_of : K.lookup f_is_tuple_of = some ⟨oc_is_tuple_of, od_is_tuple_of, .func (PySem.W.fnOf "is_tuple_of" "is_tuple_of" (defArgs (top 13)) (defBody (top 13)) (defScope (top 13)) .none kV_is_tuple_of dc_is_tuple_of pm_is_tuple_of an_is_tuple_of cd_is_tuple_of ct_is_tuple_of), sl_is_tuple_of⟩) (c_is_tuple_of : PySem.W.codeIn K cd_is_tuple_of "is_tuple_of" = true) (k_is_tuple_of : PySem.W.keepIn K (.ref f_is_tuple_of) = true)
    (a_is_fraction : PySem.W.nsIn K mainGlobals "is_fraction" = some (some (.ref f_is_fraction))) (l_is_fraction : K.lookup f_is_fraction = some ⟨oc_is_fraction, od_is_fraction, .func (PySem.W.fnOf "is_fraction" "is_fraction" (defArgs (top 12)) (defBody (top 12)) (defScope (top 12)) .none kV_is_fraction dc_is_fraction pm_is_fraction an_is_fraction cd_is_fraction ct_is_fraction), sl_is_fraction⟩) (c_is_fraction : PySem.W.codeIn K cd_is_fraction "is_fraction" = true) (k_is_fraction : PySem.W.keepIn K (.ref f_is_fraction) = true)
    (a_wrong_at : PySem.W.nsIn K mainGlobals "wrong_at" = some (some (.ref f_wrong_at))) (l_wrong_at : K.lookup f_wrong_at = some ⟨oc_wrong_at, od_wrong_at, .func (PySem.W.fnOf "wrong_at" "wrong_at" (defArgs (top 14)) (defBody (top 14)) (defScope (top 14)) .none kV_wrong_at dc_wrong_at pm_wrong_at an_wrong_at cd_wrong_at ct_wrong_at), sl_wrong_at⟩) (c_wrong_at : PySem.W.codeIn K cd_wrong_at "wrong_at" = true) (k_wrong_at : PySem.W.keepIn K (.ref f_wrong_at) = true)
    (a_wrong_from_one : PySem.W.nsIn K mainGlobals "wrong_from_one" = some (some (.ref f_wrong_from_one))) (l_wrong_from_one : K.lookup f_wrong_from_one = some ⟨oc_wrong_from_one, od_wrong_from_one, .func (PySem.W.fnOf "wrong_from_one" "wrong_from_one" (defArgs (top 15)) (defBody (top 15)) (defScope (top 15)) .none kV_wrong_from_one dc_wrong_from_one pm_wrong_from_one an_wrong_from_one cd_wrong_from_one ct_wrong_from_one), sl_wrong_from_one⟩) (c_wrong_from_one : PySem.W.codeIn K cd_wrong_from_one "wrong_from_one" = true) (k_wrong_from_one : PySem.W.keepIn K (.ref f_wrong_from_one) = true)
    (a_sets_of : PySem.W.nsIn K mainGlobals "sets_of" = some (some (.ref f_sets_of))) (l_sets_of : K.lookup f_sets_of = some ⟨oc_sets_of, od_sets_of, .func (PySem.W.fnOf "sets_of" "sets_of" (defArgs (top 16)) (defBody (top 16)) (defScope (top 16)) .none kV_sets_of dc_sets_of pm_sets_of an_sets_of cd_sets_of ct_sets_of), sl_sets_of⟩) (c_sets_of : PySem.W.codeIn K cd_sets_of "sets_of" = true) (k_sets_of : PySem.W.keepIn K (.ref f_sets_of) = true)
    (a_are_of_one_wind : PySem.W.nsIn K mainGlobals "are_of_one_wind" = some (some (.ref f_are_of_one_wind))) (l_are_of_one_wind : K.lookup f_are_of_one_wind = some ⟨oc_are_of_one_wind, od_are_of_one_wind, .func (PySem.W.fnOf "are_of_one_wind" "are_of_one_wind" (defArgs (top 19)) (defBody (top 19)) (defScope (top 19)) .none kV_are_of_one_wind dc_are_of_one_wind pm_are_of_one_wind an_are_of_one_wind cd_are_of_one_wind ct_are_of_one_wind), sl_are_of_one_wind⟩) (c_are_of_one_wind : PySem.W.codeIn K cd_are_of_one_wind "are_of_one_wind" = true) (k_are_of_one_wind : PySem.W.keepIn K (.ref f_are_of_one_wind) = true)
    (a_parts_of : PySem.W.nsIn K mainGlobals "parts_of" = some (some (.ref f_parts_of))) (l_parts_of : K.lookup f_parts_of = some ⟨oc_parts_of, od_parts_of, .func (PySem.W.fnOf "parts_of" "parts_of" (defArgs (top 20)) (defBody (top 20)) (defScope (top 20)) .none kV_parts_of dc_parts_of pm_parts_of an_parts_of cd_parts_of ct_parts_of), sl_parts_of⟩) (c_parts_of : PySem.W.codeIn K cd_parts_of "parts_of" = true) (k_parts_of : PySem.W.keepIn K (.ref f_parts_of) = true)
    (a_reach_by : PySem.W.nsIn K mainGlobals "reach_by" = some (some (.ref f_reach_by))) (l_reach_by : K.lookup f_reach_by = some ⟨oc_reach_by, od_reach_by, .func (PySem.W.fnOf "reach_by" "reach_by" (defArgs (top 21)) (defBody (top 21)) (defScope (top 21)) .none kV_reach_by dc_reach_by pm_reach_by an_reach_by cd_reach_by ct_reach_by), sl_reach_by⟩) (c_reach_by : PySem.W.codeIn K cd_reach_by "reach_by" = true) (k_reach_by : PySem.W.keepIn K (.ref f_reach_by) = true)
    (a_place_by : PySem.W.nsIn K mainGlobals "place_by" = some (some (.ref f_place_by))) (l_place_by : K.lookup f_place_by = some ⟨oc_place_by, od_place_by, .func (PySem.W.fnOf "place_by" "place_by" (defArgs (top 22)) (defBody (top 22)) (defScope (top 22)) .none kV_place_by dc_place_by pm_place_by an_place_by cd_place_by ct_place_by), sl_place_by⟩) (c_place_by : PySem.W.codeIn K cd_place_by "place_by" = true) (k_place_by : PySem.W.keepIn K (.ref f_place_by) = true)
    (a_does_fit : PySem.W.nsIn K mainGlobals "does_fit" = some (some (.ref f_does_fit))) (l_does_fit : K.lookup f_does_fit = some ⟨oc_does_fit, od_does_fit, .func (PySem.W.fnOf "does_fit" "does_fit" (defArgs (top 23)) (defBody (top 23)) (defScope (top 23)) .none kV_does_fit dc_does_fit pm_does_fit an_does_fit cd_does_fit ct_does_fit), sl_does_fit⟩) (c_does_fit : PySem.W.codeIn K cd_does_fit "does_fit" = true) (k_does_fit : PySem.W.keepIn K (.ref f_does_fit) = true)
    (a_reach_for : PySem.W.nsIn K mainGlobals "reach_for" = some (some (.ref f_reach_for))) (l_reach_for : K.lookup f_reach_for = some ⟨oc_reach_for, od_reach_for, .func (PySem.W.fnOf "reach_for" "reach_for" (defArgs (top 24)) (defBody (top 24)) (defScope (top 24)) .none kV_reach_for dc_reach_for pm_reach_for an_reach_for cd_reach_for ct_reach_for), sl_reach_for⟩) (c_reach_for : PySem.W.codeIn K cd_reach_for "reach_for" = true) (k_reach_for : PySem.W.keepIn K (.ref f_reach_for) = true)
    (a_fits_of : PySem.W.nsIn K mainGlobals "fits_of" = some (some (.ref f_fits_of))) (l_fits_of : K.lookup f_fits_of = some ⟨oc_fits_of, od_fits_of, .func (PySem.W.fnOf "fits_of" "fits_of" (defArgs (top 25)) (defBody (top 25)) (defScope (top 25)) .none kV_fits_of dc_fits_of pm_fits_of an_fits_of cd_fits_of ct_fits_of), sl_fits_of⟩) (c_fits_of : PySem.W.codeIn K cd_fits_of "fits_of" = true) (k_fits_of : PySem.W.keepIn K (.ref f_fits_of) = true)
    (a_dot : PySem.W.nsIn K mainGlobals "dot" = some (some (.ref f_dot))) (l_dot : K.lookup f_dot = some ⟨oc_dot, od_dot, .func (PySem.W.fnOf "dot" "dot" (defArgs (top 27)) (defBody (top 27)) (defScope (top 27)) .none kV_dot dc_dot pm_dot an_dot cd_dot ct_dot), sl_dot⟩) (c_dot : PySem.W.codeIn K cd_dot "dot" = true) (k_dot : PySem.W.keepIn K (.ref f_dot) = true)
    (a_square_of : PySem.W.nsIn K mainGlobals "square_of" = some (some (.ref f_square_of))) (l_square_of : K.lookup f_square_of = some ⟨oc_square_of, od_square_of, .func (PySem.W.fnOf "square_of" "square_of" (defArgs (top 28)) (defBody (top 28)) (defScope (top 28)) .none kV_square_of dc_square_of pm_square_of an_square_of cd_square_of ct_square_of), sl_square_of⟩) (c_square_of : PySem.W.codeIn K cd_square_of "square_of" = true) (k_square_of : PySem.W.keepIn K (.ref f_square_of) = true)
    (a_is_wind_form : PySem.W.nsIn K mainGlobals "is_wind_form" = some (some (.ref f_is_wind_form))) (l_is_wind_form : K.lookup f_is_wind_form = some ⟨oc_is_wind_form, od_is_wind_form, .func (PySem.W.fnOf "is_wind_form" "is_wind_form" (defArgs (top 31)) (defBody (top 31)) (defScope (top 31)) .none kV_is_wind_form dc_is_wind_form pm_is_wind_form an_is_wind_form cd_is_wind_form ct_is_wind_form), sl_is_wind_form⟩) (c_is_wind_form : PySem.W.codeIn K cd_is_wind_form "is_wind_form" = true) (k_is_wind_form : PySem.W.keepIn K (.ref f_is_wind_form) = true)
    (a_is_stern : PySem.W.nsIn K mainGlobals "is_stern" = some (some (.ref f_is_stern))) (l_is_stern : K.lookup f_is_stern = some ⟨oc_is_stern, od_is_stern, .func (PySem.W.fnOf "is_stern" "is_stern" (defArgs (top 35)) (defBody (top 35)) (defScope (top 35)) .none kV_is_stern dc_is_stern pm_is_stern an_is_stern cd_is_stern ct_is_stern), sl_is_stern⟩) (c_is_stern : PySem.W.codeIn K cd_is_stern "is_stern" = true) (k_is_stern : PySem.W.keepIn K (.ref f_is_stern) = true)
    (a_check_sterns : PySem.W.nsIn K mainGlobals "check_sterns" = some (some (.ref f_check_sterns))) (l_check_sterns : K.lookup f_check_sterns = some ⟨oc_check_sterns, od_check_sterns, .func (PySem.W.fnOf "check_sterns" "check_sterns" (defArgs (top 36)) (defBody (top 36)) (defScope (top 36)) .none kV_check_sterns dc_check_sterns pm_check_sterns an_check_sterns cd_check_sterns ct_check_sterns), sl_check_sterns⟩) (c_check_sterns : PySem.W.codeIn K cd_check_sterns "check_sterns" = true) (k_check_sterns : PySem.W.keepIn K (.ref f_check_sterns) = true)
    (a_check_fit : PySem.W.nsIn K mainGlobals "check_fit" = some (some (.ref f_check_fit))) (l_check_fit : K.lookup f_check_fit = some ⟨oc_check_fit, od_check_fit, .func (PySem.W.fnOf "check_fit" "check_fit" (defArgs (top 37)) (defBody (top 37)) (defScope (top 37)) .none kV_check_fit dc_check_fit pm_check_fit an_check_fit cd_check_fit ct_check_fit), sl_check_fit⟩) (c_check_fit : PySem.W.codeIn K cd_check_fit "check_fit" = true) (k_check_fit : PySem.W.keepIn K (.ref f_check_fit) = true)
    (a_do_fit : PySem.W.nsIn K mainGlobals "do_fit" = some (some (.ref f_do_fit))) (l_do_fit : K.lookup f_do_fit = some ⟨oc_do_fit, od_do_fit, .func (PySem.W.fnOf "do_fit" "do_fit" (defArgs (top 38)) (defBody (top 38)) (defScope (top 38)) .none kV_do_fit dc_do_fit pm_do_fit an_do_fit cd_do_fit ct_do_fit), sl_do_fit⟩) (c_do_fit : PySem.W.codeIn K cd_do_fit "do_fit" = true) (k_do_fit : PySem.W.keepIn K (.ref f_do_fit) = true)
    (a_told_place : PySem.W.nsIn K mainGlobals "told_place" = some (some (.ref f_told_place))) (l_told_place : K.lookup f_told_place = some ⟨oc_told_place, od_told_place, .func (PySem.W.fnOf "told_place" "told_place" (defArgs (top 39)) (defBody (top 39)) (defScope (top 39)) .none kV_told_place dc_told_place pm_told_place an_told_place cd_told_place ct_told_place), sl_told_place⟩) (c_told_place : PySem.W.codeIn K cd_told_place "told_place" = true) (k_told_place : PySem.W.keepIn K (.ref f_told_place) = true)
    (a_told_reach : PySem.W.nsIn K mainGlobals "told_reach" = some (some (.ref f_told_reach))) (l_told_reach : K.lookup f_told_reach = some ⟨oc_told_reach, od_told_reach, .func (PySem.W.fnOf "told_reach" "told_reach" (defArgs (top 40)) (defBody (top 40)) (defScope (top 40)) .none kV_told_reach dc_told_reach pm_told_reach an_told_reach cd_told_reach ct_told_reach), sl_told_reach⟩) (c_told_reach : PySem.W.codeIn K cd_told_reach "told_reach" = true) (k_told_reach : PySem.W.keepIn K (.ref f_told_reach) = true)
    (a_stern_bar : PySem.W.nsIn K mainGlobals "stern_bar" = some (some (.ref f_stern_bar))) (l_stern_bar : K.lookup f_stern_bar = some ⟨oc_stern_bar, od_stern_bar, .func (PySem.W.fnOf "stern_bar" "stern_bar" (defArgs (top 41)) (defBody (top 41)) (defScope (top 41)) .none kV_stern_bar dc_stern_bar pm_stern_bar an_stern_bar cd_stern_bar ct_stern_bar), sl_stern_bar⟩) (c_stern_bar : PySem.W.codeIn K cd_stern_bar "stern_bar" = true) (k_stern_bar : PySem.W.keepIn K (.ref f_stern_bar) = true)
    (a__law_well : PySem.W.nsIn K mainGlobals "_law_well" = some (some (.ref f__law_well))) (l__law_well : K.lookup f__law_well = some ⟨oc__law_well, od__law_well, .func (PySem.W.fnOf "_law_well" "_law_well" (defArgs (top 43)) (defBody (top 43)) (defScope (top 43)) .none kV__law_well dc__law_well pm__law_well an__law_well cd__law_well ct__law_well), sl__law_well⟩) (c__law_well : PySem.W.codeIn K cd__law_well "_law_well" = true) (k__law_well : PySem.W.keepIn K (.ref f__law_well) = true)
    (a__law_draw : PySem.W.nsIn K mainGlobals "_law_draw" = some (some (.ref f__law_draw))) (l__law_draw : K.lookup f__law_draw = some ⟨oc__law_draw, od__law_draw, .func (PySem.W.fnOf "_law_draw" "_law_draw" (defArgs (top 44)) (defBody (top 44)) (defScope (top 44)) .none kV__law_draw dc__law_draw pm__law_draw an__law_draw cd__law_draw ct__law_draw), sl__law_draw⟩) (c__law_draw : PySem.W.codeIn K cd__law_draw "_law_draw" = true) (k__law_draw : PySem.W.keepIn K (.ref f__law_draw) = true)
    (a__law_of : PySem.W.nsIn K mainGlobals "_law_of" = some (some (.ref f__law_of))) (l__law_of : K.lookup f__law_of = some ⟨oc__law_of, od__law_of, .func (PySem.W.fnOf "_law_of" "_law_of" (defArgs (top 45)) (defBody (top 45)) (defScope (top 45)) .none kV__law_of dc__law_of pm__law_of an__law_of cd__law_of ct__law_of), sl__law_of⟩) (c__law_of : PySem.W.codeIn K cd__law_of "_law_of" = true) (k__law_of : PySem.W.keepIn K (.ref f__law_of) = true)
    (a__law_same : PySem.W.nsIn K mainGlobals "_law_same" = some (some (.ref f__law_same))) (l__law_same : K.lookup f__law_same = some ⟨oc__law_same, od__law_same, .func (PySem.W.fnOf "_law_same" "_law_same" (defArgs (top 46)) (defBody (top 46)) (defScope (top 46)) .none kV__law_same dc__law_same pm__law_same an__law_same cd__law_same ct__law_same), sl__law_same⟩) (c__law_same : PySem.W.codeIn K cd__law_same "_law_same" = true) (k__law_same : PySem.W.keepIn K (.ref f__law_same) = true)
    (a__law_sets : PySem.W.nsIn K mainGlobals "_law_sets" = some (some (.ref f__law_sets))) (l__law_sets : K.lookup f__law_sets = some ⟨oc__law_sets, od__law_sets, .func (PySem.W.fnOf "_law_sets" "_law_sets" (defArgs (top 47)) (defBody (top 47)) (defScope (top 47)) .none kV__law_sets dc__law_sets pm__law_sets an__law_sets cd__law_sets ct__law_sets), sl__law_sets⟩) (c__law_sets : PySem.W.codeIn K cd__law_sets "_law_sets" = true) (k__law_sets : PySem.W.keepIn K (.ref f__law_sets) = true)
    (a__law_lowest : PySem.W.nsIn K mainGlobals "_law_lowest" = some (some (.ref f__law_lowest))) (l__law_lowest : K.lookup f__law_lowest = some ⟨oc__law_lowest, od__law_lowest, .func (PySem.W.fnOf "_law_lowest" "_law_lowest" (defArgs (top 48)) (defBody (top 48)) (defScope (top 48)) .none kV__law_lowest dc__law_lowest pm__law_lowest an__law_lowest cd__law_lowest ct__law_lowest), sl__law_lowest⟩) (c__law_lowest : PySem.W.codeIn K cd__law_lowest "_law_lowest" = true) (k__law_lowest : PySem.W.keepIn K (.ref f__law_lowest) = true)
    (a__law_plus : PySem.W.nsIn K mainGlobals "_law_plus" = some (some (.ref f__law_plus))) (l__law_plus : K.lookup f__law_plus = some ⟨oc__law_plus, od__law_plus, .func (PySem.W.fnOf "_law_plus" "_law_plus" (defArgs (top 49)) (defBody (top 49)) (defScope (top 49)) .none kV__law_plus dc__law_plus pm__law_plus an__law_plus cd__law_plus ct__law_plus), sl__law_plus⟩) (c__law_plus : PySem.W.codeIn K cd__law_plus "_law_plus" = true) (k__law_plus : PySem.W.keepIn K (.ref f__law_plus) = true)
    (a__law_minus : PySem.W.nsIn K mainGlobals "_law_minus" = some (some (.ref f__law_minus))) (l__law_minus : K.lookup f__law_minus = some ⟨oc__law_minus, od__law_minus, .func (PySem.W.fnOf "_law_minus" "_law_minus" (defArgs (top 50)) (defBody (top 50)) (defScope (top 50)) .none kV__law_minus dc__law_minus pm__law_minus an__law_minus cd__law_minus ct__law_minus), sl__law_minus⟩) (c__law_minus : PySem.W.codeIn K cd__law_minus "_law_minus" = true) (k__law_minus : PySem.W.keepIn K (.ref f__law_minus) = true)
    (a__law_wind : PySem.W.nsIn K mainGlobals "_law_wind" = some (some (.ref f__law_wind))) (l__law_wind : K.lookup f__law_wind = some ⟨oc__law_wind, od__law_wind, .func (PySem.W.fnOf "_law_wind" "_law_wind" (defArgs (top 51)) (defBody (top 51)) (defScope (top 51)) .none kV__law_wind dc__law_wind pm__law_wind an__law_wind cd__law_wind ct__law_wind), sl__law_wind⟩) (c__law_wind : PySem.W.codeIn K cd__law_wind "_law_wind" = true) (k__law_wind : PySem.W.keepIn K (.ref f__law_wind) = true)
    (a__law_sterns : PySem.W.nsIn K mainGlobals "_law_sterns" = some (some (.ref f__law_sterns))) (l__law_sterns : K.lookup f__law_sterns = some ⟨oc__law_sterns, od__law_sterns, .func (PySem.W.fnOf "_law_sterns" "_law_sterns" (defArgs (top 52)) (defBody (top 52)) (defScope (top 52)) .none kV__law_sterns dc__law_sterns pm__law_sterns an__law_sterns cd__law_sterns ct__law_sterns), sl__law_sterns⟩) (c__law_sterns : PySem.W.codeIn K cd__law_sterns "_law_sterns" = true) (k__law_sterns : PySem.W.keepIn K (.ref f__law_sterns) = true)
    (a__law_stern_fits : PySem.W.nsIn K mainGlobals "_law_stern_fits" = some (some (.ref f__law_stern_fits))) (l__law_stern_fits : K.lookup f__law_stern_fits = some ⟨oc__law_stern_fits, od__law_stern_fits, .func (PySem.W.fnOf "_law_stern_fits" "_law_stern_fits" (defArgs (top 53)) (defBody (top 53)) (defScope (top 53)) .none kV__law_stern_fits dc__law_stern_fits pm__law_stern_fits an__law_stern_fits cd__law_stern_fits ct__law_stern_fits), sl__law_stern_fits⟩) (c__law_stern_fits : PySem.W.codeIn K cd__law_stern_fits "_law_stern_fits" = true) (k__law_stern_fits : PySem.W.keepIn K (.ref f__law_stern_fits) = true)
    (a__law_stern_told : PySem.W.nsIn K mainGlobals "_law_stern_told" = some (some (.ref f__law_stern_told))) (l__law_stern_told : K.lookup f__law_stern_told = some ⟨oc__law_stern_told, od__law_stern_told, .func (PySem.W.fnOf "_law_stern_told" "_law_stern_told" (defArgs (top 54)) (defBody (top 54)) (defScope (top 54)) .none kV__law_stern_told dc__law_stern_told pm__law_stern_told an__law_stern_told cd__law_stern_told ct__law_stern_told), sl__law_stern_told⟩) (c__law_stern_told : PySem.W.codeIn K cd__law_stern_told "_law_stern_told" = true) (k__law_stern_told : PySem.W.keepIn K (.ref f__law_stern_told) = true)
    (a__law_is_none : PySem.W.nsIn K mainGlobals "_law_is_none" = some (some (.ref f__law_is_none))) (l__law_is_none : K.lookup f__law_is_none = some ⟨oc__law_is_none, od__law_is_none, .func (PySem.W.fnOf "_law_is_none" "_law_is_none" (defArgs (top 55)) (defBody (top 55)) (defScope (top 55)) .none kV__law_is_none dc__law_is_none pm__law_is_none an__law_is_none cd__law_is_none ct__law_is_none), sl__law_is_none⟩) (c__law_is_none : PySem.W.codeIn K cd__law_is_none "_law_is_none" = true) (k__law_is_none : PySem.W.keepIn K (.ref f__law_is_none) = true)
    (a__law_right : PySem.W.nsIn K mainGlobals "_law_right" = some (some (.ref f__law_right))) (l__law_right : K.lookup f__law_right = some ⟨oc__law_right, od__law_right, .func (PySem.W.fnOf "_law_right" "_law_right" (defArgs (top 56)) (defBody (top 56)) (defScope (top 56)) .none kV__law_right dc__law_right pm__law_right an__law_right cd__law_right ct__law_right), sl__law_right⟩) (c__law_right : PySem.W.codeIn K cd__law_right "_law_right" = true) (k__law_right : PySem.W.keepIn K (.ref f__law_right) = true)
    (a_law : PySem.W.nsIn K mainGlobals "law" = some (some (.ref f_law))) (l_law : K.lookup f_law = some ⟨oc_law, od_law, .func (PySem.W.fnOf "law" "law" (defArgs (top 57)) (defBody (top 57)) (defScope (top 57)) .none kV_law dc_law pm_law an_law cd_law ct_law), sl_law⟩) (c_law : PySem.W.codeIn K cd_law "law" = true) (k_law : PySem.W.keepIn K (.ref f_law) = true)
    (t_sets_of : PySem.W.codeHdIn K C_sets_of P_sets_of = true) (e_sets_of : cd_sets_of = .ref C_sets_of) (n_sets_of : K.lookup P_sets_of = none)
    (t_check_sterns : PySem.W.codeHdIn K C_check_sterns P_check_sterns = true) (e_check_sterns : cd_check_sterns = .ref C_check_sterns) (n_check_sterns : K.lookup P_check_sterns = none)
    (t__law_right : PySem.W.codeHdIn K C__law_right P__law_right = true) (e__law_right : cd__law_right = .ref C__law_right) (n__law_right : K.lookup P__law_right = none)
    (htb : ∀ P ∈ ([P_sets_of, P_check_sterns, P__law_right] : List Addr), h.get? P = some (PySem.W.tabObj #[]))
    (hnd : ([P_sets_of, P_check_sterns, P__law_right] : List Addr).Nodup)
    (z_ValueError : PySem.W.nsIn K mainGlobals "ValueError" = some none)
    (z_abs : PySem.W.nsIn K mainGlobals "abs" = some none)
    (z_all : PySem.W.nsIn K mainGlobals "all" = some none)
    (z_bool : PySem.W.nsIn K mainGlobals "bool" = some none)
    (z_divmod : PySem.W.nsIn K mainGlobals "divmod" = some none)
    (z_enumerate : PySem.W.nsIn K mainGlobals "enumerate" = some none)
    (z_gcd : PySem.W.nsIn K mainGlobals "gcd" = some (some (.builtin "math.gcd")))
    (z_int : PySem.W.nsIn K mainGlobals "int" = some none)
    (z_isinstance : PySem.W.nsIn K mainGlobals "isinstance" = some none)
    (z_len : PySem.W.nsIn K mainGlobals "len" = some none)
    (z_range : PySem.W.nsIn K mainGlobals "range" = some none)
    (z_repr : PySem.W.nsIn K mainGlobals "repr" = some none)
    (z_sorted : PySem.W.nsIn K mainGlobals "sorted" = some none)
    (z_tuple : PySem.W.nsIn K mainGlobals "tuple" = some none)
    (y_MOST_IN_BAR : PySem.W.nsIn K mainGlobals "MOST_IN_BAR" = some (some (.int 3 tk_MOST_IN_BAR)))
    (x_MOST_SCALE : ∃ t, mg "MOST_SCALE" = some (.int 1000000000000 t))
    (y_MOST_STERNS : PySem.W.nsIn K mainGlobals "MOST_STERNS" = some (some (.int 10 tk_MOST_STERNS)))
    (y_WHOLE : PySem.W.nsIn K mainGlobals "WHOLE" = some (some (.ref A_WHOLE))) (v_WHOLE : K.lookup A_WHOLE = some ⟨.type "tuple", oA_WHOLE, .seq #[.int 1 tk0_WHOLE, .int 1 tk1_WHOLE] nA_WHOLE, sA_WHOLE⟩)
    (ra_NoFit : PySem.W.nsIn K mainGlobals "NoFit" = some (some (.ref K_NoFit))) (rx_NoFit : PySem.W.excIn K K_NoFit [.type "ValueError", .type "Exception", .type "BaseException", .type "object"] "ValueError.__new__" = true) (rk_NoFit : PySem.W.keepIn K (.ref K_NoFit) = true) (rs_NoFit : PySem.W.subIn K (.ref K_NoFit) (.type "BaseException") = some true) (rt_NoFit : PySem.W.typeIn K (.ref K_NoFit) = some (.type "type"))
    (xb_NoFit : PySem.W.nsIn K mainGlobals "BoatError" = some (some (.ref B_NoFit))) (x1_NoFit : PySem.W.findIn K (.ref K_NoFit) "__getattribute__" = some (some (.builtin "BaseException.__getattribute__"))) (x2_NoFit : PySem.W.findIn K (.ref K_NoFit) "__getattr__" = some none) (x4_NoFit : PySem.W.hasDictIn K K_NoFit = true) (x5_NoFit : PySem.W.findIn K (.ref K_NoFit) "__class__" = some (some (.builtin "object.__class__"))) (x6_NoFit : PySem.W.specialIn K (.builtin "object.__class__") "__get__" = some (some (.builtin "getset_descriptor.__get__"))) (x7_NoFit : PySem.W.takesIn K (.builtin "object.__class__") = some true) (x8_NoFit : PySem.W.mroIn K K_NoFit (.type "object") = some true) (x9_NoFit : PySem.W.exmOne K (.ref K_NoFit) (.ref B_NoFit) = some true) (xa_NoFit : PySem.W.kitOne K (.ref K_NoFit) (.ref K_NoFit) = some true) (xc_NoFit : PySem.W.kitOne K (.ref K_NoFit) (.type "ValueError") = some true) :
    LawAtG l w K 22 63 "law" "script" mg h := by
  have M : GlM K mg := ⟨PySem.W.mg_none_of X G z_ValueError, PySem.W.mg_none_of X G z_abs, PySem.W.mg_none_of X G z_all, PySem.W.mg_none_of X G z_bool, PySem.W.mg_none_of X G z_divmod, PySem.W.mg_none_of X G z_enumerate, PySem.W.mg_of X G z_gcd, PySem.W.mg_none_of X G z_int, PySem.W.mg_none_of X G z_isinstance, PySem.W.mg_none_of X G z_len, PySem.W.mg_none_of X G z_range, PySem.W.mg_none_of X G z_repr, PySem.W.mg_none_of X G z_sorted, PySem.W.mg_none_of X G z_tuple, ⟨V.int _, _, PySem.W.mg_of X G y_MOST_IN_BAR, ⟨_, rfl⟩, fun H => .int _⟩, (let ⟨t, ht⟩ := x_MOST_SCALE; ⟨V.int _, _, ht, ⟨t, rfl⟩, fun H => .int _⟩), ⟨V.int _, _, PySem.W.mg_of X G y_MOST_STERNS, ⟨_, rfl⟩, fun H => .int _⟩, ⟨V.ref _, _, PySem.W.mg_of X G y_WHOLE, rfl, fun H => .tup (xs := [V.int 1, V.int 1]) (.inr ⟨_, _, _, v_WHOLE, rfl, rfl, (by show 2 ≤ sizeLine; decide), (.cons ⟨_, rfl⟩ (.cons ⟨_, rfl⟩ .nil))⟩) (.cons (.int _) (.cons (.int _) .nil))⟩, ⟨K_NoFit, _, _, _, _, PySem.F.excBase_ValueError, rx_NoFit, PySem.W.mg_of X G ra_NoFit, rk_NoFit, rs_NoFit, rt_NoFit⟩, ⟨K_NoFit, B_NoFit, PySem.W.mg_of X G ra_NoFit, PySem.W.mg_of X G xb_NoFit, ⟨x1_NoFit, x2_NoFit, rs_NoFit, x4_NoFit, x5_NoFit, x6_NoFit, x7_NoFit, x8_NoFit⟩, x9_NoFit, xa_NoFit, xc_NoFit⟩⟩
  refine ⟨[(C_sets_of, P_sets_of), (C_check_sterns, P_check_sterns), (C__law_right, P__law_right)], [(P_sets_of, ("sets_of" ++ ".<locals>." ++ "<lambda>" : Str)), (P_check_sterns, ("check_sterns" ++ ".<locals>." ++ "<lambda>" : Str)), (P__law_right, ("_law_right" ++ ".<locals>." ++ "<lambda>" : Str))], ?_, ?_, ?_, ?_, fun base KB GB hTB => ?_⟩
  · intro p hp
    simp only [List.mem_cons, List.not_mem_nil, or_false] at hp
    rcases hp with rfl | rfl | rfl
    · exact htb _ (by simp)
    · exact htb _ (by simp)
    · exact htb _ (by simp)
  · intro p hp
    simp only [List.mem_cons, List.not_mem_nil, or_false] at hp
    rcases hp with rfl | rfl | rfl
    · exact n_sets_of
    · exact n_check_sterns
    · exact n__law_right
  · intro p hp
    simp only [List.mem_cons, List.not_mem_nil, or_false] at hp
    rcases hp with rfl | rfl | rfl
    · exact PySem.W.codeHd_of_K X t_sets_of
    · exact PySem.W.codeHd_of_K X t_check_sterns
    · exact PySem.W.codeHd_of_K X t__law_right
  · intro H hH
    intro p hp
    simp only [List.mem_cons, List.not_mem_nil, or_false] at hp
    rcases hp with rfl | rfl | rfl
    · exact ⟨_, hH (C_sets_of, P_sets_of) (by simp), trivial, fun pos cv hc => by cases hc⟩
    · exact ⟨_, hH (C_check_sterns, P_check_sterns) (by simp), trivial, fun pos cv hc => by cases hc⟩
    · exact ⟨_, hH (C__law_right, P__law_right) (by simp), trivial, fun pos cv hc => by cases hc⟩
  have F_is_whole := fun_mk (st := top 6) l_is_whole c_is_whole k_is_whole
  have h_is_whole := w_is_whole (P := l.prog) (w := w) (base := base) (T := [(P_sets_of, ("sets_of" ++ ".<locals>." ++ "<lambda>" : Str)), (P_check_sterns, ("check_sterns" ++ ".<locals>." ++ "<lambda>" : Str)), (P__law_right, ("_law_right" ++ ".<locals>." ++ "<lambda>" : Str))]) F_is_whole M (PySem.W.mg_of X G a_is_whole) (fun n1 hn => by
      simp only [List.mem_cons, List.not_mem_nil, or_false] at hn
      rcases hn with rfl
      · exact fun s us ws _ h1 h2 => have h3 : ws.length = 0 := by omega
          match us, ws, h1, h3 with | [_], [], _, _ => .of_eq rfl) 
  have F_lowest := fun_mk (st := top 7) l_lowest c_lowest k_lowest
  have h_lowest := w_lowest (P := l.prog) (w := w) (base := base) (T := [(P_sets_of, ("sets_of" ++ ".<locals>." ++ "<lambda>" : Str)), (P_check_sterns, ("check_sterns" ++ ".<locals>." ++ "<lambda>" : Str)), (P__law_right, ("_law_right" ++ ".<locals>." ++ "<lambda>" : Str))]) F_lowest M (PySem.W.mg_of X G a_lowest) (fun n1 hn => by
      simp only [List.mem_cons, List.not_mem_nil, or_false] at hn
      rcases hn with rfl
      · exact fun s us ws _ h1 h2 => have h3 : ws.length = 0 := by omega
          match us, ws, h1, h3 with | [_, _], [], _, _ => .of_eq rfl) 
  have F_sum_of_two := fun_mk (st := top 8) l_sum_of_two c_sum_of_two k_sum_of_two
  have h_sum_of_two := w_sum_of_two (P := l.prog) (w := w) (base := base) (T := [(P_sets_of, ("sets_of" ++ ".<locals>." ++ "<lambda>" : Str)), (P_check_sterns, ("check_sterns" ++ ".<locals>." ++ "<lambda>" : Str)), (P__law_right, ("_law_right" ++ ".<locals>." ++ "<lambda>" : Str))]) F_sum_of_two M (PySem.W.mg_of X G a_sum_of_two) (fun n1 hn => by
      simp only [List.mem_cons, List.not_mem_nil, or_false] at hn
      rcases hn with rfl
      · exact fun s us ws _ h1 h2 => have h3 : ws.length = 0 := by omega
          match us, ws, h1, h3 with | [_, _], [], _, _ => .of_eq rfl) h_lowest
  have F_difference := fun_mk (st := top 9) l_difference c_difference k_difference
  have h_difference := w_difference (P := l.prog) (w := w) (base := base) (T := [(P_sets_of, ("sets_of" ++ ".<locals>." ++ "<lambda>" : Str)), (P_check_sterns, ("check_sterns" ++ ".<locals>." ++ "<lambda>" : Str)), (P__law_right, ("_law_right" ++ ".<locals>." ++ "<lambda>" : Str))]) F_difference M (PySem.W.mg_of X G a_difference) (fun n1 hn => by
      simp only [List.mem_cons, List.not_mem_nil, or_false] at hn
      rcases hn with rfl
      · exact fun s us ws _ h1 h2 => have h3 : ws.length = 0 := by omega
          match us, ws, h1, h3 with | [_, _], [], _, _ => .of_eq rfl) h_lowest
  have F_product_of_two := fun_mk (st := top 10) l_product_of_two c_product_of_two k_product_of_two
  have h_product_of_two := w_product_of_two (P := l.prog) (w := w) (base := base) (T := [(P_sets_of, ("sets_of" ++ ".<locals>." ++ "<lambda>" : Str)), (P_check_sterns, ("check_sterns" ++ ".<locals>." ++ "<lambda>" : Str)), (P__law_right, ("_law_right" ++ ".<locals>." ++ "<lambda>" : Str))]) F_product_of_two M (PySem.W.mg_of X G a_product_of_two) (fun n1 hn => by
      simp only [List.mem_cons, List.not_mem_nil, or_false] at hn
      rcases hn with rfl
      · exact fun s us ws _ h1 h2 => have h3 : ws.length = 0 := by omega
          match us, ws, h1, h3 with | [_, _], [], _, _ => .of_eq rfl) h_lowest
  have F_quotient := fun_mk (st := top 11) l_quotient c_quotient k_quotient
  have h_quotient := w_quotient (P := l.prog) (w := w) (base := base) (T := [(P_sets_of, ("sets_of" ++ ".<locals>." ++ "<lambda>" : Str)), (P_check_sterns, ("check_sterns" ++ ".<locals>." ++ "<lambda>" : Str)), (P__law_right, ("_law_right" ++ ".<locals>." ++ "<lambda>" : Str))]) F_quotient M (PySem.W.mg_of X G a_quotient) (fun n1 hn => by
      simp only [List.mem_cons, List.not_mem_nil, or_false] at hn
      rcases hn with rfl
      · exact fun s us ws _ h1 h2 => have h3 : ws.length = 0 := by omega
          match us, ws, h1, h3 with | [_, _], [], _, _ => .of_eq rfl) h_lowest
  have F_is_tuple_of := fun_mk (st := top 13) l_is_tuple_of c_is_tuple_of k_is_tuple_of
  have h_is_tuple_of := w_is_tuple_of (P := l.prog) (w := w) (base := base) (T := [(P_sets_of, ("sets_of" ++ ".<locals>." ++ "<lambda>" : Str)), (P_check_sterns, ("check_sterns" ++ ".<locals>." ++ "<lambda>" : Str)), (P__law_right, ("_law_right" ++ ".<locals>." ++ "<lambda>" : Str))]) F_is_tuple_of M (PySem.W.mg_of X G a_is_tuple_of) (fun n1 hn => by
      simp only [List.mem_cons, List.not_mem_nil, or_false] at hn
      rcases hn with rfl
      · exact fun s us ws _ h1 h2 => have h3 : ws.length = 0 := by omega
          match us, ws, h1, h3 with | [_, _], [], _, _ => .of_eq rfl) 
  have F_is_fraction := fun_mk (st := top 12) l_is_fraction c_is_fraction k_is_fraction
  have h_is_fraction := w_is_fraction (P := l.prog) (w := w) (base := base) (T := [(P_sets_of, ("sets_of" ++ ".<locals>." ++ "<lambda>" : Str)), (P_check_sterns, ("check_sterns" ++ ".<locals>." ++ "<lambda>" : Str)), (P__law_right, ("_law_right" ++ ".<locals>." ++ "<lambda>" : Str))]) F_is_fraction M (PySem.W.mg_of X G a_is_fraction) (fun n1 hn => by
      simp only [List.mem_cons, List.not_mem_nil, or_false] at hn
      rcases hn with rfl
      · exact fun s us ws _ h1 h2 => have h3 : ws.length = 0 := by omega
          match us, ws, h1, h3 with | [_], [], _, _ => .of_eq rfl) h_is_whole h_is_tuple_of
  have F_wrong_at := fun_mk (st := top 14) l_wrong_at c_wrong_at k_wrong_at
  have h_wrong_at := w_wrong_at (P := l.prog) (w := w) (base := base) (T := [(P_sets_of, ("sets_of" ++ ".<locals>." ++ "<lambda>" : Str)), (P_check_sterns, ("check_sterns" ++ ".<locals>." ++ "<lambda>" : Str)), (P__law_right, ("_law_right" ++ ".<locals>." ++ "<lambda>" : Str))]) F_wrong_at M (PySem.W.mg_of X G a_wrong_at) (fun s us _ hl => match us, hl with | [_, _, _], _ => .of_eq rfl) 
  have F_wrong_from_one := fun_mk (st := top 15) l_wrong_from_one c_wrong_from_one k_wrong_from_one
  have h_wrong_from_one := w_wrong_from_one (P := l.prog) (w := w) (base := base) (T := [(P_sets_of, ("sets_of" ++ ".<locals>." ++ "<lambda>" : Str)), (P_check_sterns, ("check_sterns" ++ ".<locals>." ++ "<lambda>" : Str)), (P__law_right, ("_law_right" ++ ".<locals>." ++ "<lambda>" : Str))]) F_wrong_from_one M (PySem.W.mg_of X G a_wrong_from_one) (fun s us _ hl => match us, hl with | [_, _, _], _ => .of_eq rfl) h_wrong_at
  have F_sets_of := fun_mk (st := top 16) l_sets_of c_sets_of k_sets_of
  have one_sets_of : ∀ p ∈ ([(P_sets_of, ("sets_of" ++ ".<locals>." ++ "<lambda>" : Str)), (P_check_sterns, ("check_sterns" ++ ".<locals>." ++ "<lambda>" : Str)), (P__law_right, ("_law_right" ++ ".<locals>." ++ "<lambda>" : Str))] : List (Addr × Str)), p.1 = P_sets_of → p.2 = ("sets_of" ++ ".<locals>." ++ "<lambda>" : Str) := tab_one hnd (by simp)
  have h_sets_of := w_sets_of (P := l.prog) (w := w) (base := base) (T := [(P_sets_of, ("sets_of" ++ ".<locals>." ++ "<lambda>" : Str)), (P_check_sterns, ("check_sterns" ++ ".<locals>." ++ "<lambda>" : Str)), (P__law_right, ("_law_right" ++ ".<locals>." ++ "<lambda>" : Str))]) F_sets_of M (PySem.W.mg_of X G a_sets_of) (fun n1 hn => by
      simp only [List.mem_cons, List.not_mem_nil, or_false] at hn
      rcases hn with rfl
      · exact fun s us ws _ h1 h2 => have h3 : ws.length = 0 := by omega
          match us, ws, h1, h3 with | [_], [], _, _ => .of_eq rfl)  e_sets_of (hTB (C_sets_of, P_sets_of) (by simp)) (by simp) one_sets_of
  have F_are_of_one_wind := fun_mk (st := top 19) l_are_of_one_wind c_are_of_one_wind k_are_of_one_wind
  have h_are_of_one_wind := w_are_of_one_wind (P := l.prog) (w := w) (base := base) (T := [(P_sets_of, ("sets_of" ++ ".<locals>." ++ "<lambda>" : Str)), (P_check_sterns, ("check_sterns" ++ ".<locals>." ++ "<lambda>" : Str)), (P__law_right, ("_law_right" ++ ".<locals>." ++ "<lambda>" : Str))]) F_are_of_one_wind M (PySem.W.mg_of X G a_are_of_one_wind) (fun n1 hn => by
      simp only [List.mem_cons, List.not_mem_nil, or_false] at hn
      rcases hn with rfl
      · exact fun s us ws _ h1 h2 => have h3 : ws.length = 0 := by omega
          match us, ws, h1, h3 with | [_], [], _, _ => .of_eq rfl) 
  have F_parts_of := fun_mk (st := top 20) l_parts_of c_parts_of k_parts_of
  have h_parts_of := w_parts_of (P := l.prog) (w := w) (base := base) (T := [(P_sets_of, ("sets_of" ++ ".<locals>." ++ "<lambda>" : Str)), (P_check_sterns, ("check_sterns" ++ ".<locals>." ++ "<lambda>" : Str)), (P__law_right, ("_law_right" ++ ".<locals>." ++ "<lambda>" : Str))]) F_parts_of M (PySem.W.mg_of X G a_parts_of) (fun n1 hn => by
      simp only [List.mem_cons, List.not_mem_nil, or_false] at hn
      rcases hn with rfl
      · exact fun s us ws _ h1 h2 => have h3 : ws.length = 0 := by omega
          match us, ws, h1, h3 with | [_], [], _, _ => .of_eq rfl) h_lowest
  have F_reach_by := fun_mk (st := top 21) l_reach_by c_reach_by k_reach_by
  have h_reach_by := w_reach_by (P := l.prog) (w := w) (base := base) (T := [(P_sets_of, ("sets_of" ++ ".<locals>." ++ "<lambda>" : Str)), (P_check_sterns, ("check_sterns" ++ ".<locals>." ++ "<lambda>" : Str)), (P__law_right, ("_law_right" ++ ".<locals>." ++ "<lambda>" : Str))]) F_reach_by M (PySem.W.mg_of X G a_reach_by) (fun n1 hn => by
      simp only [List.mem_cons, List.not_mem_nil, or_false] at hn
      rcases hn with rfl
      · exact fun s us ws _ h1 h2 => have h3 : ws.length = 0 := by omega
          match us, ws, h1, h3 with | [_, _], [], _, _ => .of_eq rfl) h_difference h_quotient h_parts_of
  have F_place_by := fun_mk (st := top 22) l_place_by c_place_by k_place_by
  have h_place_by := w_place_by (P := l.prog) (w := w) (base := base) (T := [(P_sets_of, ("sets_of" ++ ".<locals>." ++ "<lambda>" : Str)), (P_check_sterns, ("check_sterns" ++ ".<locals>." ++ "<lambda>" : Str)), (P__law_right, ("_law_right" ++ ".<locals>." ++ "<lambda>" : Str))]) F_place_by M (PySem.W.mg_of X G a_place_by) (fun n1 hn => by
      simp only [List.mem_cons, List.not_mem_nil, or_false] at hn
      rcases hn with rfl
      · exact fun s us ws _ h1 h2 => have h3 : ws.length = 0 := by omega
          match us, ws, h1, h3 with | [_, _], [], _, _ => .of_eq rfl) h_difference h_product_of_two h_parts_of
  have F_does_fit := fun_mk (st := top 23) l_does_fit c_does_fit k_does_fit
  have h_does_fit := w_does_fit (P := l.prog) (w := w) (base := base) (T := [(P_sets_of, ("sets_of" ++ ".<locals>." ++ "<lambda>" : Str)), (P_check_sterns, ("check_sterns" ++ ".<locals>." ++ "<lambda>" : Str)), (P__law_right, ("_law_right" ++ ".<locals>." ++ "<lambda>" : Str))]) F_does_fit M (PySem.W.mg_of X G a_does_fit) (fun n1 hn => by
      simp only [List.mem_cons, List.not_mem_nil, or_false] at hn
      rcases hn with rfl
      · exact fun s us ws _ h1 h2 => have h3 : ws.length = 0 := by omega
          match us, ws, h1, h3 with | [_, _, _], [], _, _ => .of_eq rfl) h_sum_of_two h_product_of_two h_parts_of
  have F_reach_for := fun_mk (st := top 24) l_reach_for c_reach_for k_reach_for
  have h_reach_for := w_reach_for (P := l.prog) (w := w) (base := base) (T := [(P_sets_of, ("sets_of" ++ ".<locals>." ++ "<lambda>" : Str)), (P_check_sterns, ("check_sterns" ++ ".<locals>." ++ "<lambda>" : Str)), (P__law_right, ("_law_right" ++ ".<locals>." ++ "<lambda>" : Str))]) F_reach_for M (PySem.W.mg_of X G a_reach_for) (fun n1 hn => by
      simp only [List.mem_cons, List.not_mem_nil, or_false] at hn
      rcases hn with rfl
      · exact fun s us ws _ h1 h2 => have h3 : ws.length = 0 := by omega
          match us, ws, h1, h3 with | [_], [], _, _ => .of_eq rfl) h_reach_by
  have F_fits_of := fun_mk (st := top 25) l_fits_of c_fits_of k_fits_of
  have h_fits_of := w_fits_of (P := l.prog) (w := w) (base := base) (T := [(P_sets_of, ("sets_of" ++ ".<locals>." ++ "<lambda>" : Str)), (P_check_sterns, ("check_sterns" ++ ".<locals>." ++ "<lambda>" : Str)), (P__law_right, ("_law_right" ++ ".<locals>." ++ "<lambda>" : Str))]) F_fits_of M (PySem.W.mg_of X G a_fits_of) (fun n1 hn => by
      simp only [List.mem_cons, List.not_mem_nil, or_false] at hn
      rcases hn with rfl
      · exact fun s us ws _ h1 h2 => have h3 : ws.length = 0 := by omega
          match us, ws, h1, h3 with | [_], [], _, _ => .of_eq rfl) h_place_by h_does_fit h_reach_for
  have F_dot := fun_mk (st := top 27) l_dot c_dot k_dot
  have h_dot := w_dot (P := l.prog) (w := w) (base := base) (T := [(P_sets_of, ("sets_of" ++ ".<locals>." ++ "<lambda>" : Str)), (P_check_sterns, ("check_sterns" ++ ".<locals>." ++ "<lambda>" : Str)), (P__law_right, ("_law_right" ++ ".<locals>." ++ "<lambda>" : Str))]) F_dot M (PySem.W.mg_of X G a_dot) (fun n1 hn => by
      simp only [List.mem_cons, List.not_mem_nil, or_false] at hn
      rcases hn with rfl
      · exact fun s us ws _ h1 h2 => have h3 : ws.length = 0 := by omega
          match us, ws, h1, h3 with | [_, _], [], _, _ => .of_eq rfl) 
  have F_square_of := fun_mk (st := top 28) l_square_of c_square_of k_square_of
  have h_square_of := w_square_of (P := l.prog) (w := w) (base := base) (T := [(P_sets_of, ("sets_of" ++ ".<locals>." ++ "<lambda>" : Str)), (P_check_sterns, ("check_sterns" ++ ".<locals>." ++ "<lambda>" : Str)), (P__law_right, ("_law_right" ++ ".<locals>." ++ "<lambda>" : Str))]) F_square_of M (PySem.W.mg_of X G a_square_of) (fun n1 hn => by
      simp only [List.mem_cons, List.not_mem_nil, or_false] at hn
      rcases hn with rfl
      · exact fun s us ws _ h1 h2 => have h3 : ws.length = 0 := by omega
          match us, ws, h1, h3 with | [_], [], _, _ => .of_eq rfl) h_dot
  have F_is_wind_form := fun_mk (st := top 31) l_is_wind_form c_is_wind_form k_is_wind_form
  have h_is_wind_form := w_is_wind_form (P := l.prog) (w := w) (base := base) (T := [(P_sets_of, ("sets_of" ++ ".<locals>." ++ "<lambda>" : Str)), (P_check_sterns, ("check_sterns" ++ ".<locals>." ++ "<lambda>" : Str)), (P__law_right, ("_law_right" ++ ".<locals>." ++ "<lambda>" : Str))]) F_is_wind_form M (PySem.W.mg_of X G a_is_wind_form) (fun n1 hn => by
      simp only [List.mem_cons, List.not_mem_nil, or_false] at hn
      rcases hn with rfl
      · exact fun s us ws _ h1 h2 => have h3 : ws.length = 0 := by omega
          match us, ws, h1, h3 with | [_], [], _, _ => .of_eq rfl) h_is_whole h_is_tuple_of h_square_of
  have F_is_stern := fun_mk (st := top 35) l_is_stern c_is_stern k_is_stern
  have h_is_stern := w_is_stern (P := l.prog) (w := w) (base := base) (T := [(P_sets_of, ("sets_of" ++ ".<locals>." ++ "<lambda>" : Str)), (P_check_sterns, ("check_sterns" ++ ".<locals>." ++ "<lambda>" : Str)), (P__law_right, ("_law_right" ++ ".<locals>." ++ "<lambda>" : Str))]) F_is_stern M (PySem.W.mg_of X G a_is_stern) (fun n1 hn => by
      simp only [List.mem_cons, List.not_mem_nil, or_false] at hn
      rcases hn with rfl
      · exact fun s us ws _ h1 h2 => have h3 : ws.length = 0 := by omega
          match us, ws, h1, h3 with | [_], [], _, _ => .of_eq rfl) h_is_fraction h_is_tuple_of h_is_wind_form
  have F_check_sterns := fun_mk (st := top 36) l_check_sterns c_check_sterns k_check_sterns
  have one_check_sterns : ∀ p ∈ ([(P_sets_of, ("sets_of" ++ ".<locals>." ++ "<lambda>" : Str)), (P_check_sterns, ("check_sterns" ++ ".<locals>." ++ "<lambda>" : Str)), (P__law_right, ("_law_right" ++ ".<locals>." ++ "<lambda>" : Str))] : List (Addr × Str)), p.1 = P_check_sterns → p.2 = ("check_sterns" ++ ".<locals>." ++ "<lambda>" : Str) := tab_one hnd (by simp)
  have h_check_sterns := w_check_sterns (P := l.prog) (w := w) (base := base) (T := [(P_sets_of, ("sets_of" ++ ".<locals>." ++ "<lambda>" : Str)), (P_check_sterns, ("check_sterns" ++ ".<locals>." ++ "<lambda>" : Str)), (P__law_right, ("_law_right" ++ ".<locals>." ++ "<lambda>" : Str))]) F_check_sterns M (PySem.W.mg_of X G a_check_sterns) (fun n1 hn => by
      simp only [List.mem_cons, List.not_mem_nil, or_false] at hn
      rcases hn with rfl
      · exact fun s us ws _ h1 h2 => have h3 : ws.length = 0 := by omega
          match us, ws, h1, h3 with | [_], [], _, _ => .of_eq rfl) h_wrong_from_one h_is_stern e_check_sterns (hTB (C_check_sterns, P_check_sterns) (by simp)) (by simp) one_check_sterns
  have F_check_fit := fun_mk (st := top 37) l_check_fit c_check_fit k_check_fit
  have h_check_fit := w_check_fit (P := l.prog) (w := w) (base := base) (T := [(P_sets_of, ("sets_of" ++ ".<locals>." ++ "<lambda>" : Str)), (P_check_sterns, ("check_sterns" ++ ".<locals>." ++ "<lambda>" : Str)), (P__law_right, ("_law_right" ++ ".<locals>." ++ "<lambda>" : Str))]) F_check_fit M (PySem.W.mg_of X G a_check_fit) (fun n1 hn => by
      simp only [List.mem_cons, List.not_mem_nil, or_false] at hn
      rcases hn with rfl
      · exact fun s us ws _ h1 h2 => have h3 : ws.length = 0 := by omega
          match us, ws, h1, h3 with | [_], [], _, _ => .of_eq rfl) h_fits_of h_check_sterns
  have F_do_fit := fun_mk (st := top 38) l_do_fit c_do_fit k_do_fit
  have h_do_fit := w_do_fit (P := l.prog) (w := w) (base := base) (T := [(P_sets_of, ("sets_of" ++ ".<locals>." ++ "<lambda>" : Str)), (P_check_sterns, ("check_sterns" ++ ".<locals>." ++ "<lambda>" : Str)), (P__law_right, ("_law_right" ++ ".<locals>." ++ "<lambda>" : Str))]) F_do_fit M (PySem.W.mg_of X G a_do_fit) (fun n1 hn => by
      simp only [List.mem_cons, List.not_mem_nil, or_false] at hn
      rcases hn with rfl | rfl
      · exact fun s us ws _ h1 h2 => have h3 : ws.length = 0 := by omega
          match us, ws, h1, h3 with | [_], [], _, _ => .of_eq rfl
      · exact fun s us ws _ h1 h2 => have h3 : ws.length = 1 := by omega
          match us, ws, h1, h3 with | [], [_], _, _ => .of_eq rfl) h_fits_of h_check_sterns
  have F_told_place := fun_mk (st := top 39) l_told_place c_told_place k_told_place
  have h_told_place := w_told_place (P := l.prog) (w := w) (base := base) (T := [(P_sets_of, ("sets_of" ++ ".<locals>." ++ "<lambda>" : Str)), (P_check_sterns, ("check_sterns" ++ ".<locals>." ++ "<lambda>" : Str)), (P__law_right, ("_law_right" ++ ".<locals>." ++ "<lambda>" : Str))]) F_told_place M (PySem.W.mg_of X G a_told_place) (fun n1 hn => by
      simp only [List.mem_cons, List.not_mem_nil, or_false] at hn
      rcases hn with rfl | rfl
      · exact fun s us ws _ h1 h2 => have h3 : ws.length = 0 := by omega
          match us, ws, h1, h3 with | [_], [], _, _ => .of_eq rfl
      · exact fun s us ws _ h1 h2 => have h3 : ws.length = 1 := by omega
          match us, ws, h1, h3 with | [], [_], _, _ => .of_eq rfl) h_are_of_one_wind h_fits_of h_check_fit
  have F_told_reach := fun_mk (st := top 40) l_told_reach c_told_reach k_told_reach
  have h_told_reach := w_told_reach (P := l.prog) (w := w) (base := base) (T := [(P_sets_of, ("sets_of" ++ ".<locals>." ++ "<lambda>" : Str)), (P_check_sterns, ("check_sterns" ++ ".<locals>." ++ "<lambda>" : Str)), (P__law_right, ("_law_right" ++ ".<locals>." ++ "<lambda>" : Str))]) F_told_reach M (PySem.W.mg_of X G a_told_reach) (fun n1 hn => by
      simp only [List.mem_cons, List.not_mem_nil, or_false] at hn
      rcases hn with rfl | rfl
      · exact fun s us ws _ h1 h2 => have h3 : ws.length = 0 := by omega
          match us, ws, h1, h3 with | [_], [], _, _ => .of_eq rfl
      · exact fun s us ws _ h1 h2 => have h3 : ws.length = 1 := by omega
          match us, ws, h1, h3 with | [], [_], _, _ => .of_eq rfl) h_are_of_one_wind h_fits_of h_check_fit
  have F_stern_bar := fun_mk (st := top 41) l_stern_bar c_stern_bar k_stern_bar
  have h_stern_bar := w_stern_bar (P := l.prog) (w := w) (base := base) (T := [(P_sets_of, ("sets_of" ++ ".<locals>." ++ "<lambda>" : Str)), (P_check_sterns, ("check_sterns" ++ ".<locals>." ++ "<lambda>" : Str)), (P__law_right, ("_law_right" ++ ".<locals>." ++ "<lambda>" : Str))]) F_stern_bar M (PySem.W.mg_of X G a_stern_bar) (fun n1 hn => by
      simp only [List.mem_cons, List.not_mem_nil, or_false] at hn
      rcases hn with rfl | rfl
      · exact fun s us ws _ h1 h2 => have h3 : ws.length = 0 := by omega
          match us, ws, h1, h3 with | [_], [], _, _ => .of_eq rfl
      · exact fun s us ws _ h1 h2 => have h3 : ws.length = 1 := by omega
          match us, ws, h1, h3 with | [], [_], _, _ => .of_eq rfl) h_sets_of h_fits_of h_check_sterns
  have F__law_well := fun_mk (st := top 43) l__law_well c__law_well k__law_well
  have h__law_well := w__law_well (P := l.prog) (w := w) (base := base) (T := [(P_sets_of, ("sets_of" ++ ".<locals>." ++ "<lambda>" : Str)), (P_check_sterns, ("check_sterns" ++ ".<locals>." ++ "<lambda>" : Str)), (P__law_right, ("_law_right" ++ ".<locals>." ++ "<lambda>" : Str))]) F__law_well M (PySem.W.mg_of X G a__law_well) (fun s us _ hl => match us, hl with | [_, _], _ => .of_eq rfl) 
  have F__law_draw := fun_mk (st := top 44) l__law_draw c__law_draw k__law_draw
  have h__law_draw := w__law_draw (P := l.prog) (w := w) (base := base) (T := [(P_sets_of, ("sets_of" ++ ".<locals>." ++ "<lambda>" : Str)), (P_check_sterns, ("check_sterns" ++ ".<locals>." ++ "<lambda>" : Str)), (P__law_right, ("_law_right" ++ ".<locals>." ++ "<lambda>" : Str))]) F__law_draw M (PySem.W.mg_of X G a__law_draw) (fun n1 hn => by
      simp only [List.mem_cons, List.not_mem_nil, or_false] at hn
      rcases hn with rfl
      · exact fun s us ws _ h1 h2 => have h3 : ws.length = 0 := by omega
          match us, ws, h1, h3 with | [_, _], [], _, _ => .of_eq rfl) 
  have F__law_of := fun_mk (st := top 45) l__law_of c__law_of k__law_of
  have h__law_of := w__law_of (P := l.prog) (w := w) (base := base) (T := [(P_sets_of, ("sets_of" ++ ".<locals>." ++ "<lambda>" : Str)), (P_check_sterns, ("check_sterns" ++ ".<locals>." ++ "<lambda>" : Str)), (P__law_right, ("_law_right" ++ ".<locals>." ++ "<lambda>" : Str))]) F__law_of M (PySem.W.mg_of X G a__law_of) (fun n1 hn => by
      simp only [List.mem_cons, List.not_mem_nil, or_false] at hn
      rcases hn with rfl
      · exact fun s us ws _ h1 h2 => have h3 : ws.length = 0 := by omega
          match us, ws, h1, h3 with | [_, _], [], _, _ => .of_eq rfl) h__law_draw
  have F__law_same := fun_mk (st := top 46) l__law_same c__law_same k__law_same
  have h__law_same := w__law_same (P := l.prog) (w := w) (base := base) (T := [(P_sets_of, ("sets_of" ++ ".<locals>." ++ "<lambda>" : Str)), (P_check_sterns, ("check_sterns" ++ ".<locals>." ++ "<lambda>" : Str)), (P__law_right, ("_law_right" ++ ".<locals>." ++ "<lambda>" : Str))]) F__law_same M (PySem.W.mg_of X G a__law_same) (fun n1 hn => by
      simp only [List.mem_cons, List.not_mem_nil, or_false] at hn
      rcases hn with rfl
      · exact fun s us ws _ h1 h2 => have h3 : ws.length = 0 := by omega
          match us, ws, h1, h3 with | [_, _], [], _, _ => .of_eq rfl) 
  have F__law_sets := fun_mk (st := top 47) l__law_sets c__law_sets k__law_sets
  have h__law_sets := w__law_sets (P := l.prog) (w := w) (base := base) (T := [(P_sets_of, ("sets_of" ++ ".<locals>." ++ "<lambda>" : Str)), (P_check_sterns, ("check_sterns" ++ ".<locals>." ++ "<lambda>" : Str)), (P__law_right, ("_law_right" ++ ".<locals>." ++ "<lambda>" : Str))]) F__law_sets M (PySem.W.mg_of X G a__law_sets) (fun n1 hn => by
      simp only [List.mem_cons, List.not_mem_nil, or_false] at hn
      rcases hn with rfl
      · exact fun s us ws _ h1 h2 => have h3 : ws.length = 0 := by omega
          match us, ws, h1, h3 with | [_], [], _, _ => .of_eq rfl) 
  have F__law_lowest := fun_mk (st := top 48) l__law_lowest c__law_lowest k__law_lowest
  have h__law_lowest := w__law_lowest (P := l.prog) (w := w) (base := base) (T := [(P_sets_of, ("sets_of" ++ ".<locals>." ++ "<lambda>" : Str)), (P_check_sterns, ("check_sterns" ++ ".<locals>." ++ "<lambda>" : Str)), (P__law_right, ("_law_right" ++ ".<locals>." ++ "<lambda>" : Str))]) F__law_lowest M (PySem.W.mg_of X G a__law_lowest) (fun n1 hn => by
      simp only [List.mem_cons, List.not_mem_nil, or_false] at hn
      rcases hn with rfl
      · exact fun s us ws _ h1 h2 => have h3 : ws.length = 0 := by omega
          match us, ws, h1, h3 with | [_, _], [], _, _ => .of_eq rfl) 
  have F__law_plus := fun_mk (st := top 49) l__law_plus c__law_plus k__law_plus
  have h__law_plus := w__law_plus (P := l.prog) (w := w) (base := base) (T := [(P_sets_of, ("sets_of" ++ ".<locals>." ++ "<lambda>" : Str)), (P_check_sterns, ("check_sterns" ++ ".<locals>." ++ "<lambda>" : Str)), (P__law_right, ("_law_right" ++ ".<locals>." ++ "<lambda>" : Str))]) F__law_plus M (PySem.W.mg_of X G a__law_plus) (fun n1 hn => by
      simp only [List.mem_cons, List.not_mem_nil, or_false] at hn
      rcases hn with rfl
      · exact fun s us ws _ h1 h2 => have h3 : ws.length = 0 := by omega
          match us, ws, h1, h3 with | [_, _], [], _, _ => .of_eq rfl) h__law_lowest
  have F__law_minus := fun_mk (st := top 50) l__law_minus c__law_minus k__law_minus
  have h__law_minus := w__law_minus (P := l.prog) (w := w) (base := base) (T := [(P_sets_of, ("sets_of" ++ ".<locals>." ++ "<lambda>" : Str)), (P_check_sterns, ("check_sterns" ++ ".<locals>." ++ "<lambda>" : Str)), (P__law_right, ("_law_right" ++ ".<locals>." ++ "<lambda>" : Str))]) F__law_minus M (PySem.W.mg_of X G a__law_minus) (fun n1 hn => by
      simp only [List.mem_cons, List.not_mem_nil, or_false] at hn
      rcases hn with rfl
      · exact fun s us ws _ h1 h2 => have h3 : ws.length = 0 := by omega
          match us, ws, h1, h3 with | [_, _], [], _, _ => .of_eq rfl) h__law_lowest
  have F__law_wind := fun_mk (st := top 51) l__law_wind c__law_wind k__law_wind
  have h__law_wind := w__law_wind (P := l.prog) (w := w) (base := base) (T := [(P_sets_of, ("sets_of" ++ ".<locals>." ++ "<lambda>" : Str)), (P_check_sterns, ("check_sterns" ++ ".<locals>." ++ "<lambda>" : Str)), (P__law_right, ("_law_right" ++ ".<locals>." ++ "<lambda>" : Str))]) F__law_wind M (PySem.W.mg_of X G a__law_wind) (fun n1 hn => by
      simp only [List.mem_cons, List.not_mem_nil, or_false] at hn
      rcases hn with rfl
      · exact fun s us ws _ h1 h2 => have h3 : ws.length = 0 := by omega
          match us, ws, h1, h3 with | [_], [], _, _ => .of_eq rfl) h__law_of
  have F__law_sterns := fun_mk (st := top 52) l__law_sterns c__law_sterns k__law_sterns
  have h__law_sterns := w__law_sterns (P := l.prog) (w := w) (base := base) (T := [(P_sets_of, ("sets_of" ++ ".<locals>." ++ "<lambda>" : Str)), (P_check_sterns, ("check_sterns" ++ ".<locals>." ++ "<lambda>" : Str)), (P__law_right, ("_law_right" ++ ".<locals>." ++ "<lambda>" : Str))]) F__law_sterns M (PySem.W.mg_of X G a__law_sterns) (fun n1 hn => by
      simp only [List.mem_cons, List.not_mem_nil, or_false] at hn
      rcases hn with rfl
      · exact fun s us ws _ h1 h2 => have h3 : ws.length = 0 := by omega
          match us, ws, h1, h3 with | [_], [], _, _ => .of_eq rfl) h__law_draw h__law_lowest h__law_plus h__law_wind
  have F__law_stern_fits := fun_mk (st := top 53) l__law_stern_fits c__law_stern_fits k__law_stern_fits
  have h__law_stern_fits := w__law_stern_fits (P := l.prog) (w := w) (base := base) (T := [(P_sets_of, ("sets_of" ++ ".<locals>." ++ "<lambda>" : Str)), (P_check_sterns, ("check_sterns" ++ ".<locals>." ++ "<lambda>" : Str)), (P__law_right, ("_law_right" ++ ".<locals>." ++ "<lambda>" : Str))]) F__law_stern_fits M (PySem.W.mg_of X G a__law_stern_fits) (fun n1 hn => by
      simp only [List.mem_cons, List.not_mem_nil, or_false] at hn
      rcases hn with rfl
      · exact fun s us ws _ h1 h2 => have h3 : ws.length = 0 := by omega
          match us, ws, h1, h3 with | [_, _, _, _], [], _, _ => .of_eq rfl) h__law_lowest h__law_plus
  have F__law_stern_told := fun_mk (st := top 54) l__law_stern_told c__law_stern_told k__law_stern_told
  have h__law_stern_told := w__law_stern_told (P := l.prog) (w := w) (base := base) (T := [(P_sets_of, ("sets_of" ++ ".<locals>." ++ "<lambda>" : Str)), (P_check_sterns, ("check_sterns" ++ ".<locals>." ++ "<lambda>" : Str)), (P__law_right, ("_law_right" ++ ".<locals>." ++ "<lambda>" : Str))]) F__law_stern_told M (PySem.W.mg_of X G a__law_stern_told) (fun n1 hn => by
      simp only [List.mem_cons, List.not_mem_nil, or_false] at hn
      rcases hn with rfl
      · exact fun s us ws _ h1 h2 => have h3 : ws.length = 0 := by omega
          match us, ws, h1, h3 with | [_], [], _, _ => .of_eq rfl) h__law_lowest h__law_minus h__law_stern_fits
  have F__law_is_none := fun_mk (st := top 55) l__law_is_none c__law_is_none k__law_is_none
  have h__law_is_none := w__law_is_none (P := l.prog) (w := w) (base := base) (T := [(P_sets_of, ("sets_of" ++ ".<locals>." ++ "<lambda>" : Str)), (P_check_sterns, ("check_sterns" ++ ".<locals>." ++ "<lambda>" : Str)), (P__law_right, ("_law_right" ++ ".<locals>." ++ "<lambda>" : Str))]) F__law_is_none M (PySem.W.mg_of X G a__law_is_none) (fun s us _ hl => match us, hl with | [_], _ => .of_eq rfl) 
  have F__law_right := fun_mk (st := top 56) l__law_right c__law_right k__law_right
  have one__law_right : ∀ p ∈ ([(P_sets_of, ("sets_of" ++ ".<locals>." ++ "<lambda>" : Str)), (P_check_sterns, ("check_sterns" ++ ".<locals>." ++ "<lambda>" : Str)), (P__law_right, ("_law_right" ++ ".<locals>." ++ "<lambda>" : Str))] : List (Addr × Str)), p.1 = P__law_right → p.2 = ("_law_right" ++ ".<locals>." ++ "<lambda>" : Str) := tab_one hnd (by simp)
  have h__law_right := w__law_right (P := l.prog) (w := w) (base := base) (T := [(P_sets_of, ("sets_of" ++ ".<locals>." ++ "<lambda>" : Str)), (P_check_sterns, ("check_sterns" ++ ".<locals>." ++ "<lambda>" : Str)), (P__law_right, ("_law_right" ++ ".<locals>." ++ "<lambda>" : Str))]) F__law_right M (PySem.W.mg_of X G a__law_right) (fun n1 hn => by
      simp only [List.mem_cons, List.not_mem_nil, or_false] at hn
      rcases hn with rfl
      · exact fun s us ws _ h1 h2 => have h3 : ws.length = 0 := by omega
          match us, ws, h1, h3 with | [_], [], _, _ => .of_eq rfl) h_do_fit h_told_place h_told_reach h_stern_bar (h__law_same 8) h__law_sets h__law_sterns h__law_stern_told h__law_is_none e__law_right (hTB (C__law_right, P__law_right) (by simp)) (by simp) one__law_right
  have F_law := fun_mk (st := top 57) l_law c_law k_law
  have h_law := w_law (P := l.prog) (w := w) (base := base) (T := [(P_sets_of, ("sets_of" ++ ".<locals>." ++ "<lambda>" : Str)), (P_check_sterns, ("check_sterns" ++ ".<locals>." ++ "<lambda>" : Str)), (P__law_right, ("_law_right" ++ ".<locals>." ++ "<lambda>" : Str))]) F_law M (PySem.W.mg_of X G a_law) (fun n1 hn => by
      simp only [List.mem_cons, List.not_mem_nil, or_false] at hn
      rcases hn with rfl
      · exact fun s us ws _ h1 h2 => have h3 : ws.length = 0 := by omega
          match us, ws, h1, h3 with | [_], [], _, _ => .of_eq rfl) h__law_well h__law_right
  exact ⟨D_law, h_law, hyes⟩
end K82

set_option maxRecDepth 100000
set_option maxHeartbeats 2000000
namespace K82
open PySem DS
/-- a fraction, as the program holds it -/
def fr (q : Rat) : D := .tuple [.int q.num, .int (q.den : Int)]
theorem fr_inj {p q : Rat} (h : fr p = fr q) : p = q := by
  unfold fr at h
  simp only [PyData.tuple.injEq, List.cons.injEq, PyData.int.injEq, and_true] at h
  exact Rat.ext h.1 (by omega)
/-- what stands for the quotient n / s -/
theorem divInt_parts {n s : Int} (hs : s ≠ 0) : (Rat.divInt n s).num = n.fdiv (s.sign * (Nat.gcd n.natAbs s.natAbs : Nat)) ∧ ((Rat.divInt n s).den : Int) = s.fdiv (s.sign * (Nat.gcd n.natAbs s.natAbs : Nat)) ∧ (Rat.divInt n s).num.natAbs ≤ n.natAbs ∧ (Rat.divInt n s).den ≤ s.natAbs := by
  obtain ⟨g, hg⟩ : ∃ g, g = Nat.gcd n.natAbs s.natAbs := ⟨_, rfl⟩
  have g0 : 0 < g := by rw [hg]; exact Nat.gcd_pos_of_pos_right _ (by omega)
  have hgc : Int.gcd s n = g := by rw [hg, Int.gcd_comm]; rfl
  obtain ⟨k, hk⟩ : (g : Int) ∣ n := Int.natAbs_dvd_natAbs.mp (show g ∣ n.natAbs by rw [hg]; exact Nat.gcd_dvd_left _ _)
  obtain ⟨l, hl⟩ : (g : Int) ∣ s := Int.natAbs_dvd_natAbs.mp (show g ∣ s.natAbs by rw [hg]; exact Nat.gcd_dvd_right _ _)
  have gne : (g : Int) ≠ 0 := by omega
  have hkn : k.natAbs ≤ n.natAbs := by
    rw [hk, Int.natAbs_mul]
    exact Nat.le_mul_of_pos_left _ (by simpa using g0)
  rw [← hg, Rat.num_divInt, Rat.den_divInt, if_neg hs, hgc]
  refine ⟨?_, ?_, ?_, Nat.div_le_self _ _⟩
  · rcases Int.lt_or_gt_of_ne hs with h | h
    · rw [Int.sign_eq_neg_one_of_neg h]
      have e1 : (-1 : Int) * n = g * (-k) := by rw [hk]; grind
      have e2 : n = (-1 * (g : Int)) * (-k) := by rw [hk]; grind
      rw [e1, Int.mul_ediv_cancel_left _ gne]
      rw [e2, Int.mul_fdiv_cancel_left _ (by omega)]
    · rw [Int.sign_eq_one_of_pos h, Int.one_mul, Int.one_mul, hk, Int.mul_ediv_cancel_left _ gne, Int.mul_fdiv_cancel_left _ gne]
  · rcases Int.lt_or_gt_of_ne hs with h | h
    · rw [Int.sign_eq_neg_one_of_neg h]
      have e2 : s = (-1 * (g : Int)) * (-l) := by rw [hl]; grind
      have e3 : (s.natAbs : Int) = g * (-l) := by rw [Int.ofNat_natAbs_of_nonpos (by omega), hl]; grind
      rw [Int.natCast_ediv, e3, Int.mul_ediv_cancel_left _ gne]
      conv => rhs; rw [e2]
      rw [Int.mul_fdiv_cancel_left _ (by omega)]
    · have e3 : (s.natAbs : Int) = g * l := by rw [Int.natAbs_of_nonneg (by omega), hl]
      rw [Int.sign_eq_one_of_pos h, Int.natCast_ediv, e3, Int.mul_ediv_cancel_left _ gne, Int.one_mul]
      conv => rhs; rw [hl]
      rw [Int.mul_fdiv_cancel_left _ gne]
  · rcases Int.lt_or_gt_of_ne hs with h | h
    · rw [Int.sign_eq_neg_one_of_neg h]
      have e1 : (-1 : Int) * n = g * (-k) := by rw [hk]; grind
      rw [e1, Int.mul_ediv_cancel_left _ gne, Int.natAbs_neg]
      exact hkn
    · rw [Int.sign_eq_one_of_pos h, Int.one_mul]
      have e1 : n / (g : Int) = k := by rw [hk, Int.mul_ediv_cancel_left _ gne]
      rw [e1]; exact hkn
theorem small_of {i : Int} {n : Nat} (h : i.natAbs < 2 ^ n) (hn : n ≤ 8000) : small i = true := by
  unfold small
  exact decide_eq_true (Nat.lt_of_lt_of_le h (Nat.pow_le_pow_right (by decide) hn))
theorem small_abs {i : Int} (h : small i = true) : i.natAbs < 2 ^ 8000 := of_decide_eq_true h
theorem gcd_small {n s : Int} (hs : s ≠ 0) (h : small s = true) : small ((Nat.gcd n.natAbs s.natAbs : Nat) : Int) = true ∧ small (-((Nat.gcd n.natAbs s.natAbs : Nat) : Int)) = true := by
  have h1 := small_abs h
  have h2 : Nat.gcd n.natAbs s.natAbs ≤ s.natAbs := Nat.le_of_dvd (by omega) (Nat.gcd_dvd_right _ _)
  have h3 : Nat.gcd n.natAbs s.natAbs < 2 ^ 8000 := Nat.lt_of_le_of_lt h2 h1
  constructor
  · exact small_of (n := 8000) (by simpa using h3) (Nat.le_refl _)
  · exact small_of (n := 8000) (by simpa using h3) (Nat.le_refl _)
theorem m_lowest {n s : Int} (hs : s ≠ 0) (h1 : small s = true) (m : Ms) : D_lowest [.v (.int n), .v (.int s)] m = .ok (fr (Rat.divInt n s)) m := by
  have hg : Nat.gcd n.natAbs s.natAbs ≠ 0 := Nat.ne_of_gt (Nat.gcd_pos_of_pos_right _ (by omega))
  obtain ⟨hgs, hgn⟩ := gcd_small (n := n) hs h1
  obtain ⟨p1, p2, _⟩ := divInt_parts (n := n) hs
  unfold D_lowest
  by_cases hp : s > 0
  · have hsg : s.sign = 1 := Int.sign_eq_one_of_pos hp
    rw [hsg, Int.one_mul] at p1 p2
    simp [G_lowest, hp, dFdiv_int, hg, hgs, fr, p1, p2, lineN]
  · have hsg : s.sign = -1 := Int.sign_eq_neg_one_of_neg (by omega)
    rw [hsg] at p1 p2
    simp [G_lowest, hp, dFdiv_int, hg, hgn, fr, p1, p2, lineN]
/-! ### sums, differences, products, quotients -/
/-- below 2 ^ n, above and below -/
structure Bd (n : Nat) (q : Rat) : Prop where
  num : q.num.natAbs < 2 ^ n
  den : q.den < 2 ^ n
theorem Bd.mono {n k : Nat} {q : Rat} (b : Bd n q) (h : n ≤ k) : Bd k q := ⟨Nat.lt_of_lt_of_le b.num (Nat.pow_le_pow_right (by decide) h), Nat.lt_of_lt_of_le b.den (Nat.pow_le_pow_right (by decide) h)⟩
theorem bd_divInt {n s : Int} {k : Nat} (hs : s ≠ 0) (h1 : n.natAbs < 2 ^ k) (h2 : s.natAbs < 2 ^ k) : Bd k (Rat.divInt n s) :=
  let ⟨_, _, p3, p4⟩ := divInt_parts (n := n) hs
  ⟨Nat.lt_of_le_of_lt p3 h1, Nat.lt_of_le_of_lt p4 h2⟩
theorem mul_lt {a b : Int} {n k : Nat} (h1 : a.natAbs < 2 ^ n) (h2 : b.natAbs < 2 ^ k) : (a * b).natAbs < 2 ^ (n + k) := by
  rw [Int.natAbs_mul, Nat.pow_add]
  exact Nat.mul_lt_mul'' h1 h2
theorem den_lt {q : Rat} {n : Nat} (b : Bd n q) : ((q.den : Int)).natAbs < 2 ^ n := by simpa using b.den
theorem den_ne (q : Rat) : (q.den : Int) ≠ 0 := by have := q.den_nz; omega
theorem add_eq (a b : Rat) : a + b = Rat.divInt (a.num * b.den + b.num * a.den) (a.den * b.den) := by
  conv => lhs; rw [← Rat.num_divInt_den a, ← Rat.num_divInt_den b]
  rw [Rat.divInt_add_divInt _ _ (den_ne a) (den_ne b)]
theorem sub_eq (a b : Rat) : a - b = Rat.divInt (a.num * b.den - b.num * a.den) (a.den * b.den) := by
  rw [Rat.sub_eq_add_neg, add_eq, Rat.neg_num, Rat.neg_den, Int.neg_mul, Int.sub_eq_add_neg]
theorem mul_eq (a b : Rat) : a * b = Rat.divInt (a.num * b.num) (a.den * b.den) := by
  conv => lhs; rw [← Rat.num_divInt_den a, ← Rat.num_divInt_den b]
  rw [Rat.divInt_mul_divInt]
theorem div_eq (a b : Rat) : a / b = Rat.divInt (a.num * b.den) (a.den * b.num) := by
  conv => lhs; rw [← Rat.num_divInt_den a, ← Rat.num_divInt_den b]
  rw [Rat.div_def, Rat.inv_divInt, Rat.divInt_mul_divInt]
theorem add_lt {a b : Int} {n : Nat} (h1 : a.natAbs < 2 ^ n) (h2 : b.natAbs < 2 ^ n) : (a + b).natAbs < 2 ^ (n + 1) := by
  have e : (2 : Nat) ^ (n + 1) = 2 ^ n + 2 ^ n := by rw [Nat.pow_succ]; omega
  have := Int.natAbs_add_le a b
  omega
theorem sub_lt {a b : Int} {n : Nat} (h1 : a.natAbs < 2 ^ n) (h2 : b.natAbs < 2 ^ n) : (a - b).natAbs < 2 ^ (n + 1) := by
  rw [Int.sub_eq_add_neg]
  exact add_lt h1 (by rw [Int.natAbs_neg]; exact h2)
theorem pw {a n k : Nat} (h : a < 2 ^ n) (hk : n ≤ k) : a < 2 ^ k := Nat.lt_of_lt_of_le h (Nat.pow_le_pow_right (by decide) hk)
theorem Bd.add {a b : Rat} {n k : Nat} (h1 : Bd n a) (h2 : Bd k b) : Bd (n + k + 1) (a + b) := by
  rw [add_eq]
  refine bd_divInt ?_ (add_lt (mul_lt h1.num (den_lt h2)) (by rw [Nat.add_comm n k]; exact mul_lt h2.num (den_lt h1))) (pw (mul_lt (den_lt h1) (den_lt h2)) (by omega))
  exact Int.mul_ne_zero (den_ne a) (den_ne b)
theorem Bd.sub {a b : Rat} {n k : Nat} (h1 : Bd n a) (h2 : Bd k b) : Bd (n + k + 1) (a - b) := by
  rw [sub_eq]
  refine bd_divInt ?_ (sub_lt (mul_lt h1.num (den_lt h2)) (by rw [Nat.add_comm n k]; exact mul_lt h2.num (den_lt h1))) (pw (mul_lt (den_lt h1) (den_lt h2)) (by omega))
  exact Int.mul_ne_zero (den_ne a) (den_ne b)
theorem Bd.mul {a b : Rat} {n k : Nat} (h1 : Bd n a) (h2 : Bd k b) : Bd (n + k) (a * b) := by
  rw [mul_eq]
  exact bd_divInt (Int.mul_ne_zero (den_ne a) (den_ne b)) (mul_lt h1.num h2.num) (mul_lt (den_lt h1) (den_lt h2))
theorem num_ne {b : Rat} (h : b ≠ 0) : b.num ≠ 0 := fun z => h (Rat.num_eq_zero.mp z)
theorem Bd.div {a b : Rat} {n k : Nat} (h1 : Bd n a) (h2 : Bd k b) (hb : b ≠ 0) : Bd (n + k) (a / b) := by
  rw [div_eq]
  exact bd_divInt (Int.mul_ne_zero (den_ne a) (num_ne hb)) (mul_lt h1.num (den_lt h2)) (mul_lt (den_lt h1) h2.num)
theorem ix_nat (xs : List D) (k : Nat) (d : D) (h : xs[k]? = some d) : dIx (.tuple xs) (.int (k : Int)) = some d := by
  show L2.atI xs (k : Int) = some d
  unfold L2.atI
  rw [ixN_nat (List.getElem?_eq_some_iff.mp h).1]
  exact h
theorem ix_natL (xs : List D) (k : Nat) (d : D) (h : xs[k]? = some d) : dIx (.list xs) (.int (k : Int)) = some d := by
  show L2.atI xs (k : Int) = some d
  unfold L2.atI
  rw [ixN_nat (List.getElem?_eq_some_iff.mp h).1]
  exact h
@[simp] theorem ix0 (a : D) (r : List D) : dIx (.tuple (a :: r)) (.int 0) = some a := ix_nat _ 0 a rfl
@[simp] theorem ix1 (a b : D) (r : List D) : dIx (.tuple (a :: b :: r)) (.int 1) = some b := ix_nat _ 1 b rfl
@[simp] theorem ix2 (a b c : D) (r : List D) : dIx (.tuple (a :: b :: c :: r)) (.int 2) = some c := ix_nat _ 2 c rfl
@[simp] theorem ix0L (a : D) (r : List D) : dIx (.list (a :: r)) (.int 0) = some a := ix_natL _ 0 a rfl
@[simp] theorem ix1L (a b : D) (r : List D) : dIx (.list (a :: b :: r)) (.int 1) = some b := ix_natL _ 1 b rfl
@[simp] theorem ix2L (a b c : D) (r : List D) : dIx (.list (a :: b :: c :: r)) (.int 2) = some c := ix_natL _ 2 c rfl
section
variable {a b : Rat} {n k : Nat} (h1 : Bd n a) (h2 : Bd k b) (hn : n + k ≤ 7990) (m : Ms)
include h1 h2 hn
theorem m_sum : D_sum_of_two [.v (fr a), .v (fr b)] m = .ok (fr (a + b)) m := by
  have s1 := small_of h1.num (by omega)
  have s2 := small_of h2.num (by omega)
  have s3 := small_of (den_lt h1) (by omega)
  have s4 := small_of (den_lt h2) (by omega)
  have s5 := small_of (mul_lt (den_lt h1) (den_lt h2)) (by omega)
  have e := m_lowest (n := a.num * b.den + b.num * a.den) (Int.mul_ne_zero (den_ne a) (den_ne b)) s5 m
  unfold fr at e
  rw [add_eq]
  simp [D_sum_of_two, G_sum_of_two, fr, dMul_int, s1, s2, s3, s4, e]
theorem m_diff : D_difference [.v (fr a), .v (fr b)] m = .ok (fr (a - b)) m := by
  have s1 := small_of h1.num (by omega)
  have s2 := small_of h2.num (by omega)
  have s3 := small_of (den_lt h1) (by omega)
  have s4 := small_of (den_lt h2) (by omega)
  have s5 := small_of (mul_lt (den_lt h1) (den_lt h2)) (by omega)
  have e := m_lowest (n := a.num * b.den - b.num * a.den) (Int.mul_ne_zero (den_ne a) (den_ne b)) s5 m
  unfold fr at e
  rw [sub_eq]
  simp [D_difference, G_difference, fr, dMul_int, s1, s2, s3, s4, e]
theorem m_prod : D_product_of_two [.v (fr a), .v (fr b)] m = .ok (fr (a * b)) m := by
  have s1 := small_of h1.num (by omega)
  have s2 := small_of h2.num (by omega)
  have s3 := small_of (den_lt h1) (by omega)
  have s4 := small_of (den_lt h2) (by omega)
  have s5 := small_of (mul_lt (den_lt h1) (den_lt h2)) (by omega)
  have e := m_lowest (n := a.num * b.num) (Int.mul_ne_zero (den_ne a) (den_ne b)) s5 m
  unfold fr at e
  rw [mul_eq]
  simp [D_product_of_two, G_product_of_two, fr, dMul_int, s1, s2, s3, s4, e]
theorem m_quot (hb : b ≠ 0) : D_quotient [.v (fr a), .v (fr b)] m = .ok (fr (a / b)) m := by
  have s1 := small_of h1.num (by omega)
  have s2 := small_of h2.num (by omega)
  have s3 := small_of (den_lt h1) (by omega)
  have s4 := small_of (den_lt h2) (by omega)
  have s5 := small_of (mul_lt (den_lt h1) h2.num) (by omega)
  have e := m_lowest (n := a.num * b.den) (Int.mul_ne_zero (den_ne a) (num_ne hb)) s5 m
  unfold fr at e
  rw [div_eq]
  simp [D_quotient, G_quotient, fr, dMul_int, s1, s2, s3, s4, e]
end
/-! ### the law's own fractions -/
theorem w_gcd (n s : D) (m : Ms) : ∀ (k : Nat) (a b : Nat), b < k → whileF (tV (eBin dGt (eV 3) (eC (.int 0)))) (sPar 2 3 (aCons (eV 3) (aCons (eBi dInt (aCons (eBin dMod (eV 2) (eV 3)) aNil)) aNil))) k [.v n, .v s, .v (.int (a : Int)), .v (.int (b : Int))] m = .next [.v n, .v s, .v (.int (Nat.gcd b a : Nat)), .v (.int 0)] m
  | 0, a, b, h => by omega
  | k + 1, a, b, h => by
    unfold whileF
    by_cases hb : b = 0
    · subst hb
      simp
    · have h0 : (0 : Int) < (b : Int) := by omega
      have hne : (b : Int) ≠ 0 := by omega
      have hm : (a : Int).fmod (b : Int) = ((a % b : Nat) : Int) := by
        rw [Int.fmod_eq_emod_of_nonneg _ (by omega)]; rfl
      have ih := w_gcd n s m k b (a % b) (by have := Nat.mod_lt a (show 0 < b by omega); omega)
      simp [h0, dMod_int, hne, hm, hb, Nat.pos_of_ne_zero hb]
      rw [show ((a % b : Nat) : Int) = (a : Int) % (b : Int) from rfl] at ih
      rw [ih, Nat.gcd_rec b a]
theorem m_llow {n s : Int} (hs : 0 < s) (h1 : small s = true) (m : Ms) : D__law_lowest [.v (.int n), .v (.int s)] m = .ok (fr (Rat.divInt n s)) m := by
  have hs' : s ≠ 0 := by omega
  have hg : Nat.gcd n.natAbs s.natAbs ≠ 0 := Nat.ne_of_gt (Nat.gcd_pos_of_pos_right _ (by omega))
  obtain ⟨hgs, hgn⟩ := gcd_small (n := n) hs' h1
  obtain ⟨p1, p2, _⟩ := divInt_parts (n := n) hs'
  have hsg : s.sign = 1 := Int.sign_eq_one_of_pos hs
  rw [hsg, Int.one_mul] at p1 p2
  have hlt : s.natAbs < 2 ^ 9000 := Nat.lt_of_lt_of_le (small_abs h1) (Nat.pow_le_pow_right (by decide) (by decide))
  unfold D__law_lowest G__law_lowest
  generalize (2 : Nat) ^ 9000 = N at hlt ⊢
  have w := w_gcd (.int n) (.int s) m N n.natAbs s.natAbs hlt
  have ha : (if n < 0 then -n else n) = (n.natAbs : Int) := by split <;> omega
  have hb : s = (s.natAbs : Int) := by omega
  rw [Nat.gcd_comm] at w
  rw [← hb] at w
  have hg0 : (0 : Int) < (Nat.gcd n.natAbs s.natAbs : Nat) := by omega
  simp only [fn_ev, ev_sSeq, ev_par, ev_aCons, ev_eBi]
  simp [ha, sWhile, w, hg0, dFdiv_int, hg, hgs, fr, p1, p2, lineN]
  all_goals (intro _ z; omega)
section
variable {a b : Rat} {n k : Nat} (h1 : Bd n a) (h2 : Bd k b) (hn : n + k ≤ 7990) (m : Ms)
include h1 h2 hn
theorem den_pos (q : Rat) : (0 : Int) < q.den := by have := q.den_nz; omega
theorem m_lplus : D__law_plus [.v (fr a), .v (fr b)] m = .ok (fr (a + b)) m := by
  have s1 := small_of h1.num (by omega)
  have s2 := small_of h2.num (by omega)
  have s3 := small_of (den_lt h1) (by omega)
  have s4 := small_of (den_lt h2) (by omega)
  have s5 := small_of (mul_lt (den_lt h1) (den_lt h2)) (by omega)
  have e := m_llow (n := a.num * b.den + b.num * a.den) (Int.mul_pos (by have := a.den_nz; omega) (by have := b.den_nz; omega)) s5 m
  unfold fr at e
  rw [add_eq]
  simp [D__law_plus, G__law_plus, fr, dMul_int, s1, s2, s3, s4, e]
theorem m_lminus : D__law_minus [.v (fr a), .v (fr b)] m = .ok (fr (a - b)) m := by
  have s1 := small_of h1.num (by omega)
  have s2 := small_of h2.num (by omega)
  have s3 := small_of (den_lt h1) (by omega)
  have s4 := small_of (den_lt h2) (by omega)
  have s5 := small_of (mul_lt (den_lt h1) (den_lt h2)) (by omega)
  have e := m_llow (n := a.num * b.den - b.num * a.den) (Int.mul_pos (by have := a.den_nz; omega) (by have := b.den_nz; omega)) s5 m
  unfold fr at e
  rw [sub_eq]
  simp [D__law_minus, G__law_minus, fr, dMul_int, s1, s2, s3, s4, e]
end
/-! ### sterns -/
abbrev Wi := Int × Int × Int
structure St where
  w : Wi
  x : Rat
  y : Rat
def wd (w : Wi) : D := .tuple [.int w.1, .int w.2.1, .int w.2.2]
def sd (s : St) : D := .tuple [wd s.w, fr s.x, fr s.y]
def WL : List Wi := [(1, 0, 1), (0, 1, 1), (-1, 0, 1), (0, -1, 1), (3, 4, 5), (-4, 3, 5), (5, -12, 13)]
def E (w : Wi) : Rat := Rat.divInt w.1 w.2.2
def Nn (w : Wi) : Rat := Rat.divInt w.2.1 w.2.2
theorem wl_facts : ∀ w ∈ WL, 0 < w.2.2 ∧ w.1.natAbs < 2 ^ 4 ∧ w.2.1.natAbs < 2 ^ 4 ∧ w.2.2.natAbs < 2 ^ 4 := by decide
theorem wl_apart : ∀ w ∈ WL, ∀ v ∈ WL, w ≠ v → E w = E v → Nn w ≠ Nn v := by decide +kernel
/-- a stern as the law makes it -/
structure Ok (s : St) : Prop where
  w : s.w ∈ WL
  x : Bd 20 s.x
  y : Bd 20 s.y
theorem bdE {w : Wi} (h : w ∈ WL) : Bd 4 (E w) := let ⟨h0, h1, h2, h3⟩ := wl_facts w h; bd_divInt (by omega) h1 h3
theorem bdN {w : Wi} (h : w ∈ WL) : Bd 4 (Nn w) := let ⟨h0, h1, h2, h3⟩ := wl_facts w h; bd_divInt (by omega) h2 h3
@[simp] theorem eqv_fr (a b : Rat) : PyData.eqv (fr a) (fr b) = decide (a = b) := by
  unfold fr
  simp only [eqv_tup, eqvAll_cons, eqvAll_nil, eqv_int, Bool.and_true]
  by_cases h : a = b
  · subst h; simp
  · have : ¬ (a.num = b.num ∧ a.den = b.den) := fun z => h (Rat.ext z.1 z.2)
    simp [h]
    intro z1 z2
    exact this ⟨z1, by omega⟩
@[simp] theorem eqv_wd (a b : Wi) : PyData.eqv (wd a) (wd b) = decide (a = b) := by
  obtain ⟨a1, a2, a3⟩ := a
  obtain ⟨b1, b2, b3⟩ := b
  unfold wd
  simp only [eqv_tup, eqvAll_cons, eqvAll_nil, eqv_int, Bool.and_true, Prod.mk.injEq, Bool.decide_and]
theorem depth_fr (a : Rat) : (fr a).depth = 1 := by simp [fr, PyData.depth, PyData.depthAll]
theorem depth_wd (a : Wi) : (wd a).depth = 1 := by simp [wd, PyData.depth, PyData.depthAll]
theorem depth_sd (s : St) : (sd s).depth = 2 := by simp [sd, PyData.depth, PyData.depthAll, depth_fr, depth_wd]
@[simp] theorem dNe_fr (a b : Rat) : dNe (fr a) (fr b) = some (.bool (!decide (a = b))) := by rw [dNe_of (by simp [shal, depth_fr])]; simp
@[simp] theorem dEq_fr (a b : Rat) : dEq (fr a) (fr b) = some (.bool (decide (a = b))) := by rw [dEq_of (by simp [shal, depth_fr])]; simp
@[simp] theorem dNe_wd (a b : Wi) : dNe (wd a) (wd b) = some (.bool (!decide (a = b))) := by rw [dNe_of (by simp [shal, depth_wd])]; simp
theorem m_parts {w : Wi} (h : w ∈ WL) (m : Ms) : D_parts_of [.v (wd w)] m = .ok (.tuple [fr (E w), fr (Nn w)]) m := by
  obtain ⟨h0, h1, h2, h3⟩ := wl_facts w h
  have s3 := small_of h3 (by decide)
  have e1 := m_lowest (n := w.1) (s := w.2.2) (by omega) s3 m
  have e2 := m_lowest (n := w.2.1) (s := w.2.2) (by omega) s3 m
  simp [D_parts_of, G_parts_of, wd, e1, e2, E, Nn, lineN]
/-- the reach that two sterns of two winds tell -/
def rBy (s t : St) : Rat := if E s.w = E t.w then (s.y - t.y) / (Nn s.w - Nn t.w) else (s.x - t.x) / (E s.w - E t.w)
theorem sub_ne {a b : Rat} (h : a ≠ b) : a - b ≠ 0 := by
  intro z
  apply h
  grind
theorem m_reach {s t : St} (hs : Ok s) (ht : Ok t) (hw : s.w ≠ t.w) (m : Ms) : D_reach_by [.v (sd s), .v (sd t)] m = .ok (fr (rBy s t)) m ∧ Bd 50 (rBy s t) := by
  have p1 := m_parts hs.w m
  have p2 := m_parts ht.w m
  have d1 := m_diff hs.x ht.x (by omega) m
  have d2 := m_diff hs.y ht.y (by omega) m
  have d3 := m_diff (bdE hs.w) (bdE ht.w) (by omega) m
  have d4 := m_diff (bdN hs.w) (bdN ht.w) (by omega) m
  by_cases he : E s.w = E t.w
  · have hn := sub_ne (wl_apart _ hs.w _ ht.w hw he)
    have q := m_quot (hs.y.sub ht.y) ((bdN hs.w).sub (bdN ht.w)) (by omega) m hn
    refine ⟨?_, ?_⟩
    · simp [D_reach_by, G_reach_by, sd, p1, p2, d2, d4, q, rBy, he, lineN]
    · unfold rBy; rw [if_pos he]
      exact ((hs.y.sub ht.y).div ((bdN hs.w).sub (bdN ht.w)) hn).mono (by omega)
  · have hn := sub_ne he
    have q := m_quot (hs.x.sub ht.x) ((bdE hs.w).sub (bdE ht.w)) (by omega) m hn
    refine ⟨?_, ?_⟩
    · simp [D_reach_by, G_reach_by, sd, p1, p2, d1, d3, q, rBy, he, lineN]
    · unfold rBy; rw [if_neg he]
      exact ((hs.x.sub ht.x).div ((bdE hs.w).sub (bdE ht.w)) hn).mono (by omega)
def pX (s : St) (r : Rat) : Rat := s.x - r * E s.w
def pY (s : St) (r : Rat) : Rat := s.y - r * Nn s.w
theorem m_place {s : St} {r : Rat} (hs : Ok s) (hr : Bd 50 r) (m : Ms) : D_place_by [.v (sd s), .v (fr r)] m = .ok (.tuple [fr (pX s r), fr (pY s r)]) m ∧ Bd 80 (pX s r) ∧ Bd 80 (pY s r) := by
  have p1 := m_parts hs.w m
  have q1 := m_prod hr (bdE hs.w) (by omega) m
  have q2 := m_prod hr (bdN hs.w) (by omega) m
  have d1 := m_diff hs.x (hr.mul (bdE hs.w)) (by omega) m
  have d2 := m_diff hs.y (hr.mul (bdN hs.w)) (by omega) m
  refine ⟨?_, (hs.x.sub (hr.mul (bdE hs.w))).mono (by omega), (hs.y.sub (hr.mul (bdN hs.w))).mono (by omega)⟩
  simp [D_place_by, G_place_by, sd, p1, q1, q2, d1, d2, pX, pY, lineN]
def fitB (p q r : Rat) (t : St) : Bool := decide (p + r * E t.w = t.x) && decide (q + r * Nn t.w = t.y)
theorem m_fit {t : St} {p q r : Rat} (ht : Ok t) (hp : Bd 80 p) (hq : Bd 80 q) (hr : Bd 50 r) (m : Ms) : D_does_fit [.v (sd t), .v (.tuple [fr p, fr q]), .v (fr r)] m = .ok (.bool (fitB p q r t)) m := by
  have p1 := m_parts ht.w m
  have q1 := m_prod hr (bdE ht.w) (by omega) m
  have q2 := m_prod hr (bdN ht.w) (by omega) m
  have d1 := m_sum hp (hr.mul (bdE ht.w)) (by omega) m
  have d2 := m_sum hq (hr.mul (bdN ht.w)) (by omega) m
  by_cases h1 : p + r * E t.w = t.x
  · simp [D_does_fit, G_does_fit, sd, p1, q1, q2, d1, d2, fitB, h1, lineN]
  · simp [D_does_fit, G_does_fit, sd, p1, q1, q2, d1, d2, fitB, h1, lineN]
/-! ### what fits -/
/-- a container that holds l -/
def Con (c : D) (l : List St) : Prop := c = .tuple (l.map sd) ∨ c = .list (l.map sd)
theorem con_items {c : D} {l : List St} (h : Con c l) : itemsOf c = some (l.map sd) := by rcases h with rfl | rfl <;> rfl
theorem con_ix0 {c : D} {s : St} {l : List St} (h : Con c (s :: l)) : dIx c (.int 0) = some (sd s) := by rcases h with rfl | rfl <;> simp
def rFor (s : St) (l : List St) : Rat := match l.find? (fun t => decide (t.w ≠ s.w)) with
  | some t => rBy s t
  | none => 1
theorem fr_one : fr 1 = c_WHOLE := by rfl
theorem m_reachFor {c : D} {s : St} {l0 : List St} (hc : Con c (s :: l0)) (hs : Ok s) (m : Ms) : ∀ (l : List St) (u : Slot), (∀ t ∈ l, Ok t) →
    (forF (gV 1) (sIf (tV (eBin dNe (eBin dIx (eV 1) (eC (.int 0))) (eBin dIx (eBin dIx (eV 0) (eC (.int 0))) (eC (.int 0))))) (sRet (eCall D_reach_by (xCons (xV (eBin dIx (eV 0) (eC (.int 0)))) (xCons (xV (eV 1)) xNil)))) sNil) (l.map sd) [.v c, u] m).seq (sRet (eC c_WHOLE)) = .ret (fr (rFor s l)) m
  | [], u, _ => by simp [rFor, fr_one]
  | t :: l, u, h => by
    have ih := m_reachFor hc hs m l (.v (sd t)) fun t ht => h t (by simp [ht])
    have ht := h t (by simp)
    have hi := con_ix0 hc
    rw [List.map_cons, for_cons (ρ' := [.v c, .v (sd t)]) (by simp)]
    by_cases hw : t.w = s.w
    · have e : rFor s (t :: l) = rFor s l := by unfold rFor; rw [List.find?_cons_of_neg (by simp [hw])]
      rw [e, ← ih]
      simp [hi, sd, hw]
    · have e : rFor s (t :: l) = rBy s t := by unfold rFor; rw [List.find?_cons_of_pos (by simp [hw])]
      obtain ⟨q, _⟩ := m_reach hs ht (fun z => hw z.symm) m
      rw [e]
      have h0 : dIx (sd t) (.int 0) = some (wd t.w) := by simp [sd]
      have h1 : dIx (sd s) (.int 0) = some (wd s.w) := by simp [sd]
      simp [hi, h0, h1, hw, q]
theorem bd_rFor {s : St} {l : List St} (hs : Ok s) (hl : ∀ t ∈ l, Ok t) : Bd 50 (rFor s l) := by
  unfold rFor
  split
  · rename_i t ht
    have h1 := List.find?_some ht
    have h2 := List.mem_of_find?_eq_some ht
    exact (m_reach hs (hl t h2) (fun z => by simp [z] at h1) []).2
  · exact ⟨by decide, by decide⟩
/-- what fits: the place and the reach -/
def fits (s : St) (l : List St) : Option (Rat × Rat × Rat) :=
  if (rFor s l).num ≤ 0 then none else if l.all (fitB (pX s (rFor s l)) (pY s (rFor s l)) (rFor s l)) then some (pX s (rFor s l), pY s (rFor s l), rFor s l) else none
def fitD : Option (Rat × Rat × Rat) → D
  | none => .list []
  | some (p, q, r) => .list [.tuple [fr p, fr q, fr r]]
theorem m_fits {c : D} {s : St} {l0 : List St} (hc : Con c (s :: l0)) (hl : ∀ t ∈ s :: l0, Ok t) (hn : l0.length ≤ 100) (m : Ms) : D_fits_of [.v c] m = .ok (fitD (fits s (s :: l0))) m := by
  have hs := hl s (by simp)
  have hr := bd_rFor hs hl
  have hi := con_ix0 hc
  have r1 : D_reach_for [.v c] m = .ok (fr (rFor s (s :: l0))) m := by
    have q := m_reachFor hc hs m (s :: l0) .un hl
    simp [D_reach_for, G_reach_for, con_items hc]
    simp at q
    rw [q]; simp
  obtain ⟨p1, hp, hq⟩ := m_place hs hr m
  have h0 : dIx (fr (rFor s (s :: l0))) (.int 0) = some (.int (rFor s (s :: l0)).num) := by simp [fr]
  unfold fits
  generalize rFor s (s :: l0) = r at *
  generalize pX s r = p at *
  generalize pY s r = q at *
  by_cases hle : r.num ≤ 0
  · rw [if_pos hle]
    simp [D_fits_of, G_fits_of, r1, h0, hle, fitD, lineN]
  · rw [if_neg hle]
    have lc : lcF (gV 3) tTrue (eCall D_does_fit (xCons (xV (eV 3)) (xCons (xV (eV 2)) (xCons (xV (eV 1)) xNil)))) ((s :: l0).map sd) [.v c, .v (fr r), .v (.tuple [fr p, fr q]), .un] m = .ok ((s :: l0).map fun t => .bool (fitB p q r t)) m := by
      refine lc_all sd _ (s :: l0) fun t ht => ⟨[.v c, .v (fr r), .v (.tuple [fr p, fr q]), .v (sd t)], by simp, ?_⟩
      have z := m_fit (hl t ht) hp hq hr m
      simp [z]
    have hlen : ((s :: l0).map sd).length ≤ lineN := by simp [lineN]; omega
    have dm := dAll_map (fitB p q r) (s :: l0)
    generalize (s :: l0).all (fitB p q r) = b at dm ⊢
    have hlz : l0.length + 1 ≤ lineN := by unfold lineN; omega
    generalize hxs : (s :: l0).map sd = xs at lc hlen
    have hit : itemsOf c = some xs := by rw [← hxs]; exact con_items hc
    generalize hys : ((s :: l0).map fun t => PyData.bool (fitB p q r t)) = ys at lc dm
    have hst : aStar (eV 2) (aCons (eV 1) aNil) [.v c, .v (fr r), .v (.tuple [fr p, fr q]), .un] m = .ok [fr p, fr q, fr r] m := by
      simp [aStar]
    simp only [D_fits_of, G_fits_of, fn_ev, ev_sSeq, ev_sAsg]
    have h1 : (1 : Nat) ≤ lineN := by decide
    have h3 : (3 : Nat) ≤ lineN := by decide
    simp [r1, h0, hle, hi, p1, hit, wipeS, lc, hlen, dm, hst, h1, h3]
    cases b <;> simp [fitD]
/-! ### the checks pass -/
theorem m_tupOf (xs : List D) (n : Nat) (h : xs.length = n) (m : Ms) : D_is_tuple_of [.v (.tuple xs), .v (.int (n : Int))] m = .ok (.bool true) m := by
  subst h
  simp [D_is_tuple_of, G_is_tuple_of]
theorem m_whole (i : Int) (m : Ms) : D_is_whole [.v (.int i)] m = .ok (.bool true) m := by simp [D_is_whole, G_is_whole]
theorem m_isFr (q : Rat) (m : Ms) : D_is_fraction [.v (fr q)] m = .ok (.bool true) m := by
  have h1 := m_tupOf [.int q.num, .int (q.den : Int)] 2 rfl m
  have h2 := m_whole q.num m
  have h3 := m_whole (q.den : Int) m
  have hd := q.den_nz
  have h4 : ¬ ((q.den : Int) < 1) := by omega
  have h5 : Nat.gcd q.num.natAbs q.den = 1 := q.reduced
  simp at h1
  simp [D_is_fraction, G_is_fraction, fr, h1, h2, h3, h4, h5]
theorem m_isWind {w : Wi} (h : w ∈ WL) (m : Ms) : D_is_wind_form [.v (wd w)] m = .ok (.bool true) m := by
  have h1 := m_tupOf [.int w.1, .int w.2.1, .int w.2.2] 3 rfl m
  have lc : ∀ ρ : List Slot, ρ.length = 2 → lcF (gV 1) tTrue (eCall D_is_whole (xCons (xV (eV 1)) xNil)) ([w.1, w.2.1, w.2.2].map PyData.int) ρ m = .ok ([w.1, w.2.1, w.2.2].map fun _ => .bool true) m := fun ρ hρ => by
    refine lc_all _ _ _ fun t ht => ⟨ρ.set 1 (.v (.int t)), by simp [hρ], ?_⟩
    have z := m_whole t m
    have e : (ρ.set 1 (.v (.int t)))[1]? = some (.v (.int t)) := by rw [List.getElem?_set_self (by omega)]
    simp [z, ev_eV, e]
  have lc1 := lc [.v (wd w), .un] rfl
  have dm := dAll_map (fun _ : Int => true) [w.1, w.2.1, w.2.2]
  have hl : (3 : Nat) ≤ lineN := by decide
  simp at h1 lc1 dm
  simp only [WL, List.mem_cons, List.not_mem_nil, or_false] at h
  have sm : ∀ i : Int, i.natAbs < 2 ^ 8 → small i = true := fun i hi => small_of hi (by decide)
  rcases h with rfl | rfl | rfl | rfl | rfl | rfl | rfl <;>
    simp [wd] at h1 lc1 dm ⊢ <;>
    simp [D_is_wind_form, G_is_wind_form, h1, wipeS, lc1, dm, hl, eChain, c_MOST_SCALE, D_square_of, G_square_of, D_dot, G_dot, dSl, cutD, HT.sIx, dMul_int, sm]
theorem m_isStern {s : St} (h : Ok s) (m : Ms) : D_is_stern [.v (sd s)] m = .ok (.bool true) m := by
  have h1 := m_tupOf [wd s.w, fr s.x, fr s.y] 3 rfl m
  have h2 := m_isWind h.w m
  have h3 := m_isFr s.x m
  have h4 := m_isFr s.y m
  simp at h1
  simp [D_is_stern, G_is_stern, sd, h1, h2, h3, h4]
/-- the closure that check_sterns hands on -/
abbrev gIs : FnSem := lamD 2 [] (eCall D_is_stern (xCons (xV (eV 0)) xNil))
theorem m_gIs {s : St} (h : Ok s) (d : D) (m : Ms) : gIs [.v (sd s), .v d] m = .ok (.bool true) m := by
  simp [gIs, lamD, m_isStern h m]
theorem m_wrongFor (xs : D) (hxs : ∃ ys, xs = .tuple ys) (m : Ms) : ∀ (l : List St) (k : Nat) (u v : Slot), (∀ t ∈ l, Ok t) → k + l.length ≤ 9 →
    (forF (gTup' 2 (gCons' (gV 3) (gCons' (gV 4) gNil'))) (sIf (tOr (tV (eBin dEq (eV 3) (eV 1))) (tNot (tV (eCallC 2 0 gIs (xCons (xV (eV 4)) (xCons (xV (eSl (eV 0) oNone (oSome (eV 3)))) xNil)))))) (sRet (eLst (aCons (eV 3) aNil))) sNil) (enD k (l.map sd)) [.v xs, .v (.int 10), .fn 0, u, v] m).seq (sRet (eLst aNil)) = .ret (.list []) m
  | [], k, u, v, _, _ => by simp [enD]
  | t :: l, k, u, v, h, hk => by
    obtain ⟨ys, rfl⟩ := hxs
    have ih := m_wrongFor (.tuple ys) ⟨ys, rfl⟩ m l (k + 1) (.v (.int (k : Nat))) (.v (sd t)) (fun t ht => h t (by simp [ht])) (by simp at hk; omega)
    have g := m_gIs (h t (by simp))
    have hk' : ¬ (k : Int) = 10 := by simp at hk; omega
    simp only [List.map_cons, enD]
    rw [for_cons (ρ' := [.v (.tuple ys), .v (.int 10), .fn 0, .v (.int (k : Nat)), .v (sd t)]) (by simp)]
    rw [← ih]
    simp [hk', eCallC, fnAtS, dSl, g]
theorem m_wrong {l : List St} (h : ∀ t ∈ l, Ok t) (hn : l ≠ []) (hl : l.length ≤ 9) (m : Ms) : D_wrong_from_one gIs [.v (.tuple (l.map sd)), .v (.int 10)] m = .ok (.list []) m := by
  have q := m_wrongFor (.tuple (l.map sd)) ⟨_, rfl⟩ m l 0 .un .un h (by omega)
  have w : D_wrong_at gIs [.v (.tuple (l.map sd)), .v (.int 10)] m = .ok (.list []) m := by
    unfold D_wrong_at G_wrong_at
    simp
    rw [q]
    simp
  have e : PyData.eqv (.tuple (l.map sd)) (.tuple []) = false := by
    cases l with
    | nil => exact absurd rfl hn
    | cons t l => simp [PyData.eqvAll]
  have hd : dEq (.tuple (l.map sd)) (.tuple []) = some (.bool false) := by
    rw [dEq_of (by simp [shal, PyData.depth, PyData.depthAll]), e]
  unfold D_wrong_from_one G_wrong_from_one
  simp [hd, ev_eCallH, w]
theorem m_check {l : List St} (h : ∀ t ∈ l, Ok t) (hn : l ≠ []) (hl : l.length ≤ 9) (m : Ms) : D_check_sterns [.v (.tuple (l.map sd))] m = .ok .none m := by
  have q := m_wrong h hn hl m
  unfold D_check_sterns G_check_sterns
  simp [c_MOST_STERNS]
  have q' : D_wrong_from_one (lamD 2 [] (eCall D_is_stern (xCons (xV (eV 0)) xNil))) [.v (.tuple (l.map sd)), .v (.int 10)] m = .ok (.list []) m := q
  simp [q']
/-! ### what the program answers -/
theorem ne_fitD (o : Option (Rat × Rat × Rat)) : dNe (fitD o) (.list []) = some (.bool o.isSome) := by
  rw [dNe_of (by simp [shal, PyData.depth, PyData.depthAll]; omega)]
  cases o with
  | none => simp [fitD]
  | some p => simp [fitD, PyData.eqvAll]
theorem eq_fitD (o : Option (Rat × Rat × Rat)) : dEq (fitD o) (.list []) = some (.bool o.isNone) := by
  rw [dEq_of (by simp [shal, PyData.depth, PyData.depthAll]; omega)]
  cases o with
  | none => simp [fitD]
  | some p => simp [fitD, PyData.eqvAll]
section
variable {s : St} {l0 : List St} (h : ∀ t ∈ s :: l0, Ok t) (hl : l0.length ≤ 8) (m : Ms)
include h hl
theorem m_doFit : D_do_fit [.v (.tuple ((s :: l0).map sd))] m = .ok (.bool (fits s (s :: l0)).isSome) m := by
  have c := m_check h (by simp) (by simp; omega) m
  have f := m_fits (c := .tuple ((s :: l0).map sd)) (.inl rfl) h (by omega) m
  generalize PyData.tuple ((s :: l0).map sd) = C at c f ⊢
  simp [D_do_fit, G_do_fit, c, f, ne_fitD]
theorem m_checkFit : D_check_fit [.v (.tuple ((s :: l0).map sd))] m = if (fits s (s :: l0)).isSome = true then .ok .none m else .exc ⟨"NoFit", none⟩ m := by
  have c := m_check h (by simp) (by simp; omega) m
  have f := m_fits (c := .tuple ((s :: l0).map sd)) (.inl rfl) h (by omega) m
  generalize PyData.tuple ((s :: l0).map sd) = C at c f ⊢
  generalize fits s (s :: l0) = o at f ⊢
  cases o with
  | none => simp [D_check_fit, G_check_fit, c, f, eq_fitD, sRaise0]
  | some p => simp [D_check_fit, G_check_fit, c, f, eq_fitD]
/-- all of one wind -/
def oneW (s : St) (l : List St) : Bool := l.all fun t => decide (t.w = s.w)
theorem m_oneWind : D_are_of_one_wind [.v (.tuple ((s :: l0).map sd))] m = .ok (.bool (oneW s (s :: l0))) m := by
  have hi := con_ix0 (c := .tuple ((s :: l0).map sd)) (.inl rfl)
  have hw : ∀ t : St, dIx (sd t) (.int 0) = some (wd t.w) := fun t => by simp [sd]
  have dw : ∀ a b : Wi, dEq (wd a) (wd b) = some (.bool (decide (a = b))) := fun a b => by rw [dEq_of (by simp [shal, depth_wd])]; simp
  have lc : ∀ C : D, dIx C (.int 0) = some (sd s) → lcF (gV 1) tTrue (eBin dEq (eBin dIx (eV 1) (eC (.int 0))) (eBin dIx (eBin dIx (eV 0) (eC (.int 0))) (eC (.int 0)))) ((s :: l0).map sd) [.v C, .un] m = .ok ((s :: l0).map fun t => .bool (decide (t.w = s.w))) m := fun C hC => by
    refine lc_all sd _ (s :: l0) fun t ht => ⟨[.v C, .v (sd t)], by simp, ?_⟩
    simp [hC, hw, dw]
  have lc' := lc _ hi
  have dm := dAll_map (fun t : St => decide (t.w = s.w)) (s :: l0)
  have hlen : ((s :: l0).map sd).length ≤ lineN := by simp [lineN]; omega
  have hit : itemsOf (.tuple ((s :: l0).map sd)) = some ((s :: l0).map sd) := rfl
  unfold oneW
  generalize (s :: l0).all (fun t => decide (t.w = s.w)) = b at dm ⊢
  generalize PyData.tuple ((s :: l0).map sd) = C at lc' hit ⊢
  generalize (s :: l0).map sd = xs at lc' hlen hit
  generalize ((s :: l0).map fun t => PyData.bool (decide (t.w = s.w))) = ys at lc' dm
  simp [D_are_of_one_wind, G_are_of_one_wind, hit, wipeS, lc', hlen, dm]
def toldP (s : St) (l : List St) : Option (Rat × Rat × Rat) → D
  | some (p, q, r) => if oneW s l = true then .none else .tuple [fr p, fr q]
  | none => .none
def toldR (s : St) (l : List St) : Option (Rat × Rat × Rat) → D
  | some (p, q, r) => if oneW s l = true then .none else fr r
  | none => .none
theorem m_toldPlace : D_told_place [.v (.tuple ((s :: l0).map sd))] m = if (fits s (s :: l0)).isSome = true then .ok (toldP s (s :: l0) (fits s (s :: l0))) m else .exc ⟨"NoFit", none⟩ m := by
  have c := m_checkFit h hl m
  have f := m_fits (c := .tuple ((s :: l0).map sd)) (.inl rfl) h (by omega) m
  have o := m_oneWind h hl m
  generalize PyData.tuple ((s :: l0).map sd) = C at c f o ⊢
  generalize fits s (s :: l0) = x at c f ⊢
  cases x with
  | none => simp at c; simp [D_told_place, G_told_place, c]
  | some p =>
    simp at c
    cases ho : oneW s (s :: l0) with
    | true => rw [ho] at o; simp [D_told_place, G_told_place, c, o, toldP, ho]
    | false => rw [ho] at o; simp [D_told_place, G_told_place, c, o, f, toldP, ho, fitD, dSl, cutD, HT.sIx]
theorem m_toldReach : D_told_reach [.v (.tuple ((s :: l0).map sd))] m = if (fits s (s :: l0)).isSome = true then .ok (toldR s (s :: l0) (fits s (s :: l0))) m else .exc ⟨"NoFit", none⟩ m := by
  have c := m_checkFit h hl m
  have f := m_fits (c := .tuple ((s :: l0).map sd)) (.inl rfl) h (by omega) m
  have o := m_oneWind h hl m
  generalize PyData.tuple ((s :: l0).map sd) = C at c f o ⊢
  generalize fits s (s :: l0) = x at c f ⊢
  cases x with
  | none => simp at c; simp [D_told_reach, G_told_reach, c]
  | some p =>
    simp at c
    cases ho : oneW s (s :: l0) with
    | true => rw [ho] at o; simp [D_told_reach, G_told_reach, c, o, toldR, ho]
    | false => rw [ho] at o; simp [D_told_reach, G_told_reach, c, o, f, toldR, ho, fitD]
end
/-! ### the law's own reckoning -/
section
variable {w : Wi} {r p q : Rat} {s : St}
theorem le_mul (h : w ∈ WL) (hr : Bd 50 r) (m : Ms) : D__law_lowest [.v (.int (r.num * w.1)), .v (.int (r.den * w.2.2))] m = .ok (fr (r * E w)) m ∧ D__law_lowest [.v (.int (r.num * w.2.1)), .v (.int (r.den * w.2.2))] m = .ok (fr (r * Nn w)) m ∧ small r.num = true ∧ small (r.den : Int) = true ∧ small w.1 = true ∧ small w.2.1 = true ∧ small w.2.2 = true := by
  obtain ⟨h0, h1, h2, h3⟩ := wl_facts w h
  have s5 := small_of (mul_lt (den_lt hr) h3) (by omega)
  have hd := r.den_nz
  have hp : (0 : Int) < r.den * w.2.2 := Int.mul_pos (by omega) h0
  have e1 : r * E w = Rat.divInt (r.num * w.1) (r.den * w.2.2) := by
    unfold E
    conv => lhs; rw [← Rat.num_divInt_den r]
    rw [Rat.divInt_mul_divInt]
  have e2 : r * Nn w = Rat.divInt (r.num * w.2.1) (r.den * w.2.2) := by
    unfold Nn
    conv => lhs; rw [← Rat.num_divInt_den r]
    rw [Rat.divInt_mul_divInt]
  rw [e1, e2]
  exact ⟨m_llow hp s5 m, m_llow hp s5 m, small_of hr.num (by omega), small_of (den_lt hr) (by omega), small_of h1 (by omega), small_of h2 (by omega), small_of h3 (by omega)⟩
/-- the law's test of a row -/
theorem m_lfits (hr : Bd 50 r) (hp : Bd 80 p) (hq : Bd 80 q) {l : List St} {C : D} (hC : itemsOf C = some (l.map sd)) (h : ∀ t ∈ l, Ok t) (m : Ms) : D__law_stern_fits [.v C, .v (fr p), .v (fr q), .v (fr r)] m = .ok (.bool (decide (0 < r.num) && l.all (fitB p q r))) m := by
  have fl : ∀ (C : D) (l : List St) (a b c : Slot), (∀ t ∈ l, Ok t) → (forF (gTup' 3 (gCons' (gV 4) (gCons' (gV 5) (gCons' (gV 6) gNil')))) (sSeq (sIf (tV (eBin dNe (eCall D__law_plus (xCons (xV (eV 1)) (xCons (xV (eCall D__law_lowest (xCons (xV (eBin dMul (eBin dIx (eV 3) (eC (.int 0))) (eBin dIx (eV 4) (eC (.int 0))))) (xCons (xV (eBin dMul (eBin dIx (eV 3) (eC (.int 1))) (eBin dIx (eV 4) (eC (.int 2))))) xNil)))) xNil))) (eV 5))) (sRet (eC (.bool false))) sNil)
    (sIf (tV (eBin dNe (eCall D__law_plus (xCons (xV (eV 2)) (xCons (xV (eCall D__law_lowest (xCons (xV (eBin dMul (eBin dIx (eV 3) (eC (.int 0))) (eBin dIx (eV 4) (eC (.int 1))))) (xCons (xV (eBin dMul (eBin dIx (eV 3) (eC (.int 1))) (eBin dIx (eV 4) (eC (.int 2))))) xNil)))) xNil))) (eV 6))) (sRet (eC (.bool false))) sNil)) (l.map sd) [.v C, .v (fr p), .v (fr q), .v (fr r), a, b, c] m).seq (sRet (eC (.bool true))) = .ret (.bool (l.all (fitB p q r))) m := by
    intro C l
    induction l with
    | nil => intro a b c _; simp
    | cons t l ih =>
      intro a b c hl
      have ht := hl t (by simp)
      have ih := ih (.v (wd t.w)) (.v (fr t.x)) (.v (fr t.y)) fun t ht => hl t (by simp [ht])
      obtain ⟨e1, e2, s1, s2, s3, s4, s5⟩ := le_mul ht.w hr m
      have q1 := m_lplus hp (hr.mul (bdE ht.w)) (by omega) m
      have q2 := m_lplus hq (hr.mul (bdN ht.w)) (by omega) m
      have i0 : dIx (fr r) (.int 0) = some (.int r.num) := by simp [fr]
      have i1 : dIx (fr r) (.int 1) = some (.int (r.den : Int)) := by simp [fr]
      have j0 : dIx (wd t.w) (.int 0) = some (.int t.w.1) := by simp [wd]
      have j1 : dIx (wd t.w) (.int 1) = some (.int t.w.2.1) := by simp [wd]
      have j2 : dIx (wd t.w) (.int 2) = some (.int t.w.2.2) := by simp [wd]
      rw [List.map_cons, for_cons (ρ' := [.v C, .v (fr p), .v (fr q), .v (fr r), .v (wd t.w), .v (fr t.x), .v (fr t.y)]) (by simp [sd])]
      by_cases c1 : p + r * E t.w = t.x
      · by_cases c2 : q + r * Nn t.w = t.y
        · have e : (t :: l).all (fitB p q r) = l.all (fitB p q r) := by simp [fitB, c1, c2]
          rw [e, ← ih]
          simp [i0, i1, j0, j1, j2, dMul_int, s1, s2, s3, s4, s5, e1, e2, q1, q2, c1, c2]
        · simp [i0, i1, j0, j1, j2, dMul_int, s1, s2, s3, s4, s5, e1, e2, q1, q2, c1, c2, fitB]
      · simp [i0, i1, j0, j1, j2, dMul_int, s1, s2, s3, s4, s5, e1, e2, q1, q2, c1, fitB]
  have i0 : dIx (fr r) (.int 0) = some (.int r.num) := by simp [fr]
  by_cases hle : r.num ≤ 0
  · have : ¬ (0 < r.num) := by omega
    simp [D__law_stern_fits, G__law_stern_fits, i0, hle, this]
  · have hlt : 0 < r.num := by omega
    have f := fl C l .un .un .un h
    unfold D__law_stern_fits G__law_stern_fits
    generalize l.all (fitB p q r) = b at f ⊢
    simp only [fn_ev, ev_sSeq]
    simp [i0, hle, hlt, hC]
    rw [f]
    simp
end
end K82

set_option maxRecDepth 100000
set_option maxHeartbeats 2000000
namespace K82
open PySem DS
def same (s t : St) : Bool := decide (t.w = s.w) && (decide (t.x = s.x) && decide (t.y = s.y))
@[simp] theorem eqv_sd (t s : St) : PyData.eqv (sd t) (sd s) = same s t := by
  unfold sd same
  simp only [eqv_tup, eqvAll_cons, eqvAll_nil, eqv_wd, eqv_fr, Bool.and_true]
@[simp] theorem dNe_sd (t s : St) : dNe (sd t) (sd s) = some (.bool (!same s t)) := by rw [dNe_of (by simp [shal, depth_sd])]; simp
/-- what the law tells of a row -/
def toldB (s : St) (l : List St) : Bool := match l.find? (fun t => decide (t.w ≠ s.w)) with
  | none => l.all (same s)
  | some t => decide (0 < (rBy s t).num) && l.all (fitB (pX s (rBy s t)) (pY s (rBy s t)) (rBy s t))
def toldD (s : St) (l : List St) : D := match l.find? (fun t => decide (t.w ≠ s.w)) with
  | none => .none
  | some t => if toldB s l = true then .tuple [fr (pX s (rBy s t)), fr (pY s (rBy s t)), fr (rBy s t)] else .none
theorem told_none {s : St} {l : List St} (h : l.find? (fun t => decide (t.w ≠ s.w)) = none) : toldB s l = l.all (same s) ∧ toldD s l = .none := by
  unfold toldD toldB; rw [h]; exact ⟨rfl, rfl⟩
theorem told_some {s t : St} {l : List St} (h : l.find? (fun t => decide (t.w ≠ s.w)) = some t) : toldB s l = (decide (0 < (rBy s t).num) && l.all (fitB (pX s (rBy s t)) (pY s (rBy s t)) (rBy s t))) ∧ toldD s l = if (decide (0 < (rBy s t).num) && l.all (fitB (pX s (rBy s t)) (pY s (rBy s t)) (rBy s t))) = true then .tuple [fr (pX s (rBy s t)), fr (pY s (rBy s t)), fr (rBy s t)] else .none := by
  unfold toldD toldB; rw [h]; exact ⟨rfl, rfl⟩
theorem minus_w {u v : Wi} (hu : u ∈ WL) (hv : v ∈ WL) (m : Ms) :
    D__law_minus [.v (.tuple [.int u.1, .int u.2.2]), .v (.tuple [.int v.1, .int v.2.2])] m = .ok (fr (E u - E v)) m ∧ D__law_minus [.v (.tuple [.int u.2.1, .int u.2.2]), .v (.tuple [.int v.2.1, .int v.2.2])] m = .ok (fr (Nn u - Nn v)) m := by
  obtain ⟨a0, a1, a2, a3⟩ := wl_facts u hu
  obtain ⟨b0, b1, b2, b3⟩ := wl_facts v hv
  have sm : ∀ i : Int, i.natAbs < 2 ^ 4 → small i = true := fun i hi => small_of hi (by decide)
  have s5 := small_of (mul_lt a3 b3) (by decide)
  have hp : (0 : Int) < u.2.2 * v.2.2 := Int.mul_pos a0 b0
  have e1 : E u - E v = Rat.divInt (u.1 * v.2.2 - v.1 * u.2.2) (u.2.2 * v.2.2) := by
    unfold E; rw [Rat.divInt_sub_divInt _ _ (by omega) (by omega)]
  have e2 : Nn u - Nn v = Rat.divInt (u.2.1 * v.2.2 - v.2.1 * u.2.2) (u.2.2 * v.2.2) := by
    unfold Nn; rw [Rat.divInt_sub_divInt _ _ (by omega) (by omega)]
  have q1 := m_llow (n := u.1 * v.2.2 - v.1 * u.2.2) hp s5 m
  have q2 := m_llow (n := u.2.1 * v.2.2 - v.2.1 * u.2.2) hp s5 m
  rw [e1, e2]
  constructor
  · simp [D__law_minus, G__law_minus, dMul_int, sm, a1, a2, a3, b1, b2, b3, q1]
  · simp [D__law_minus, G__law_minus, dMul_int, sm, a1, a2, a3, b1, b2, b3, q2]
/-- the law's quotient -/
theorem m_lquot {a b : Rat} {n k : Nat} (h1 : Bd n a) (h2 : Bd k b) (hn : n + k ≤ 7900) (hb : b ≠ 0) (m : Ms) (sg : Int) (hsg : sg = if 0 < b.num then 1 else -1) :
    D__law_lowest [.v (.int (sg * a.num * b.den)), .v (.int (sg * a.den * b.num))] m = .ok (fr (a / b)) m ∧ small sg = true ∧ small (sg * a.num) = true ∧ small (sg * (a.den : Int)) = true := by
  have hbn := num_ne hb
  have hs1 : sg.natAbs < 2 ^ 1 := by rw [hsg]; split <;> decide
  have hs0 : sg ≠ 0 := by rw [hsg]; split <;> decide
  have hd := a.den_nz
  have hp : 0 < sg * a.den * b.num := by
    rw [hsg]
    split
    · rename_i h; rw [Int.one_mul]; exact Int.mul_pos (by omega) h
    · rename_i h
      have h' : 0 < - b.num := by omega
      have q := Int.mul_pos (show (0 : Int) < a.den by omega) h'
      have e : -1 * (a.den : Int) * b.num = a.den * - b.num := by grind
      rw [e]; exact q
  have t1 := mul_lt hs1 h1.num
  have t2 := mul_lt hs1 (den_lt h1)
  have e := m_llow (n := sg * a.num * b.den) hp (small_of (mul_lt t2 h2.num) (by omega)) m
  have e1 : Rat.divInt (sg * a.num * b.den) (sg * a.den * b.num) = a / b := by
    rw [div_eq, Int.mul_assoc, Int.mul_assoc, Rat.divInt_mul_left hs0]
  rw [e1] at e
  exact ⟨e, small_of hs1 (by decide), small_of t1 (by omega), small_of t2 (by omega)⟩
theorem filter_head {α : Type} (p : α → Bool) : ∀ l : List α, (l.filter p).head? = l.find? p := fun l => by simp
theorem find_ne {s t : St} {l : List St} (h : l.find? (fun t => decide (t.w ≠ s.w)) = some t) : t ∈ l ∧ t.w ≠ s.w := by
  refine ⟨List.mem_of_find?_eq_some h, ?_⟩
  have := List.find?_some h
  simpa using this
theorem m_told {C : D} {s : St} {l0 : List St} (hc : Con C (s :: l0)) (h : ∀ t ∈ s :: l0, Ok t) (hn : l0.length ≤ 100) (m : Ms) : D__law_stern_told [.v C] m = .ok (.tuple [.bool (toldB s (s :: l0)), toldD s (s :: l0)]) m := by
  have hs := h s (by simp)
  have hi := con_ix0 hc
  have hit := con_items hc
  have hw : ∀ t : St, dIx (sd t) (.int 0) = some (wd t.w) := fun t => by simp [sd]
  have u : ∀ t : St, ∀ ρ : List Slot, ∀ a b c : Nat, a < ρ.length → b < ρ.length → c < ρ.length → gTup' 3 (gCons' (gV a) (gCons' (gV b) (gCons' (gV c) gNil'))) (sd t) ρ = some (((ρ.set a (.v (wd t.w))).set b (.v (fr t.x))).set c (.v (fr t.y))) := fun t ρ a b c ha hb hc => by
    simp [sd, ha, hb, hc]
  have lc1 : lcF (gV 5) (tV (eBin dNe (eBin dIx (eV 5) (eC (.int 0))) (eV 1))) (eV 5) ((s :: l0).map sd) [.v C, .v (wd s.w), .v (fr s.x), .v (fr s.y), .un, .un, .un, .un, .un, .un, .un, .un, .un, .un, .un, .un, .un, .un] m = .ok (((s :: l0).filter fun t => decide (t.w ≠ s.w)).map sd) m := by
    refine lc_pure sd (fun t => decide (t.w ≠ s.w)) sd (s :: l0) fun t ht => ⟨[.v C, .v (wd s.w), .v (fr s.x), .v (fr s.y), .un, .v (sd t), .un, .un, .un, .un, .un, .un, .un, .un, .un, .un, .un, .un], by simp, ?_, fun _ => by simp⟩
    simp [hw]
  have lc2 : ∀ o : Slot, lcF (gV 5) (tV (eBin dNe (eV 5) (eBin dIx (eV 0) (eC (.int 0))))) (eV 5) ((s :: l0).map sd) [.v C, .v (wd s.w), .v (fr s.x), .v (fr s.y), o, .un, .un, .un, .un, .un, .un, .un, .un, .un, .un, .un, .un, .un] m = .ok (((s :: l0).filter fun t => !same s t).map sd) m := fun o => by
    refine lc_pure sd (fun t => !same s t) sd (s :: l0) fun t ht => ⟨[.v C, .v (wd s.w), .v (fr s.x), .v (fr s.y), o, .v (sd t), .un, .un, .un, .un, .un, .un, .un, .un, .un, .un, .un, .un], by simp, ?_, fun _ => by simp⟩
    simp [hi]
  have hlen : ((s :: l0).map sd).length ≤ lineN := by simp [lineN]; omega
  have eN : ∀ l : List St, dEq (.list (l.map sd)) (.list []) = some (.bool l.isEmpty) := fun l => by
    rw [dEq_of (by simp [shal, PyData.depth, PyData.depthAll])]
    cases l <;> simp [PyData.eqvAll]
  have l0' : (0 : Nat) ≤ lineN := Nat.zero_le _
  have l2' : (2 : Nat) ≤ lineN := by decide
  have l3' : (3 : Nat) ≤ lineN := by decide
  have eF : (s :: l0).find? (fun t => decide (t.w ≠ s.w)) = ((s :: l0).filter fun t => decide (t.w ≠ s.w)).head? := (filter_head _ _).symm
  have eS : ((s :: l0).filter fun t => !same s t).isEmpty = (s :: l0).all (same s) := by
    generalize s :: l0 = l
    induction l with
    | nil => rfl
    | cons t l ih => cases hst : same s t <;> simp [List.filter_cons, hst, ih]
  have hlf : ∀ p q r : Rat, Bd 50 r → Bd 80 p → Bd 80 q → D__law_stern_fits [.v C, .v (fr p), .v (fr q), .v (fr r)] m = .ok (.bool (decide (0 < r.num) && (s :: l0).all (fitB p q r))) m := fun p q r hr hp hq => m_lfits hr hp hq hit h m
  have hmem : ∀ t ∈ ((s :: l0).filter fun t => decide (t.w ≠ s.w)), Ok t ∧ t.w ≠ s.w := fun t ht => by
    rw [List.mem_filter] at ht
    exact ⟨h t ht.1, by simpa using ht.2⟩
  generalize ((s :: l0).filter fun t => decide (t.w ≠ s.w)) = os at lc1 hmem eF
  generalize ((s :: l0).filter fun t => !same s t) = zs at lc2 eS ⊢
  generalize (s :: l0).map sd = xs at lc1 lc2 hlen hit
  cases os with
  | nil =>
    rw [(told_none eF).1, (told_none eF).2]
    have e1 := eN []
    have e2 := eN zs
    simp only [List.map_nil] at lc1 e1
    simp only [D__law_stern_told, G__law_stern_told, fn_ev, ev_sSeq]
    simp [hi, u, hit, hlen, wipeS, lc1, lc2, e1, e2, l0', l2', eS]
  | cons t os =>
    obtain ⟨ht, hwt⟩ := hmem t (by simp)
    obtain ⟨_, hr⟩ := m_reach hs ht (fun z => hwt z.symm) m
    obtain ⟨_, hp, hq⟩ := m_place hs hr m
    obtain ⟨w1, w2⟩ := minus_w hs.w ht.w m
    have d1 := m_lminus hs.x ht.x (by omega) m
    have d2 := m_lminus hs.y ht.y (by omega) m
    obtain ⟨g1, g2, s1, s2, s3, s4, s5⟩ := le_mul hs.w hr m
    have d3 := m_lminus hs.x (hr.mul (bdE hs.w)) (by omega) m
    have d4 := m_lminus hs.y (hr.mul (bdN hs.w)) (by omega) m
    have f0 : ∀ q : Rat, dIx (fr q) (.int 0) = some (.int q.num) := fun q => by simp [fr]
    have f1 : ∀ q : Rat, dIx (fr q) (.int 1) = some (.int (q.den : Int)) := fun q => by simp [fr]
    have k0 : ∀ w : Wi, dIx (wd w) (.int 0) = some (.int w.1) := fun w => by simp [wd]
    have k1 : ∀ w : Wi, dIx (wd w) (.int 1) = some (.int w.2.1) := fun w => by simp [wd]
    have k2 : ∀ w : Wi, dIx (wd w) (.int 2) = some (.int w.2.2) := fun w => by simp [wd]
    have lf := hlf (pX s (rBy s t)) (pY s (rBy s t)) (rBy s t) hr hp hq
    have eO : dEq (.list ((t :: os).map sd)) (.list []) = some (.bool false) := by rw [eN]; rfl
    have hx0 : dIx (.list ((t :: os).map sd)) (.int 0) = some (sd t) := by simp
    rw [(told_some eF).1, (told_some eF).2]
    generalize (decide (0 < (rBy s t).num) && (s :: l0).all (fitB (pX s (rBy s t)) (pY s (rBy s t)) (rBy s t))) = b at lf ⊢
    generalize (t :: os).map sd = ys at eO hx0 lc1
    simp only [D__law_stern_told, G__law_stern_told, fn_ev, ev_sSeq]
    have one : small 1 = true := by decide
    have px : s.x - rBy s t * E s.w = pX s (rBy s t) := rfl
    have py : s.y - rBy s t * Nn s.w = pY s (rBy s t) := rfl
    have neg : small (-1) = true := by decide
    have zer : small 0 = true := by decide
    by_cases he : E s.w = E t.w
    · have z0 : (E s.w - E t.w).num = 0 := by
        have : E s.w - E t.w = 0 := by grind
        rw [this]; rfl
      have hb := sub_ne (wl_apart _ hs.w _ ht.w (fun z => hwt z.symm) he)
      have er : rBy s t = (s.y - t.y) / (Nn s.w - Nn t.w) := by unfold rBy; rw [if_pos he]
      have bs := small_of ((bdN hs.w).sub (bdN ht.w)).num (by omega)
      have bd := small_of (den_lt ((bdN hs.w).sub (bdN ht.w))) (by omega)
      have as := small_of (hs.y.sub ht.y).num (by omega)
      have ad := small_of (den_lt (hs.y.sub ht.y)) (by omega)
      by_cases hg : 0 < (Nn s.w - Nn t.w).num
      · obtain ⟨q1, q2, q3, q4⟩ := m_lquot (hs.y.sub ht.y) ((bdN hs.w).sub (bdN ht.w)) (by omega) hb m 1 (if_pos hg).symm
        rw [← er] at q1
        rw [Int.one_mul] at q1 q3 
        rw [Int.one_mul] at q1 q4
        cases b <;> simp [hi, u, hit, hlen, wipeS, lc1, lc2, eO, hx0, l0', l2', l3', hw, f0, f1, k0, k1, k2, w1, w2, d1, d2, d3, d4, g1, g2, s1, s2, s3, s4, s5, q1, q2, q3, q4, bs, bd, as, ad, lf, z0, hg, one, neg, zer, px, py, dMul_int]
      · obtain ⟨q1, q2, q3, q4⟩ := m_lquot (hs.y.sub ht.y) ((bdN hs.w).sub (bdN ht.w)) (by omega) hb m (-1) (if_neg hg).symm
        rw [← er] at q1
        rw [Int.neg_one_mul, Int.neg_one_mul] at q1
        rw [Int.neg_one_mul] at q3 q4
        cases b <;> simp [hi, u, hit, hlen, wipeS, lc1, lc2, eO, hx0, l0', l2', l3', hw, f0, f1, k0, k1, k2, w1, w2, d1, d2, d3, d4, g1, g2, s1, s2, s3, s4, s5, q1, q2, q3, q4, bs, bd, as, ad, lf, z0, hg, one, neg, zer, px, py, dMul_int]
    · have hb := sub_ne he
      have z0 : (E s.w - E t.w).num ≠ 0 := num_ne hb
      have er : rBy s t = (s.x - t.x) / (E s.w - E t.w) := by unfold rBy; rw [if_neg he]
      have bs := small_of ((bdE hs.w).sub (bdE ht.w)).num (by omega)
      have bd := small_of (den_lt ((bdE hs.w).sub (bdE ht.w))) (by omega)
      have as := small_of (hs.x.sub ht.x).num (by omega)
      have ad := small_of (den_lt (hs.x.sub ht.x)) (by omega)
      by_cases hg : 0 < (E s.w - E t.w).num
      · obtain ⟨q1, q2, q3, q4⟩ := m_lquot (hs.x.sub ht.x) ((bdE hs.w).sub (bdE ht.w)) (by omega) hb m 1 (if_pos hg).symm
        rw [← er] at q1
        rw [Int.one_mul] at q1 q3 
        rw [Int.one_mul] at q1 q4
        cases b <;> simp [hi, u, hit, hlen, wipeS, lc1, lc2, eO, hx0, l0', l2', l3', hw, f0, f1, k0, k1, k2, w1, w2, d1, d2, d3, d4, g1, g2, s1, s2, s3, s4, s5, q1, q2, q3, q4, bs, bd, as, ad, lf, z0, hg, one, neg, zer, px, py, dMul_int]
      · obtain ⟨q1, q2, q3, q4⟩ := m_lquot (hs.x.sub ht.x) ((bdE hs.w).sub (bdE ht.w)) (by omega) hb m (-1) (if_neg hg).symm
        rw [← er] at q1
        rw [Int.neg_one_mul, Int.neg_one_mul] at q1
        rw [Int.neg_one_mul] at q3 q4
        cases b <;> simp [hi, u, hit, hlen, wipeS, lc1, lc2, eO, hx0, l0', l2', l3', hw, f0, f1, k0, k1, k2, w1, w2, d1, d2, d3, d4, g1, g2, s1, s2, s3, s4, s5, q1, q2, q3, q4, bs, bd, as, ad, lf, z0, hg, one, neg, zer, px, py, dMul_int]
end K82

set_option maxRecDepth 100000
set_option maxHeartbeats 2000000
namespace K82
open PySem DS
def tupN (l : List Nat) : D := .tuple (l.map fun k : Nat => PyData.int (k : Int))
def rngD (n : Nat) : D := tupN (List.range n)
def sub (k : Nat) : List Nat := (List.range 4).filter fun i => k.testBit i
def keyN (k : Nat) : D := .tuple [.int ((sub k).length : Nat), tupN (sub k)]
/-- the numbers of the sets, as they come out sorted -/
def order : Nat → List Nat
  | 1 => [0, 1]
  | 2 => [0, 1, 2, 3]
  | 3 => [0, 1, 2, 4, 3, 5, 6, 7]
  | _ => [0, 1, 2, 4, 8, 3, 5, 9, 6, 10, 12, 7, 11, 13, 14, 15]
theorem sort_is {α : Type} (f : Nat → α) (g : α → D) (a b : List Nat) (hp : b.isPerm a = true) (h : (b.all fun i => b.all fun j => !(PySem.W.dataLe false g (f i) (f j)) || (!(PySem.W.dataLe false g (f j) (f i)) || i == j)) = true)
    (hs : b.Pairwise fun i j => PySem.W.dataLe false g (f i) (f j) = true) : (a.map f).mergeSort (PySem.W.dataLe false g) = b.map f := by
  have hp' : List.Perm b a := List.isPerm_iff.mp hp
  have T := PySem.W.sortLe_total (PyProof.Rows.listOrd PyProof.Rows.itemOrd) false fun b => PySem.W.keyToks (g b)
  refine List.Perm.eq_of_pairwise (le := fun x y => PySem.W.dataLe false g x y = true) ?_ (List.pairwise_mergeSort (fun x y z => T.trans x y z) (fun x y => by have := T.total x y; simpa using this) _) (List.pairwise_map.mpr hs) ((List.mergeSort_perm _ _).trans (hp'.symm.map f))
  intro x y hx hy h1 h2
  have hx' := (List.mergeSort_perm _ _).mem_iff.mp hx
  obtain ⟨i, hi, rfl⟩ := List.mem_map.mp hx'
  obtain ⟨j, hj, rfl⟩ := List.mem_map.mp hy
  have q := List.all_eq_true.mp (List.all_eq_true.mp h i (hp'.mem_iff.mpr hi)) j hj
  rw [h1, h2] at q
  have : i = j := by simpa using q
  rw [this]
theorem z_map (f g : Nat → D) (l : List Nat) : (l.map f).zip (l.map g) = l.map fun k => (f k, g k) := by
  induction l with
  | nil => rfl
  | cons k l ih => simp [ih]
theorem sets_sort (f : Nat → D) (n : Nat) (hn : n ∈ [1, 2, 3, 4]) : sortBy ((List.range (2 ^ n)).map f) ((List.range (2 ^ n)).map keyN) = (order n).map f := by
  unfold sortBy
  rw [z_map]
  have hh : (List.map (fun k => (f k, keyN k)) (List.range (2 ^ n))).mergeSort (PySem.W.dataLe false Prod.snd) = (order n).map fun k => (f k, keyN k) := by
    have e : ∀ i j, PySem.W.dataLe false Prod.snd (f i, keyN i) (f j, keyN j) = PySem.W.dataLe false keyN i j := fun i j => rfl
    have hn' : n = 1 ∨ n = 2 ∨ n = 3 ∨ n = 4 := by simpa using hn
    refine sort_is (fun k => (f k, keyN k)) Prod.snd _ _ ?_ ?_ ?_
    · rcases hn' with rfl | rfl | rfl | rfl <;> decide +kernel
    · simp only [e]
      rcases hn' with rfl | rfl | rfl | rfl <;> decide +kernel
    · simp only [e]
      rcases hn' with rfl | rfl | rfl | rfl <;> decide +kernel
  rw [hh, List.map_map]; rfl
/-- one more thing: every set found so far, and every such set with it -/
def stepN (l : List (List Nat)) (v : Nat) : List (List Nat) := l ++ l.map fun s => s ++ [v]
theorem lc_step (l : List (List Nat)) (hs : ∀ s ∈ l, s.length ≤ 8) (a b c : Slot) (v : Nat) (m : Ms) (ρ : List Slot) : lcF (gV 3) tTrue (eBin dAdd (eV 3) (eTup (aCons (eV 2) aNil))) (l.map tupN) (a :: b :: .v (.int (v : Nat)) :: c :: ρ) m = .ok (l.map fun s => tupN (s ++ [v])) m := by
  refine lc_all tupN _ l fun s hm => ⟨a :: b :: .v (.int (v : Nat)) :: .v (tupN s) :: ρ, by simp, ?_⟩
  have := hs s hm
  have l1 : 1 ≤ lineN := by decide
  have l2 : s.length + 1 ≤ lineN := by unfold lineN; omega
  simp [tupN, dAdd, l1, l2]
theorem for_step (a c : Slot) (m : Ms) (ρ : List Slot) : ∀ (vs : List Nat) (u : Slot) (l : List (List Nat)), (∀ s ∈ l, s.length + vs.length ≤ 8) → l.length * 2 ^ vs.length ≤ 16 →
    ∃ u', forF (gV 2) (sAsg (eBin dAdd (eV 1) (eLc (iSeq (eV 1)) (gV 3) tTrue (eBin dAdd (eV 3) (eTup (aCons (eV 2) aNil))) [3])) (gV 1)) (vs.map fun v : Nat => PyData.int (v : Int)) (a :: .v (.list (l.map tupN)) :: u :: .un :: ρ) m = .next (a :: .v (.list ((vs.foldl stepN l).map tupN)) :: u' :: .un :: ρ) m
  | [], u, l, _, _ => ⟨u, by simp⟩
  | v :: vs, u, l, h, hl => by
    have hl2 : l.length * 2 ^ (vs.length + 1) ≤ 16 := by simpa using hl
    have hp : 1 ≤ 2 ^ vs.length := Nat.one_le_two_pow
    have hl3 : l.length * 2 ^ vs.length + l.length * 2 ^ vs.length ≤ 16 := by
      rw [Nat.pow_succ, ← Nat.mul_assoc] at hl2; omega
    have hlen : l.length ≤ 8 := by
      have := Nat.mul_le_mul_left l.length hp
      omega
    obtain ⟨u', ih⟩ := for_step a c m ρ vs (.v (.int (v : Nat))) (stepN l v) (fun s hs => by
      rcases List.mem_append.mp hs with hs | hs
      · have := h s hs; simp at this; omega
      · obtain ⟨t, ht, rfl⟩ := List.mem_map.mp hs
        have := h t ht; simp at this ⊢; omega) (by
      have : (stepN l v).length = l.length + l.length := by simp [stepN]
      rw [this, Nat.add_mul]; omega)
    refine ⟨u', ?_⟩
    have q := lc_step l (fun s hs => by have := h s hs; simp at this; omega) a (.v (.list (l.map tupN))) .un v m ρ
    have e : (stepN l v).map tupN = l.map tupN ++ l.map fun s => tupN (s ++ [v]) := by simp [stepN, Function.comp_def]
    have l1 : l.length ≤ lineN := by unfold lineN; omega
    have l2 : l.length + l.length ≤ lineN := by unfold lineN; omega
    rw [e] at ih
    simp only [List.map_cons, List.foldl_cons]
    rw [for_cons (ρ' := a :: .v (.list (l.map tupN)) :: .v (.int (v : Nat)) :: .un :: ρ) (by simp), ← ih]
    simp [q, dAdd, l1, l2, wipeS]
theorem fold_sub : ∀ n ∈ [1, 2, 3, 4], (List.range n).foldl stepN [[]] = (List.range (2 ^ n)).map sub := by decide +kernel
theorem keys_ok : ∀ n ∈ [1, 2, 3, 4], sortOk ((List.range (2 ^ n)).map keyN) = true := by decide +kernel
theorem sub_len : ∀ k ∈ List.range 16, (sub k).length ≤ 4 := by decide +kernel
def setsD (n : Nat) : D := .list ((order n).map fun k => tupN (sub k))
theorem keysF_all (G : FnSem) (f : Nat → D) (m : Ms) : ∀ (l : List Nat), (∀ k ∈ l, G [.v (f k)] m = .ok (keyN k) m) → keysF G (l.map f) m = .ok (l.map keyN) m
  | [], _ => rfl
  | k :: l, h => by
    have ih := keysF_all G f m l fun k hk => h k (by simp [hk])
    simp only [List.map_cons, keysF, h k (by simp)]
    simp [Res.noX, ih]
theorem m_sets {n : Nat} (hn : n ∈ [1, 2, 3, 4]) (m : Ms) : D_sets_of [.v (rngD n)] m = .ok (setsD n) m := by
  have hn4 : n ≤ 4 := by simp at hn; omega
  obtain ⟨u', q⟩ := for_step (.v (rngD n)) .un m [] (List.range n) .un [[]] (by simp; omega) (by
    have : 2 ^ n ≤ 2 ^ 4 := Nat.pow_le_pow_right (by decide) hn4
    simp; omega)
  rw [fold_sub n hn] at q
  have l1 : 1 ≤ lineN := by decide
  have k := keysF_all (lamD 1 [] (eTup (aCons (eBi dLen (aCons (eV 0) aNil)) (aCons (eV 0) aNil)))) (fun k => tupN (sub k)) m (List.range (2 ^ n)) fun k hk => by
    have : k ∈ List.range 16 := List.mem_range.mpr (by
      have : 2 ^ n ≤ 2 ^ 4 := Nat.pow_le_pow_right (by decide) hn4
      have := List.mem_range.mp hk; omega)
    have := sub_len k this
    have l2 : 2 ≤ lineN := by decide
    simp [lamD, tupN, keyN, l2]
  have it : itemsOf (rngD n) = some ((List.range n).map fun v : Nat => PyData.int (v : Int)) := rfl
  have ss := sets_sort (fun k => tupN (sub k)) n hn
  have ko := keys_ok n hn
  rw [List.map_map] at q
  unfold setsD
  rw [← ss]
  generalize rngD n = R at q it ⊢
  have lz : ¬ lineN = 0 := by decide
  simp [D_sets_of, G_sets_of, it, l1]
  rw [show [PyData.tuple []] = [[]].map tupN from rfl, q]
  simp [eSortL, Function.comp_def, k, ko]
theorem m_lsets {n : Nat} (hn : n ∈ [1, 2, 3, 4]) (m : Ms) : D__law_sets [.v (rngD n)] m = .ok (setsD n) m := by
  have hn4 : n ≤ 4 := by simp at hn; omega
  have h16 : 2 ^ n ≤ 16 := by
    have : 2 ^ n ≤ 2 ^ 4 := Nat.pow_le_pow_right (by decide) hn4
    omega
  obtain ⟨u', q⟩ := for_step (.v (rngD n)) .un m [.un] (List.range n) .un [[]] (by simp; omega) (by simp; omega)
  rw [fold_sub n hn] at q
  have l1 : 1 ≤ lineN := by decide
  have l2 : 2 ≤ lineN := by decide
  have l16 : 2 ^ n ≤ lineN := by unfold lineN; omega
  have it : itemsOf (rngD n) = some ((List.range n).map fun v : Nat => PyData.int (v : Int)) := rfl
  have ss := sets_sort keyN n hn
  have ko := keys_ok n hn
  have ho : (order n).length = 2 ^ n := by have := (by decide +kernel : ∀ n ∈ [1, 2, 3, 4], (order n).length = 2 ^ n); exact this n hn
  rw [List.map_map] at q
  have c1 : ∀ a u : Slot, ∀ L : D, lcF (gV 3) tTrue (eTup (aCons (eBi dLen (aCons (eV 3) aNil)) (aCons (eV 3) aNil))) ((List.range (2 ^ n)).map fun k => tupN (sub k)) [a, .v L, u, .un, .un] m = .ok ((List.range (2 ^ n)).map keyN) m := fun a u L => by
    refine lc_all (fun k => tupN (sub k)) keyN _ fun k hk => ⟨[a, .v L, u, .v (tupN (sub k)), .un], by simp, ?_⟩
    simp [tupN, keyN, l2]
  have c2 : ∀ a u : Slot, ∀ L : D, lcF (gTup' 2 (gCons' (gV 4) (gCons' (gV 3) gNil'))) tTrue (eV 3) ((order n).map keyN) [a, .v L, u, .un, .un] m = .ok ((order n).map fun k => tupN (sub k)) m := fun a u L => by
    refine lc_all keyN (fun k => tupN (sub k)) _ fun k hk => ⟨[a, .v L, u, .v (tupN (sub k)), .v (.int ((sub k).length : Nat))], by simp [keyN], ?_⟩
    simp
  have ds : dSorted [.list ((List.range (2 ^ n)).map keyN)] = some (.list ((order n).map keyN)) := by simp [dSorted, ko, ss]
  unfold setsD
  generalize rngD n = R at q it ⊢
  have lz : ¬ lineN = 0 := by decide
  simp [D__law_sets, G__law_sets, it, l1]
  rw [show [PyData.tuple []] = [[]].map tupN from rfl, q]
  have f0 : ((tupN ∘ sub) : Nat → D) = fun k => tupN (sub k) := rfl
  simp [f0, c1, c2, ds, l16, ho, wipeS]
end K82

set_option maxRecDepth 100000
set_option maxHeartbeats 2000000
namespace K82
open PySem DS
structure WellOk (n : Nat) (ds : List D) : Prop where
  ex : ∃ a b c : Int, ds = [.int a, .int b, .int c] ∧ 0 ≤ b ∧ b < 2147483563 ∧ 0 ≤ c ∧ c ≤ n
def Good (n : Nat) (m : Ms) : Prop := ∀ e ∈ m, ∃ ds, e = some ds ∧ WellOk n ds
theorem Good.at {n k : Nat} {m : Ms} (g : Good n m) (hk : k < m.length) : ∃ a b c : Int, m[k]? = some (some [.int a, .int b, .int c]) ∧ 0 ≤ b ∧ b < 2147483563 ∧ 0 ≤ c ∧ c ≤ n := by
  obtain ⟨ds, e, a, b, c, rfl, h⟩ := g m[k] (List.getElem_mem hk)
  exact ⟨a, b, c, by rw [List.getElem?_eq_getElem hk, e], h⟩
theorem Good.set {n k : Nat} {m : Ms} (g : Good n m) {ds : List D} (h : WellOk (n + 1) ds) : Good (n + 1) (m.set k (some ds)) := fun e he => by
  rcases List.mem_or_eq_of_mem_set he with he | rfl
  · obtain ⟨ds, e, a, b, c, r, h1, h2, h3, h4⟩ := g e he
    exact ⟨ds, e, a, b, c, r, h1, h2, h3, by omega⟩
  · exact ⟨ds, rfl, h⟩
theorem sm_of {i : Int} (h0 : 0 ≤ i) (h1 : i < 2147483563) : small i = true := small_of (n := 40) (by omega) (by decide)
theorem fm {i p : Int} (hp : 0 < p) : 0 ≤ i.fmod p ∧ i.fmod p < p := ⟨Int.fmod_nonneg_of_pos _ hp, Int.fmod_lt_of_pos _ hp⟩
theorem m_draw {n k : Nat} {m : Ms} (g : Good n m) (hk : k < m.length) (hn : n ≤ 2000) {L : Int} (h0 : 0 < L) (h1 : L < 1000) :
    ∃ (d : Int) (m' : Ms), D__law_draw [.ob k, .v (.int L)] m = .ok (.int d) m' ∧ 0 ≤ d ∧ d < L ∧ Good (n + 1) m' ∧ m'.length = m.length := by
  obtain ⟨a, b, c, e, b0, b1, c0, c1⟩ := g.at hk
  have ma : mAt k m = some [.int a, .int b, .int c] := by simp [mAt, e]
  have sl : slotD (.ob k) m = some (.list [.int a, .int b, .int c]) := by simp [slotD, e]
  have ma' : ∀ X : List D, mAt k (m.set k (some X)) = some X := fun X => by simp [mAt, hk]
  have sl' : ∀ X : List D, slotD (.ob k) (m.set k (some X)) = some (.list X) := fun X => by simp [slotD, hk]
  have slv : ∀ (d : D) (m : Ms), slotD (.v d) m = some d := fun d m => rfl
  have x0 : L2.ixN 3 0 = some 0 := rfl
  have x1 : L2.ixN 3 1 = some 1 := rfl
  have x2 : L2.ixN 3 2 = some 2 := rfl
  have tk : ∀ X : List D, (m.set k (some X)).take m.length = m.set k (some X) := fun X => List.take_of_length_le (by simp)
  have LP : L ≠ 0 := by omega
  by_cases ha : 0 < a
  · refine ⟨a % L, m.set k (some [.int (a / L), .int b, .int c]), ?_, Int.emod_nonneg _ (by omega), Int.emod_lt_of_pos _ h0, g.set ⟨_, _, _, rfl, b0, b1, c0, by omega⟩, by simp⟩
    have q1 : dDivmod [.int a, .int L] = some (.tuple [.int (a / L), .int (a % L)]) := by
      simp [dDivmod, h0]; omega
    simp [D__law_draw, G__law_draw, eBinS, xO, slv, sl, ma, ha, sSubN, subD, objAt, q1, x0, tk]
  · have P : (0 : Int) < 2147483563 := by decide
    have s1 := sm_of b0 b1
    have s2 : small (c + 1) = true := sm_of (by omega) (by omega)
    have s3 : small 40037 = true := by decide
    have s4 : small 13001 = true := by decide
    have s5 : small 1013 = true := by decide
    have t1 := fm (i := b * 40037 + 13001 * (c + 1) + 7) P
    generalize hs : (b * 40037 + 13001 * (c + 1) + 7).fmod 2147483563 = st at t1
    have s6 := sm_of t1.1 t1.2
    have t2 := fm (i := st) (p := 5009) (by decide)
    have s7 : small (st.fmod 5009 + 20023) = true := sm_of (by omega) (by omega)
    have t3 := fm (i := st * (st.fmod 5009 + 20023) + (c + 1)) P
    generalize hw : (st * (st.fmod 5009 + 20023) + (c + 1)).fmod 2147483563 = w1 at t3
    have t4 := fm (i := w1.fdiv 1013) h0
    refine ⟨(w1.fdiv 1013).fmod L, m.set k (some [.int a, .int w1, .int (c + 1)]), ?_, t4.1, t4.2, g.set ⟨_, _, _, rfl, t3.1, t3.2, by omega, by omega⟩, by simp⟩
    simp [D__law_draw, G__law_draw, eBinS, xO, slv, sl, sl', ma, ma', ha, sSetI, setD, objAt, x1, x2, tk, dMul_int, dMod_int, dFdiv_int, s1, s2, s3, s4, s5, s6, s7, hs, hw, LP]
theorem m_wind {n k : Nat} {m : Ms} (g : Good n m) (hk : k < m.length) (hn : n ≤ 2000) :
    ∃ (w : Wi) (m' : Ms), w ∈ WL ∧ D__law_wind [.ob k] m = .ok (wd w) m' ∧ Good (n + 1) m' ∧ m'.length = m.length := by
  obtain ⟨d, m', e, d0, d1, g', l⟩ := m_draw g hk hn (L := 7) (by decide) (by decide)
  have l3 : 3 ≤ lineN := by decide
  have l7 : 7 ≤ lineN := by decide
  have tk : m'.take m.length = m' := List.take_of_length_le (by omega)
  have q : ∀ w : Wi, dIx (.tuple (WL.map wd)) (.int d) = some (wd w) → D__law_wind [.ob k] m = .ok (wd w) m' := fun w hw => by
    simp [WL, wd] at hw
    simp [D__law_wind, G__law_wind, D__law_of, G__law_of, xO, l3, l7, e, tk, hw, wd]
  have hd : d = 0 ∨ d = 1 ∨ d = 2 ∨ d = 3 ∨ d = 4 ∨ d = 5 ∨ d = 6 := by omega
  have fin : ∀ w : Wi, w ∈ WL → dIx (.tuple (WL.map wd)) (.int d) = some (wd w) → ∃ (w : Wi) (m' : Ms), w ∈ WL ∧ D__law_wind [.ob k] m = .ok (wd w) m' ∧ Good (n + 1) m' ∧ m'.length = m.length := fun w hw hx => ⟨w, m', hw, q w hx, g', l⟩
  rcases hd with rfl | rfl | rfl | rfl | rfl | rfl | rfl
  · exact fin (1, 0, 1) (by decide) rfl
  · exact fin (0, 1, 1) (by decide) rfl
  · exact fin (-1, 0, 1) (by decide) rfl
  · exact fin (0, -1, 1) (by decide) rfl
  · exact fin (3, 4, 5) (by decide) rfl
  · exact fin (-4, 3, 5) (by decide) rfl
  · exact fin (5, -12, 13) (by decide) rfl
theorem Good.mono {n n' : Nat} {m : Ms} (g : Good n m) (h : n ≤ n') : Good n' m := fun e he => by
  obtain ⟨ds, r, a, b, c, q, h1, h2, h3, h4⟩ := g e he
  exact ⟨ds, r, a, b, c, q, h1, h2, h3, by omega⟩
theorem fr_int (d : Int) : fr (d : Rat) = .tuple [.int d, .int 1] := rfl
theorem fr_half : fr (1 / 2 : Rat) = .tuple [.int 1, .int 2] := by
  have h1 : (1 / 2 : Rat).num = 1 := by decide +kernel
  have h2 : (1 / 2 : Rat).den = 2 := by decide +kernel
  unfold fr; rw [h1, h2]; rfl
theorem fr_zero : fr (0 : Rat) = .tuple [.int 0, .int 1] := rfl
def offR (b : Bool) : Rat := if b = true then 1 / 2 else 0
theorem bd_off (b : Bool) : Bd 2 (offR b) := by
  unfold offR; cases b
  · exact ⟨by decide, by decide⟩
  · exact ⟨by decide +kernel, by decide +kernel⟩
def sBody : DS := (sSeq (sAsg (eIf (tV (eV 6)) (eV 5) (eCall D__law_wind (xCons (xO 0) xNil))) (gV 8))
    (sSeq (sAsg (eCall D__law_plus (xCons (xV (eV 1)) (xCons (xV (eCall D__law_lowest (xCons (xV (eBin dMul (eBin dIx (eV 3) (eC (.int 0))) (eBin dIx (eV 8) (eC (.int 0))))) (xCons (xV (eBin dMul (eBin dIx (eV 3) (eC (.int 1))) (eBin dIx (eV 8) (eC (.int 2))))) xNil)))) xNil))) (gV 9))
    (sSeq (sAsg (eCall D__law_plus (xCons (xV (eV 2)) (xCons (xV (eCall D__law_lowest (xCons (xV (eBin dMul (eBin dIx (eV 3) (eC (.int 0))) (eBin dIx (eV 8) (eC (.int 1))))) (xCons (xV (eBin dMul (eBin dIx (eV 3) (eC (.int 1))) (eBin dIx (eV 8) (eC (.int 2))))) xNil)))) xNil))) (gV 10))
    (sSeq (sAsg (eIf (tV (eBin dEq (eCall D__law_draw (xCons (xO 0) (xCons (xV (eC (.int 7))) xNil))) (eC (.int 0)))) (eTup (aCons (eC (.int 1)) (aCons (eC (.int 2)) aNil))) (eTup (aCons (eC (.int 0)) (aCons (eC (.int 1)) aNil)))) (gV 11))
    (sAsg (eBin dAdd (eV 4) (eTup (aCons (eTup (aCons (eV 8) (aCons (eCall D__law_plus (xCons (xV (eV 9)) (xCons (xV (eV 11)) xNil))) (aCons (eV 10) aNil)))) aNil))) (gV 4))))))
section
variable {k : Nat} {X Y R : Rat} {one : Wi} (hX : Bd 6 X) (hY : Bd 6 Y) (hR : Bd 5 R) (ho : one ∈ WL)
include hX hY hR ho
theorem m_body {n : Nat} {m : Ms} (g : Good n m) (hk : k < m.length) (hn : n ≤ 1900) (b : Bool) (acc : List St) (hacc : acc.length ≤ 4) (u7 u8 u9 u10 u11 : Slot) :
    ∃ (s : St) (m' : Ms) (v8 v9 v10 v11 : Slot), Ok s ∧ Good (n + 2) m' ∧ m'.length = m.length ∧
      sBody [.ob k, .v (fr X), .v (fr Y), .v (fr R), .v (.tuple (acc.map sd)), .v (wd one), .v (.bool b), u7, u8, u9, u10, u11] m = .next [.ob k, .v (fr X), .v (fr Y), .v (fr R), .v (.tuple ((acc ++ [s]).map sd)), .v (wd one), .v (.bool b), u7, v8, v9, v10, v11] m' := by
  have hw : ∃ (w : Wi) (m1 : Ms), w ∈ WL ∧ Good (n + 1) m1 ∧ m1.length = m.length ∧ ((if b = true then Res.ok (wd one) m else D__law_wind [.ob k] m) = .ok (wd w) m1) := by
    cases b with
    | true => exact ⟨one, m, ho, g.mono (by omega), rfl, rfl⟩
    | false =>
      obtain ⟨w, m1, h1, h2, h3, h4⟩ := m_wind g hk (by omega)
      exact ⟨w, m1, h1, h3, h4, by simpa using h2⟩
  obtain ⟨w, m1, w1, g1, l1, e1⟩ := hw
  obtain ⟨d, m2, e2, d0, d1, g2, l2⟩ := m_draw (k := k) g1 (by omega) (by omega) (L := 7) (by decide) (by decide)
  have hr : Bd 50 R := hR.mono (by omega)
  obtain ⟨q1, q2, s1, s2, s3, s4, s5⟩ := le_mul w1 hr m1
  have p1 := m_lplus hX (hR.mul (bdE w1)) (by omega) m1
  have p2 := m_lplus hY (hR.mul (bdN w1)) (by omega) m1
  have b1 := hX.add (hR.mul (bdE w1))
  have b2 := hY.add (hR.mul (bdN w1))
  have p3 := m_lplus b1 (bd_off (decide (d = 0))) (by omega) m2
  have b3 := b1.add (bd_off (decide (d = 0)))
  have f0 : ∀ q : Rat, dIx (fr q) (.int 0) = some (.int q.num) := fun q => by simp [fr]
  have f1 : ∀ q : Rat, dIx (fr q) (.int 1) = some (.int (q.den : Int)) := fun q => by simp [fr]
  have k0 : ∀ w : Wi, dIx (wd w) (.int 0) = some (.int w.1) := fun w => by simp [wd]
  have k1 : ∀ w : Wi, dIx (wd w) (.int 1) = some (.int w.2.1) := fun w => by simp [wd]
  have k2 : ∀ w : Wi, dIx (wd w) (.int 2) = some (.int w.2.2) := fun w => by simp [wd]
  have y1 : 1 ≤ lineN := by decide
  have y2 : 2 ≤ lineN := by decide
  have y3 : 3 ≤ lineN := by decide
  have y4 : acc.length + 1 ≤ lineN := by unfold lineN; omega
  refine ⟨⟨w, X + R * E w + offR (decide (d = 0)), Y + R * Nn w⟩, m2, .v (wd w), .v (fr (X + R * E w)), .v (fr (Y + R * Nn w)), .v (fr (offR (decide (d = 0)))), ⟨w1, b3.mono (by omega), b2.mono (by omega)⟩, g2, by omega, ?_⟩
  have hsd : sd ⟨w, X + R * E w + offR (decide (d = 0)), Y + R * Nn w⟩ = .tuple [wd w, fr (X + R * E w + offR (decide (d = 0))), fr (Y + R * Nn w)] := rfl
  rw [List.map_append, List.map_cons, List.map_nil, hsd]
  by_cases hd : d = 0
  · have ho2 : PyData.tuple [.int 1, .int 2] = fr (offR (decide (d = 0))) := by rw [← fr_half]; simp [offR, hd]
    generalize offR (decide (d = 0)) = O at *
    cases b <;> simp at e1 <;> simp [sBody, xO, e1, e2, f0, f1, k0, k1, k2, q1, q2, s1, s2, s3, s4, s5, p1, p2, p3, dMul_int, hd, ho2, y1, y2, y3, y4, dAdd]
  · have ho2 : PyData.tuple [.int 0, .int 1] = fr (offR (decide (d = 0))) := by rw [← fr_zero]; simp [offR, hd]
    generalize offR (decide (d = 0)) = O at *
    cases b <;> simp at e1 <;> simp [sBody, xO, e1, e2, f0, f1, k0, k1, k2, q1, q2, s1, s2, s3, s4, s5, p1, p2, p3, dMul_int, hd, ho2, y1, y2, y3, y4, dAdd]
theorem m_loop : ∀ (ds : List D) {n : Nat} {m : Ms}, Good n m → k < m.length → n + 2 * ds.length ≤ 1900 → ∀ (b : Bool) (acc : List St), acc.length + ds.length ≤ 4 → ∀ (u7 u8 u9 u10 u11 : Slot),
    ∃ (l : List St) (m' : Ms) (v7 v8 v9 v10 v11 : Slot), (∀ s ∈ l, Ok s) ∧ l.length = ds.length ∧ Good (n + 2 * ds.length) m' ∧ m'.length = m.length ∧
      forF (gV 7) sBody ds [.ob k, .v (fr X), .v (fr Y), .v (fr R), .v (.tuple (acc.map sd)), .v (wd one), .v (.bool b), u7, u8, u9, u10, u11] m = .next [.ob k, .v (fr X), .v (fr Y), .v (fr R), .v (.tuple ((acc ++ l).map sd)), .v (wd one), .v (.bool b), v7, v8, v9, v10, v11] m'
  | [], n, m, g, hk, hn, b, acc, ha, u7, u8, u9, u10, u11 => ⟨[], m, u7, u8, u9, u10, u11, by simp, rfl, g.mono (by simp), rfl, by simp⟩
  | d :: ds, n, m, g, hk, hn, b, acc, ha, u7, u8, u9, u10, u11 => by
    simp only [List.length_cons] at hn ha
    obtain ⟨s, m1, v8, v9, v10, v11, o1, g1, l1, e1⟩ := m_body hX hY hR ho g hk (by omega) b acc (by omega) (.v d) u8 u9 u10 u11
    obtain ⟨l, m', w7, w8, w9, w10, w11, o2, l2, g2, l3, e2⟩ := m_loop ds g1 (by omega) (by omega) b (acc ++ [s]) (by simp; omega) (.v d) v8 v9 v10 v11
    refine ⟨s :: l, m', w7, w8, w9, w10, w11, fun t ht => ?_, by simp [l2], g2.mono (by simp; omega), by omega, ?_⟩
    · rcases List.mem_cons.mp ht with rfl | ht
      · exact o1
      · exact o2 t ht
    · rw [for_cons (ρ' := [.ob k, .v (fr X), .v (fr Y), .v (fr R), .v (.tuple (acc.map sd)), .v (wd one), .v (.bool b), .v d, u8, u9, u10, u11]) (by simp), e1]
      have : acc ++ s :: l = (acc ++ [s]) ++ l := by simp
      rw [this, ← e2]
      rfl
end
theorem bd_int {d : Int} {n : Nat} (h : d.natAbs < 2 ^ n) (hn : 1 ≤ n) : Bd n (d : Rat) := ⟨h, Nat.lt_of_lt_of_le (by decide : (1 : Nat) < 2 ^ 1) (Nat.pow_le_pow_right (by decide) hn)⟩
theorem m_sterns {n k : Nat} {m : Ms} (g : Good n m) (hk : k < m.length) (hn : n ≤ 1500) :
    ∃ (s : St) (l0 : List St) (m' : Ms), D__law_sterns [.ob k] m = .ok (.tuple ((s :: l0).map sd)) m' ∧ (∀ t ∈ s :: l0, Ok t) ∧ l0.length ≤ 3 ∧ Good (n + 20) m' ∧ m'.length = m.length := by
  obtain ⟨d1, m1, e1, a1, b1, g1, l1⟩ := m_draw g hk (by omega) (L := 99) (by decide) (by decide)
  obtain ⟨d2, m2, e2, a2, b2, g2, l2⟩ := m_draw (k := k) g1 (by omega) (by omega) (L := 3) (by decide) (by decide)
  obtain ⟨d3, m3, e3, a3, b3, g3, l3⟩ := m_draw (k := k) g2 (by omega) (by omega) (L := 30) (by decide) (by decide)
  obtain ⟨d4, m4, e4, a4, b4, g4, l4⟩ := m_draw (k := k) g3 (by omega) (by omega) (L := 30) (by decide) (by decide)
  obtain ⟨one, m5, ho, e5, g5, l5⟩ := m_wind (k := k) g4 (by omega) (by omega)
  obtain ⟨d6, m6, e6, a6, b6, g6, l6⟩ := m_draw (k := k) g5 (by omega) (by omega) (L := 5) (by decide) (by decide)
  obtain ⟨d7, m7, e7, a7, b7, g7, l7⟩ := m_draw (k := k) g6 (by omega) (by omega) (L := 4) (by decide) (by decide)
  have hX : Bd 6 (Rat.divInt (d1 - 40) (1 + d2)) := bd_divInt (by omega) (by omega) (by omega)
  have hY : Bd 6 (d3 : Rat) := bd_int (by omega) (by decide)
  have hR : Bd 5 ((1 + d4 : Int) : Rat) := bd_int (by omega) (by decide)
  have hd : ∃ x ds, dRng1 (.int (1 + d7)) = some (x :: ds) ∧ ds.length ≤ 3 := by
    have : d7 = 0 ∨ d7 = 1 ∨ d7 = 2 ∨ d7 = 3 := by omega
    rcases this with rfl | rfl | rfl | rfl
    · exact ⟨_, _, rfl, by decide⟩
    · exact ⟨_, _, rfl, by decide⟩
    · exact ⟨_, _, rfl, by decide⟩
    · exact ⟨_, _, rfl, by decide⟩
  obtain ⟨x, ds, hd, hl⟩ := hd
  obtain ⟨l, m8, v7, v8, v9, v10, v11, o8, k8, g8, l8, e8⟩ := m_loop (k := k) hX hY hR ho (x :: ds) g7 (by omega) (by simp; omega) (decide (d6 = 0)) [] (by simp; omega) .un .un .un .un .un
  cases l with
  | nil => cases k8
  | cons s l0 =>
    have ql := m_llow (n := d1 - 40) (s := 1 + d2) (by omega) (sm_of (by omega) (by omega)) m2
    have tk : m8.take m.length = m8 := List.take_of_length_le (by omega)
    have y2 : 2 ≤ lineN := by decide
    refine ⟨s, l0, m8, ?_, o8, by simp at k8; omega, g8.mono (by simp; omega), by omega⟩
    rw [fr_int, fr_int] at e8
    generalize fr (Rat.divInt (d1 - 40) (1 + d2)) = FX at *
    simp only [List.map_nil, List.nil_append] at e8
    generalize (s :: l0).map sd = out at *
    simp only [sBody] at e8
    simp [D__law_sterns, G__law_sterns, xO, e1, e2, e3, e4, e5, e6, e7, ql, hd, y2]
    rw [e8]
    simp [tk]
end K82

set_option maxRecDepth 100000
set_option maxHeartbeats 2000000
namespace K82
open PySem DS
/-- a place and a reach fit every stern -/
def At (x y r : Rat) (l : List St) : Prop := ∀ t ∈ l, x + r * E t.w = t.x ∧ y + r * Nn t.w = t.y
def F (l : List St) : Prop := ∃ x y r : Rat, 0 < r ∧ At x y r l
theorem all_fit (x y r : Rat) (l : List St) : l.all (fitB x y r) = true ↔ At x y r l := by
  simp [At, fitB]
theorem num_pos_iff (r : Rat) : 0 < r.num ↔ 0 < r := by
  have h1 : 0 ≤ r.num ↔ 0 ≤ r := Rat.num_nonneg
  have h2 : r.num = 0 ↔ r = 0 := Rat.num_eq_zero
  constructor
  · intro h
    have a : 0 ≤ r := h1.mp (by omega)
    have b : r ≠ 0 := fun z => by have := h2.mpr z; omega
    grind
  · intro h
    have a : 0 ≤ r.num := h1.mpr (by grind)
    have b : r.num ≠ 0 := fun z => by have := h2.mp z; grind
    omega
theorem at_det {x y r x' y' r' : Rat} {s t : St} (h1 : At x y r [s, t]) (h2 : At x' y' r' [s, t]) (hs : s.w ∈ WL) (ht : t.w ∈ WL) (hw : s.w ≠ t.w) : r = r' ∧ x = x' ∧ y = y' := by
  obtain ⟨a1, a2⟩ := h1 s (by simp)
  obtain ⟨a3, a4⟩ := h1 t (by simp)
  obtain ⟨b1, b2⟩ := h2 s (by simp)
  obtain ⟨b3, b4⟩ := h2 t (by simp)
  have hr : r = r' := by
    by_cases he : E s.w = E t.w
    · have hn := sub_ne (wl_apart _ hs _ ht hw he)
      have : (r - r') * (Nn s.w - Nn t.w) = 0 := by grind
      rcases Rat.mul_eq_zero.mp this with h | h
      · grind
      · exact absurd h hn
    · have hn := sub_ne he
      have : (r - r') * (E s.w - E t.w) = 0 := by grind
      rcases Rat.mul_eq_zero.mp this with h | h
      · grind
      · exact absurd h hn
  subst hr
  exact ⟨rfl, by grind, by grind⟩
theorem rBy_of {x y r : Rat} {s t : St} (h : At x y r [s, t]) (hs : s.w ∈ WL) (ht : t.w ∈ WL) (hw : s.w ≠ t.w) : rBy s t = r ∧ pX s (rBy s t) = x ∧ pY s (rBy s t) = y := by
  obtain ⟨a1, a2⟩ := h s (by simp)
  obtain ⟨a3, a4⟩ := h t (by simp)
  have hr : rBy s t = r := by
    unfold rBy
    split
    · rename_i he
      have hn := sub_ne (wl_apart _ hs _ ht hw he)
      have e : s.y - t.y = r * (Nn s.w - Nn t.w) := by grind
      rw [e, Rat.mul_div_cancel hn]
    · rename_i he
      have hn := sub_ne he
      have e : s.x - t.x = r * (E s.w - E t.w) := by grind
      rw [e, Rat.mul_div_cancel hn]
  rw [hr]
  exact ⟨rfl, by unfold pX; grind, by unfold pY; grind⟩
theorem F_mono {l l' : List St} (h : F l) (hs : ∀ t ∈ l', t ∈ l) : F l' := by
  obtain ⟨x, y, r, h0, ha⟩ := h
  exact ⟨x, y, r, h0, fun t ht => ha t (hs t ht)⟩
theorem F_one (s : St) : F [s] := ⟨s.x - E s.w, s.y - Nn s.w, 1, by decide, fun t ht => by
  obtain rfl : t = s := by simpa using ht
  constructor <;> grind⟩
theorem st_ext {s t : St} (h1 : t.w = s.w) (h2 : t.x = s.x) (h3 : t.y = s.y) : t = s := by cases s; cases t; simp_all
theorem same_iff (s t : St) : same s t = true ↔ t = s := by
  unfold same
  constructor
  · intro h
    simp at h
    exact st_ext h.1 h.2.1 h.2.2
  · rintro rfl; simp
/-- all of one wind: fitting is being equal -/
theorem F_same {s : St} {l : List St} (hw : ∀ t ∈ s :: l, t.w = s.w) : F (s :: l) ↔ (s :: l).all (same s) = true := by
  rw [List.all_eq_true]
  constructor
  · rintro ⟨x, y, r, h0, ha⟩ t ht
    rw [same_iff]
    obtain ⟨a1, a2⟩ := ha s (by simp)
    obtain ⟨b1, b2⟩ := ha t ht
    have e := hw t ht
    rw [e] at b1 b2
    exact st_ext e (by grind) (by grind)
  · intro h
    exact F_mono (F_one s) fun t ht => by
      have := (same_iff s t).mp (h t ht)
      simp [this]
theorem told_iff {s : St} {l : List St} (h : ∀ t ∈ s :: l, Ok t) : toldB s (s :: l) = true ↔ F (s :: l) := by
  cases hf : (s :: l).find? (fun t => decide (t.w ≠ s.w)) with
  | none =>
    rw [(told_none hf).1, F_same]
    intro t ht
    have := List.find?_eq_none.mp hf t ht
    simpa using this
  | some t =>
    have hw : t.w ≠ s.w := by simpa using List.find?_some hf
    have ht := List.mem_of_find?_eq_some hf
    rw [(told_some hf).1]
    simp only [Bool.and_eq_true, decide_eq_true_eq, all_fit, num_pos_iff]
    constructor
    · rintro ⟨h0, ha⟩
      exact ⟨_, _, _, h0, ha⟩
    · rintro ⟨x, y, r, h0, ha⟩
      obtain ⟨e1, e2, e3⟩ := rBy_of (s := s) (t := t) (fun u hu => ha u (by
        rcases List.mem_cons.mp hu with rfl | hu
        · simp
        · obtain rfl : u = t := by simpa using hu
          exact ht)) (h s (by simp)).w (h t ht).w (fun z => hw z.symm)
      rw [e2, e3, e1]
      exact ⟨h0, ha⟩
theorem fits_iff {s : St} {l : List St} (h : ∀ t ∈ s :: l, Ok t) : (fits s (s :: l)).isSome = true ↔ F (s :: l) := by
  have hi : (fits s (s :: l)).isSome = true ↔ 0 < (rFor s (s :: l)).num ∧ At (pX s (rFor s (s :: l))) (pY s (rFor s (s :: l))) (rFor s (s :: l)) (s :: l) := by
    unfold fits
    rw [← all_fit]
    split
    · simp; omega
    · split
      · rename_i h1 h2; simp [h2]; omega
      · rename_i h1 h2; simp [h2]
  rw [hi]
  cases hf : (s :: l).find? (fun t => decide (t.w ≠ s.w)) with
  | none =>
    have hr : rFor s (s :: l) = 1 := by unfold rFor; rw [hf]
    have hw : ∀ t ∈ s :: l, t.w = s.w := fun t ht => by
      have := List.find?_eq_none.mp hf t ht
      simpa using this
    rw [hr]
    constructor
    · rintro ⟨_, ha⟩; exact ⟨_, _, 1, by decide, ha⟩
    · intro hF
      have hs := (F_same hw).mp hF
      refine ⟨by decide, fun t ht => ?_⟩
      have := (same_iff s t).mp (List.all_eq_true.mp hs t ht)
      rw [this]
      unfold pX pY
      constructor <;> grind
  | some t =>
    have hr : rFor s (s :: l) = rBy s t := by unfold rFor; rw [hf]
    rw [hr, ← told_iff h, (told_some hf).1]
    simp only [Bool.and_eq_true, decide_eq_true_eq, all_fit]
theorem fits_told {s : St} {l : List St} (h : ∀ t ∈ s :: l, Ok t) : (fits s (s :: l)).isSome = toldB s (s :: l) := by
  have := (fits_iff h).trans (told_iff h).symm
  cases h1 : (fits s (s :: l)).isSome <;> cases h2 : toldB s (s :: l) <;> simp_all
theorem told_cases {s : St} {l : List St} (hb : toldB s (s :: l) = true) (h : ∀ t ∈ s :: l, Ok t) :
    (toldD s (s :: l) = .none ∧ toldP s (s :: l) (fits s (s :: l)) = .none ∧ toldR s (s :: l) (fits s (s :: l)) = .none) ∨
    ∃ p q r : Rat, toldD s (s :: l) = .tuple [fr p, fr q, fr r] ∧ toldP s (s :: l) (fits s (s :: l)) = .tuple [fr p, fr q] ∧ toldR s (s :: l) (fits s (s :: l)) = fr r := by
  have hs := (fits_told h).trans hb
  cases hf : (s :: l).find? (fun t => decide (t.w ≠ s.w)) with
  | none =>
    have hw : oneW s (s :: l) = true := by
      unfold oneW
      rw [List.all_eq_true]
      intro t ht
      have := List.find?_eq_none.mp hf t ht
      simpa using this
    refine .inl ⟨(told_none hf).2, ?_, ?_⟩
    · cases fits s (s :: l) with
      | none => rfl
      | some x => simp [toldP, hw]
    · cases fits s (s :: l) with
      | none => rfl
      | some x => simp [toldR, hw]
  | some t =>
    have hr : rFor s (s :: l) = rBy s t := by unfold rFor; rw [hf]
    have ht := List.mem_of_find?_eq_some hf
    have hw : oneW s (s :: l) = false := by
      have q : t.w ≠ s.w := by simpa using List.find?_some hf
      unfold oneW
      rw [List.all_eq_false]
      exact ⟨t, ht, by simpa using q⟩
    have hb' := hb
    rw [(told_some hf).1] at hb'
    have hfit : fits s (s :: l) = some (pX s (rBy s t), pY s (rBy s t), rBy s t) := by
      unfold fits at hs ⊢
      rw [hr] at hs ⊢
      split at hs
      · cases hs
      · split at hs
        · rename_i h1 h2; rw [if_neg h1, if_pos h2]
        · cases hs
    refine .inr ⟨pX s (rBy s t), pY s (rBy s t), rBy s t, ?_, ?_, ?_⟩
    · rw [(told_some hf).2, if_pos hb']
    · rw [hfit]; simp [toldP, hw]
    · rw [hfit]; simp [toldR, hw]
/-- three by three is enough -/
theorem helly {l : List St} (h : ∀ t ∈ l, t.w ∈ WL) (hl : l ≠ []) (hF : ∀ s ∈ l, ∀ t ∈ l, ∀ u ∈ l, F [s, t, u]) : F l := by
  cases l with
  | nil => exact absurd rfl hl
  | cons s l =>
    by_cases hw : ∃ t ∈ s :: l, t.w ≠ s.w
    · obtain ⟨t, ht, hn⟩ := hw
      obtain ⟨x, y, r, h0, ha⟩ := hF s (by simp) t ht s (by simp)
      refine ⟨x, y, r, h0, fun u hu => ?_⟩
      obtain ⟨x', y', r', h0', ha'⟩ := hF s (by simp) t ht u hu
      obtain ⟨e1, e2, e3⟩ := at_det (s := s) (t := t) (fun v hv => ha v (by simp at hv ⊢; grind)) (fun v hv => ha' v (by simp at hv ⊢; grind)) (h s (by simp)) (h t ht) (fun z => hn z.symm)
      rw [e1, e2, e3]
      exact ha' u (by simp)
    · have hw' : ∀ t ∈ s :: l, t.w = s.w := fun t ht => Classical.byContradiction fun z => hw ⟨t, ht, z⟩
      rw [F_same hw', List.all_eq_true]
      intro u hu
      have q := hF s (by simp) u hu u hu
      have q' := (F_same (s := s) (l := [u, u]) (fun t ht => by
        simp at ht
        rcases ht with rfl | rfl
        · rfl
        · exact hw' _ hu)).mp q
      simp at q'
      exact q'.2
end K82

set_option maxRecDepth 100000
set_option maxHeartbeats 2000000
namespace K82
open PySem DS
def nth (s : St) (l : List St) (i : Nat) : St := ((s :: l)[i]?).getD s
def pick (s : St) (l : List St) (k : Nat) : List St := (sub k).map (nth s l)
def B : List St → Bool
  | [] => true
  | s :: l => toldB s (s :: l)
theorem nth_mem (s : St) (l : List St) (i : Nat) : nth s l i ∈ s :: l := by
  unfold nth
  cases h : (s :: l)[i]? with
  | none => simp
  | some t => exact List.mem_of_getElem? h
theorem pick_mem {s : St} {l : List St} {k : Nat} {t : St} (h : t ∈ pick s l k) : t ∈ s :: l := by
  obtain ⟨i, _, rfl⟩ := List.mem_map.mp h
  exact nth_mem s l i
theorem B_iff {l : List St} (h : ∀ t ∈ l, Ok t) (hl : l ≠ []) : B l = true ↔ F l := by
  cases l with
  | nil => exact absurd rfl hl
  | cons s l => exact told_iff h
theorem nth_ix {s : St} {l : List St} {i : Nat} (h : i < l.length + 1) : dIx (.tuple ((s :: l).map sd)) (.int (i : Int)) = some (sd (nth s l i)) := by
  refine ix_nat _ i _ ?_
  have hi : i < (s :: l).length := by simpa using h
  rw [List.getElem?_map]
  unfold nth
  rw [List.getElem?_eq_getElem hi]; rfl
theorem sub_ltn : ∀ n ∈ [1, 2, 3, 4], ∀ k ∈ order n, ∀ i ∈ sub k, i < n := by decide +kernel
theorem order_lt : ∀ n ∈ [1, 2, 3, 4], ∀ k ∈ order n, (sub k).length ≤ 4 ∧ (k ≠ 0 ↔ sub k ≠ []) := by decide +kernel
/-- the row of a set -/
theorem lc_pick {s : St} {l : List St} {n k : Nat} (hn : n ∈ [1, 2, 3, 4]) (hln : n = l.length + 1) (hk : k ∈ order n) {g : DG} {e : DE} {ρ : List Slot} {m : Ms}
    (h : ∀ i : Nat, ∃ ρ', g (.int (i : Int)) ρ = some ρ' ∧ e ρ' m = lift (dIx (.tuple ((s :: l).map sd)) (.int (i : Int))) m) :
    lcF g tTrue e ((sub k).map fun i : Nat => PyData.int (i : Int)) ρ m = .ok ((pick s l k).map sd) m := by
  have := lc_all (g := g) (e := e) (ρ := ρ) (m := m) (fun i : Nat => PyData.int (i : Int)) (fun i => sd (nth s l i)) (sub k) fun i hi => by
    obtain ⟨ρ', h1, h2⟩ := h i
    refine ⟨ρ', h1, ?_⟩
    rw [h2, nth_ix (by have := sub_ltn n hn k hk i hi; omega)]; rfl
  rw [this]
  simp [pick, Function.comp_def]
/-- the first set of two or three that does not fit -/
def barP (s : St) (l : List St) (k : Nat) : Bool := decide (2 ≤ (sub k).length) && decide ((sub k).length ≤ 3) && !B (pick s l k)
def barD (s : St) (l : List St) (ks : List Nat) : D := match ks.find? (barP s l) with
  | some k => tupN (sub k)
  | none => .none
theorem bar_pos {s : St} {l : List St} {k : Nat} {ks : List Nat} (h : barP s l k = true) : barD s l (k :: ks) = tupN (sub k) := by
  unfold barD; rw [List.find?_cons_of_pos h]
theorem bar_neg {s : St} {l : List St} {k : Nat} {ks : List Nat} (h : barP s l k = false) : barD s l (k :: ks) = barD s l ks := by
  unfold barD; rw [List.find?_cons_of_neg (by simp [h])]
theorem fits_pick {s : St} {l : List St} (h : ∀ t ∈ s :: l, Ok t) {n k : Nat} (hn : n ∈ [1, 2, 3, 4]) (hk : k ∈ order n) (h2 : 2 ≤ (sub k).length) (m : Ms) :
    ∃ o : Option (Rat × Rat × Rat), D_fits_of [.v (.list ((pick s l k).map sd))] m = .ok (fitD o) m ∧ o.isNone = !B (pick s l k) := by
  have h4 := (order_lt n hn k hk).1
  have hp : ∀ t ∈ pick s l k, Ok t := fun t ht => h t (pick_mem ht)
  have hlen : (pick s l k).length = (sub k).length := by simp [pick]
  generalize pick s l k = p at *
  cases p with
  | nil => simp at hlen; omega
  | cons t p =>
    refine ⟨_, m_fits (.inr rfl) hp (by simp at hlen; omega) m, ?_⟩
    have := fits_told hp
    show _ = !toldB t (t :: p)
    rw [← this]
    cases fits t (t :: p) <;> rfl
theorem m_barFor {s : St} {l : List St} (h : ∀ t ∈ s :: l, Ok t) {n : Nat} (hn : n ∈ [1, 2, 3, 4]) (hln : n = l.length + 1) (C : D) (hC : C = .tuple ((s :: l).map sd)) (m : Ms) : ∀ (ks : List Nat) (u : Slot), (∀ k ∈ ks, k ∈ order n) →
    (forF (gV 1) (sIf (tAnd (tV (eChain dLe dLe (eC (.int 2)) (eBi dLen (aCons (eV 1) aNil)) (eC c_MOST_IN_BAR))) (tV (eBin dEq (eCall D_fits_of (xCons (xV (eLc (iSeq (eV 1)) (gV 2) tTrue (eBin dIx (eV 0) (eV 2)) [2])) xNil)) (eLst aNil)))) (sRet (eV 1)) sNil) (ks.map fun k => tupN (sub k)) [.v C, u, .un] m).seq (sRet (eC .none)) = .ret (barD s l ks) m
  | [], u, _ => by simp [barD]
  | k :: ks, u, hk => by
    have ih := m_barFor h hn hln C hC m ks (.v (tupN (sub k))) fun k' h' => hk k' (by simp [h'])
    have hk0 := hk k (by simp)
    have h4 := (order_lt n hn k hk0).1
    have lc := lc_pick (s := s) (l := l) hn hln hk0 (g := gV 2) (e := eBin dIx (eV 0) (eV 2)) (ρ := [.v C, .v (tupN (sub k)), .un]) (m := m) fun i => ⟨[.v C, .v (tupN (sub k)), .v (.int (i : Int))], by simp, by simp [hC]⟩
    rw [List.map_cons, for_cons (ρ' := [.v C, .v (tupN (sub k)), .un]) (by simp)]
    have hlen : (pick s l k).length ≤ lineN := by simp [pick, lineN]; omega
    have it : itemsOf (tupN (sub k)) = some ((sub k).map fun i : Nat => PyData.int (i : Int)) := rfl
    have dl : dLen [tupN (sub k)] = some (.int ((sub k).length : Nat)) := by simp [tupN]
    have l0 : 0 ≤ lineN := by decide
    have hs : (sub k).length ≤ lineN := by unfold lineN; omega
    by_cases h2 : 2 ≤ (sub k).length
    · have h2i : (2 : Int) ≤ ((sub k).length : Int) := by omega
      by_cases h3 : (sub k).length ≤ 3
      · have h3i : ((sub k).length : Int) ≤ 3 := by omega
        obtain ⟨o, f1, f2⟩ := fits_pick h hn hk0 h2 m
        have e : barP s l k = o.isNone := by unfold barP; rw [f2]; simp [h2, h3]
        cases ho : o.isNone with
        | true =>
          have := bar_pos (ks := ks) (e.trans ho)
          rw [this]
          have eqf := eq_fitD o
          rw [ho] at eqf
          simp [eChain, dl, c_MOST_IN_BAR, h2i, h3i, it, lc, wipeS, hlen, hs, f1, eqf, l0]
        | false =>
          have := bar_neg (ks := ks) (e.trans ho)
          rw [this, ← ih]
          have eqf := eq_fitD o
          rw [ho] at eqf
          simp [eChain, dl, c_MOST_IN_BAR, h2i, h3i, it, lc, wipeS, hlen, hs, f1, eqf, l0]
      · have := bar_neg (s := s) (l := l) (k := k) (ks := ks) (by simp [barP, h3])
        rw [this, ← ih]
        have h3i : ¬ ((sub k).length : Int) ≤ 3 := by omega
        simp [eChain, dl, c_MOST_IN_BAR, h2i, h3i]
    · have := bar_neg (s := s) (l := l) (k := k) (ks := ks) (by simp [barP, h2])
      rw [this, ← ih]
      have h2i : ¬ (2 : Int) ≤ ((sub k).length : Int) := by omega
      simp [eChain, dl, c_MOST_IN_BAR, h2i]
end K82

set_option maxRecDepth 100000
set_option maxHeartbeats 2000000
namespace K82
open PySem DS
theorem bar_tup {n : Nat} (h : n ≤ 4) : dTupR (.int (n : Int)) = some (rngD n) := by
  have : n = 0 ∨ n = 1 ∨ n = 2 ∨ n = 3 ∨ n = 4 := by omega
  have hb : ∀ i ∈ ([0, 1, 2, 3, 4] : List Int), (bound62 i && decide (i.toNat ≤ lineN)) = true := by decide +kernel
  rcases this with rfl | rfl | rfl | rfl | rfl
  · unfold dTupR; simp only; rw [if_pos (hb _ (by simp))]; rfl
  · unfold dTupR; simp only; rw [if_pos (hb _ (by simp))]; rfl
  · unfold dTupR; simp only; rw [if_pos (hb _ (by simp))]; rfl
  · unfold dTupR; simp only; rw [if_pos (hb _ (by simp))]; rfl
  · unfold dTupR; simp only; rw [if_pos (hb _ (by simp))]; rfl
theorem n_mem {n : Nat} (h : n ≤ 3) : n + 1 ∈ [1, 2, 3, 4] := by
  have : n = 0 ∨ n = 1 ∨ n = 2 ∨ n = 3 := by omega
  rcases this with rfl | rfl | rfl | rfl <;> decide
theorem m_bar0 {C R : D} {N : Int} {m : Ms} {xs : List D} {d : D} (c : D_check_sterns [.v C] m = .ok .none m) (dl : dLen [C] = some (.int N)) (dt : dTupR (.int N) = some R) (st : D_sets_of [.v R] m = .ok (.list xs) m)
    (q : (forF (gV 1) (sIf (tAnd (tV (eChain dLe dLe (eC (.int 2)) (eBi dLen (aCons (eV 1) aNil)) (eC c_MOST_IN_BAR))) (tV (eBin dEq (eCall D_fits_of (xCons (xV (eLc (iSeq (eV 1)) (gV 2) tTrue (eBin dIx (eV 0) (eV 2)) [2])) xNil)) (eLst aNil)))) (sRet (eV 1)) sNil) xs [.v C, .un, .un] m).seq (sRet (eC .none)) = .ret d m) : D_stern_bar [.v C] m = .ok d m := by
  unfold D_stern_bar G_stern_bar
  simp [c, eTupR, dl, dt, st]
  rw [q]
  simp
theorem m_bar {s : St} {l : List St} (h : ∀ t ∈ s :: l, Ok t) (hl : l.length ≤ 3) (m : Ms) : D_stern_bar [.v (.tuple ((s :: l).map sd))] m = .ok (barD s l (order (l.length + 1))) m :=
  m_bar0 (m_check h (by simp) (by simp; omega) m) (N := ((l.length + 1 : Nat) : Int)) (by simp) (bar_tup (by omega)) (m_sets (n_mem hl) m) (m_barFor h (n_mem hl) rfl (.tuple ((s :: l).map sd)) rfl m (order (l.length + 1)) .un (fun _ h => h))
end K82

set_option maxRecDepth 100000
set_option maxHeartbeats 2000000
namespace K82
open PySem DS
def badB (s : St) (l : List St) (k : Nat) : Bool := decide (k ≠ 0) && !B (pick s l k)
def badL (s : St) (l : List St) (ks : List Nat) : List Nat := ks.filter (badB s l)
theorem pick_all {s : St} {l : List St} (hl : l.length ≤ 3) : ∀ t ∈ s :: l, t ∈ pick s l (2 ^ (l.length + 1) - 1) := by
  match l, hl with
  | [], _ => intro t ht; simp [pick, show sub 1 = [0] from by decide, nth] at ht ⊢; exact ht
  | [a], _ => intro t ht; simp [pick, show sub 3 = [0, 1] from by decide, nth] at ht ⊢; exact ht
  | [a, b], _ => intro t ht; simp [pick, show sub 7 = [0, 1, 2] from by decide, nth] at ht ⊢; exact ht
  | [a, b, c], _ => intro t ht; simp [pick, show sub 15 = [0, 1, 2, 3] from by decide, nth] at ht ⊢; exact ht
theorem B_pick {s : St} {l : List St} (h : ∀ t ∈ s :: l, Ok t) {k : Nat} (hk : sub k ≠ []) : B (pick s l k) = true ↔ F (pick s l k) :=
  B_iff (fun t ht => h t (pick_mem ht)) (by simp [pick, hk])
theorem B_single {s : St} {l : List St} (h : ∀ t ∈ s :: l, Ok t) {k : Nat} (hk : (sub k).length = 1) : B (pick s l k) = true := by
  rw [B_pick h (by intro z; rw [z] at hk; cases hk)]
  obtain ⟨i, hi⟩ := List.length_eq_one_iff.mp hk
  simp only [pick, hi, List.map_cons, List.map_nil]
  exact F_one _
theorem B_down {s : St} {l : List St} (h : ∀ t ∈ s :: l, Ok t) (hb : F (s :: l)) {k : Nat} (hk : sub k ≠ []) : B (pick s l k) = true :=
  (B_pick h hk).mpr (F_mono hb fun t ht => pick_mem ht)
/-- the whole row fits when all sets of at most three do -/
theorem B_up {s : St} {l : List St} (h : ∀ t ∈ s :: l, Ok t) (hl : l.length ≤ 3) (hb : ∀ k ∈ order (l.length + 1), k ≠ 0 → (sub k).length ≤ 3 → B (pick s l k) = true) : F (s :: l) := by
  have hF : ∀ k ∈ order (l.length + 1), k ≠ 0 → (sub k).length ≤ 3 → F (pick s l k) := fun k hk h0 h3 => (B_pick h ((order_lt _ (n_mem hl) k hk).2.mp h0)).mp (hb k hk h0 h3)
  match l, hl with
  | [], _ => exact F_one s
  | [a], _ => exact F_mono (hF 3 (show 3 ∈ order 2 by decide) (by decide) (by decide)) (pick_all (l := [a]) (by simp))
  | [a, b], _ => exact F_mono (hF 7 (show 7 ∈ order 3 by decide) (by decide) (by decide)) (pick_all (l := [a, b]) (by simp))
  | [a, b, c], _ =>
    have f1 := hF 7 (show 7 ∈ order 4 by decide) (by decide) (by decide)
    have f2 := hF 11 (show 11 ∈ order 4 by decide) (by decide) (by decide)
    have f3 := hF 13 (show 13 ∈ order 4 by decide) (by decide) (by decide)
    have f4 := hF 14 (show 14 ∈ order 4 by decide) (by decide) (by decide)
    simp only [pick, show sub 7 = [0, 1, 2] from by decide, show sub 11 = [0, 1, 3] from by decide, show sub 13 = [0, 2, 3] from by decide, show sub 14 = [1, 2, 3] from by decide, List.map_cons, List.map_nil] at f1 f2 f3 f4
    simp [nth] at f1 f2 f3 f4
    refine helly (fun t ht => (h t ht).w) (by simp) fun t ht u hu v hv => ?_
    simp only [List.mem_cons, List.not_mem_nil, or_false] at ht hu hv
    rcases ht with rfl | rfl | rfl | rfl <;> rcases hu with rfl | rfl | rfl | rfl <;> rcases hv with rfl | rfl | rfl | rfl <;> first | (refine F_mono f1 ?_; simp; done) | (refine F_mono f2 ?_; simp; done) | (refine F_mono f3 ?_; simp; done) | (refine F_mono f4 ?_; simp; done)
end K82

set_option maxRecDepth 100000
set_option maxHeartbeats 2000000
namespace K82
open PySem DS
/-! the two ways of looking for the first bad set agree -/
theorem len_pick (s : St) (l : List St) (k : Nat) : (pick s l k).length = (sub k).length := by simp [pick]
/-- the order goes by how many there are -/
theorem order_sorted : ∀ n ∈ [1, 2, 3, 4], (order n).Pairwise (fun i k => (sub i).length ≤ (sub k).length) := by decide +kernel
theorem order_zero : ∀ n ∈ [1, 2, 3, 4], ∀ k ∈ order n, k ≠ 0 → 1 ≤ (sub k).length := by decide +kernel
theorem find_same {α : Type} {p q : α → Bool} : ∀ (l : List α), (∀ x ∈ l, q x = true → p x = true) → (∀ a, l.find? p = some a → q a = true) → l.find? q = l.find? p
  | [], _, _ => rfl
  | x :: l, h1, h2 => by
    cases hp : p x with
    | true =>
      have := h2 x (by simp [hp])
      simp [hp, this]
    | false =>
      have hq : q x = false := Bool.eq_false_iff.mpr fun z => by rw [h1 x (by simp) z] at hp; cases hp
      rw [List.find?_cons_of_neg (Bool.eq_false_iff.mp hp), List.find?_cons_of_neg (Bool.eq_false_iff.mp hq)]
      exact find_same l (fun y hy => h1 y (by simp [hy])) fun a ha => h2 a (by rw [List.find?_cons_of_neg (Bool.eq_false_iff.mp hp)]; exact ha)
theorem pair_find {α : Type} {R : α → α → Prop} {p : α → Bool} : ∀ {l : List α}, l.Pairwise R → ∀ {a b : α}, l.find? p = some a → b ∈ l → p b = true → a = b ∨ R a b
  | [], _, a, b, h, hb, _ => by cases hb
  | x :: l, hl, a, b, h, hb, hp => by
    rw [List.pairwise_cons] at hl
    cases hx : p x with
    | true =>
      have : a = x := by simpa [hx] using h.symm
      subst this
      rcases List.mem_cons.mp hb with rfl | hb
      · exact .inl rfl
      · exact .inr (hl.1 b hb)
    | false =>
      rw [List.find?_cons_of_neg (Bool.eq_false_iff.mp hx)] at h
      rcases List.mem_cons.mp hb with rfl | hb
      · rw [hp] at hx; cases hx
      · exact pair_find hl.2 h hb hp
theorem bad_iff {s : St} {l : List St} (h : ∀ t ∈ s :: l, Ok t) (hl : l.length ≤ 3) : (∃ k ∈ order (l.length + 1), badB s l k = true) ↔ ¬ F (s :: l) := by
  constructor
  · rintro ⟨k, hk, hb⟩ hF
    unfold badB at hb
    simp only [Bool.and_eq_true, decide_eq_true_eq, Bool.not_eq_true'] at hb
    have := B_down h hF ((order_lt _ (n_mem hl) k hk).2.mp hb.1)
    rw [this] at hb; cases hb.2
  · intro hF
    refine Classical.byContradiction fun z => hF (B_up h hl fun k hk h0 h3 => ?_)
    cases hb : B (pick s l k) with
    | true => rfl
    | false => exact absurd ⟨k, hk, by simp [badB, h0, hb]⟩ z
theorem first_bad {s : St} {l : List St} (h : ∀ t ∈ s :: l, Ok t) (hl : l.length ≤ 3) {k : Nat} (hf : (order (l.length + 1)).find? (badB s l) = some k) : 2 ≤ (sub k).length ∧ (sub k).length ≤ 3 := by
  have hk := List.mem_of_find?_eq_some hf
  have hb : badB s l k = true := List.find?_some hf
  have hb' := hb
  unfold badB at hb'
  simp only [Bool.and_eq_true, decide_eq_true_eq, Bool.not_eq_true'] at hb'
  have h1 := order_zero _ (n_mem hl) k hk hb'.1
  constructor
  · refine Classical.byContradiction fun z => ?_
    have := B_single h (k := k) (by omega)
    rw [this] at hb'; cases hb'.2
  · refine Classical.byContradiction fun z => ?_
    -- all sets of three or fewer fit, then so does the whole
    have hF : F (s :: l) := B_up h hl fun i hi h0 h3 => by
      cases hbi : B (pick s l i) with
      | true => rfl
      | false =>
        have hbad : badB s l i = true := by simp [badB, h0, hbi]
        rcases pair_find (order_sorted _ (n_mem hl)) hf hi hbad with e | e
        · rw [e] at z; exact absurd h3 z
        · omega
    exact absurd hF ((bad_iff h hl).mp ⟨k, hk, hb⟩)
theorem bar_is {s : St} {l : List St} (h : ∀ t ∈ s :: l, Ok t) (hl : l.length ≤ 3) : (order (l.length + 1)).find? (barP s l) = (order (l.length + 1)).find? (badB s l) := by
  refine find_same _ (fun k hk hb => ?_) fun k hk => ?_
  · unfold barP at hb
    simp only [Bool.and_eq_true, decide_eq_true_eq, Bool.not_eq_true'] at hb
    have : k ≠ 0 := (order_lt _ (n_mem hl) k hk).2.mpr fun z => by rw [z] at hb; simp at hb
    simp [badB, this, hb.2]
  · have q := first_bad h hl hk
    have hb := List.find?_some hk
    unfold badB at hb
    simp only [Bool.and_eq_true, decide_eq_true_eq, Bool.not_eq_true'] at hb
    simp [barP, q.1, q.2, hb.2]
theorem told_F {s : St} {l : List St} (h : ∀ t ∈ s :: l, Ok t) : toldB s (s :: l) = false ↔ ¬ F (s :: l) := by
  rw [← told_iff h]; simp
/-- the bad sets: none where all fit; else the first one is the bar -/
theorem bad_cases {s : St} {l : List St} (h : ∀ t ∈ s :: l, Ok t) (hl : l.length ≤ 3) :
    (toldB s (s :: l) = true ∧ badL s l (order (l.length + 1)) = [] ∧ barD s l (order (l.length + 1)) = .none) ∨
    ∃ k ks, toldB s (s :: l) = false ∧ badL s l (order (l.length + 1)) = k :: ks ∧ barD s l (order (l.length + 1)) = tupN (sub k) ∧ (sub k).length ≤ 3 := by
  cases hb : badL s l (order (l.length + 1)) with
  | nil =>
    refine .inl ⟨?_, rfl, ?_⟩
    · cases ht : toldB s (s :: l) with
      | true => rfl
      | false =>
        obtain ⟨k, hk, hbk⟩ := (bad_iff h hl).mpr ((told_F h).mp ht)
        have : k ∈ badL s l (order (l.length + 1)) := List.mem_filter.mpr ⟨hk, hbk⟩
        rw [hb] at this; cases this
    · unfold barD
      rw [bar_is h hl, ← List.head?_filter]
      rw [show (order (l.length + 1)).filter (badB s l) = badL s l (order (l.length + 1)) from rfl, hb]; rfl
  | cons k ks =>
    have hf : (order (l.length + 1)).find? (badB s l) = some k := by
      rw [← List.head?_filter, show (order (l.length + 1)).filter (badB s l) = badL s l (order (l.length + 1)) from rfl, hb]; rfl
    refine .inr ⟨k, ks, (told_F h).mpr ((bad_iff h hl).mp ⟨k, List.mem_of_find?_eq_some hf, List.find?_some hf⟩), rfl, ?_, (first_bad h hl hf).2⟩
    unfold barD
    rw [bar_is h hl, hf]
end K82

set_option maxRecDepth 100000
set_option maxHeartbeats 2000000
namespace K82
open PySem DS
def sameOk : Nat → D → Bool
  | 0, _ => false
  | n + 1, .tuple xs => decide (xs.length ≤ 1000) && xs.all (sameOk n)
  | _ + 1, .int _ => true
  | _ + 1, .bool _ => true
  | _ + 1, .none => true
  | _ + 1, .str _ => true
  | _ + 1, _ => false
theorem sameOk_tup (n : Nat) (xs : List D) : sameOk (n + 1) (.tuple xs) = (decide (xs.length ≤ 1000) && xs.all (sameOk n)) := rfl
theorem rng_nat (k : Nat) : rng 0 (k : Int) = (List.range k).map fun i : Nat => PyData.int (i : Int) := by
  unfold rng; simp
theorem dRng_nat {k : Nat} (h : k ≤ 1000000) : dRng1 (.int (k : Int)) = some ((List.range k).map fun i : Nat => PyData.int (i : Int)) := by
  show (if bound62 (k : Int) = true then some (rng 0 (k : Int)) else none) = _
  rw [if_pos (by unfold bound62; simp; omega), rng_nat]
theorem same_tup {n : Nat} {xs R Z : List D} {m : Ms} (dr : dRng1 (.int (xs.length : Int)) = some R) (hR : R.length ≤ lineN)
    (lc : lcF (gV 2) tTrue (eCall (D__law_same n) (xCons (xV (eBin dIx (eV 0) (eV 2))) (xCons (xV (eBin dIx (eV 1) (eV 2))) xNil))) R [.v (.tuple xs), .v (.tuple xs), .un] m = .ok Z m) (da : dAll [.list Z] = some (.bool true)) :
    D__law_same (n + 1) [.v (.tuple xs), .v (.tuple xs)] m = .ok (.bool true) m := by
  simp only [D__law_same, G__law_same, fn_ev, ev_sSeq]
  simp [dr, lc, hR, da, wipeS]
theorem same_items {n : Nat} {xs : List D} {m : Ms} (ih : ∀ x ∈ xs, D__law_same n [.v x, .v x] m = .ok (.bool true) m) :
    lcF (gV 2) tTrue (eCall (D__law_same n) (xCons (xV (eBin dIx (eV 0) (eV 2))) (xCons (xV (eBin dIx (eV 1) (eV 2))) xNil))) ((List.range xs.length).map fun i : Nat => PyData.int (i : Int)) [.v (.tuple xs), .v (.tuple xs), .un] m = .ok ((List.range xs.length).map fun _ => .bool true) m :=
  lc_all (fun i : Nat => PyData.int (i : Int)) (fun _ => .bool true) (List.range xs.length) fun i hi => by
    have hi' : i < xs.length := List.mem_range.mp hi
    refine ⟨[.v (.tuple xs), .v (.tuple xs), .v (.int (i : Int))], by simp, ?_⟩
    have q := ix_nat xs i xs[i] (List.getElem?_eq_getElem hi')
    simp [q, ih xs[i] (List.getElem_mem hi')]
theorem same_refl (n : Nat) : ∀ (d : D) (m : Ms), sameOk n d = true → D__law_same n [.v d, .v d] m = .ok (.bool true) m := by
  induction n with
  | zero => intro d m h; cases h
  | succ n ih =>
    intro d m h
    cases d with
    | tuple xs =>
      rw [sameOk_tup] at h
      simp only [Bool.and_eq_true, decide_eq_true_eq, List.all_eq_true] at h
      refine same_tup (dRng_nat (by omega)) (by rw [List.length_map, List.length_range]; unfold lineN; omega) (same_items fun x hx => ih x m (h.2 x hx)) ?_
      rw [dAll_map (fun _ : Nat => true)]
      simp
    | int i => simp [D__law_same, G__law_same, dNe_of, dEq_of, shal, PyData.depth]
    | bool b => cases b <;> simp [D__law_same, G__law_same, dNe_of, dEq_of, shal, PyData.depth, isa]
    | none => simp [D__law_same, G__law_same, dNe_of, dEq_of, shal, PyData.depth, isa, PyData.eqv]
    | str s => simp [D__law_same, G__law_same, dNe_of, dEq_of, shal, PyData.depth, isa, PyData.eqv]
    | list _ => cases h
    | dict _ => cases h
/-- the well of a lap -/
theorem m_well (ns : List Int) (hn : ns.length ≤ 63) (lap : Nat) (hl : lap ≤ 5) (m : Ms) : ∃ a b : Int, D__law_well [.v (.list (ns.map .int)), .v (.int (lap : Int))] m = .ok [.int a, .int b, .int 0] m ∧ 0 ≤ b ∧ b < 2147483563 := by
  have P : (0 : Int) < 2147483563 := by decide
  have c3 : small 45281 = true := by decide
  have c4 : small 41 = true := by decide
  have c5 : small 15031 = true := by decide
  have c6 : small 7013 = true := by decide
  have c7 : small (lap : Int) = true := small_of (n := 10) (by omega) (by decide)
  have lp : ∀ (cs : List Int) (S : D) (st : Int) (u w : Slot), 0 ≤ st → st < 2147483563 → ∃ st' u', 0 ≤ st' ∧ st' < 2147483563 ∧ forF (gV 3) (sAsg (eBin dMod (eBi dInt (aCons (eBin dAdd (eBin dAdd (eBin dMul (eV 2) (eC (.int 45281))) (eBin dMod (eBi dInt (aCons (eV 3) aNil)) (eC (.int 2147483549)))) (eC (.int 19))) aNil)) (eC (.int 2147483563))) (gV 2)) (cs.map .int) [.v S, .v (.int (lap : Int)), .v (.int st), u, w] m = .next [.v S, .v (.int (lap : Int)), .v (.int st'), u', w] m := by
    intro cs
    induction cs with
    | nil => intro S st u w h0 h1; exact ⟨st, u, h0, h1, by simp⟩
    | cons c cs ih =>
      intro S st u w h0 h1
      have t := fm (i := st * 45281 + c.fmod 2147483549 + 19) P
      obtain ⟨st', u', a, b, e⟩ := ih S ((st * 45281 + c.fmod 2147483549 + 19).fmod 2147483563) (.v (.int c)) w t.1 t.2
      refine ⟨st', u', a, b, ?_⟩
      have c1 := sm_of h0 h1
      rw [List.map_cons, for_cons (ρ' := [.v S, .v (.int (lap : Int)), .v (.int st), .v (.int c), w]) (by simp), ← e]
      simp [dMul_int, dMod_int, c1, c3]
  have sl : dSl (.list (ns.map .int)) none (some 12) = some (.list ((ns.take 12).map .int)) := by
    simp only [dSl, cutD]
    have : HT.sIx (ns.map PyData.int).length 0 none = 0 := rfl
    rw [this]
    simp only [List.drop_zero, Nat.sub_zero]
    have e : HT.sIx (ns.map PyData.int).length (ns.map PyData.int).length (some 12) = min 12 ns.length := by
      simp [HT.sIx]
    rw [e, List.map_take]
    congr 2
    simp [List.take_eq_take_iff]
  obtain ⟨st, u, s0, s1, e⟩ := lp (ns.take 12) (.list (ns.map .int)) (130577 + 7013 * (lap : Int)) .un .un (by omega) (by omega)
  have own : ∃ o : Int, ((lap : Int) < ((ns.map PyData.int).length : Int) ∧ dIx (.list (ns.map .int)) (.int (lap : Int)) = some (.int o)) ∨ (¬ (lap : Int) < ((ns.map PyData.int).length : Int) ∧ o = 0) := by
    by_cases h : (lap : Int) < (ns.length : Int)
    · have h' : lap < ns.length := by omega
      exact ⟨ns[lap], .inl ⟨by simpa using h, ix_natL (ns.map .int) lap (.int ns[lap]) (by simp [h'])⟩⟩
    · exact ⟨0, .inr ⟨by simpa using h, rfl⟩⟩
  obtain ⟨o, ho⟩ := own
  have t := fm (i := st * 41 + o.fmod 2147483549 * 15031 + 5) P
  have hst := sm_of s0 s1
  have t2 := fm (i := o) (p := 2147483549) (by decide)
  have hof : small (o.fmod 2147483549) = true := sm_of t2.1 (by omega)
  have l3 : 3 ≤ lineN := by decide
  generalize ns.map PyData.int = C at *
  have pw : dPow (.int 10) (.int 15) = some (.int 1000000000000000) := rfl
  have z0 : small 0 = true := by decide
  refine ⟨if o < 0 then -o else if 1000000000000000 ≤ o then o else 0, (st * 41 + o.fmod 2147483549 * 15031 + 5).fmod 2147483563, ?_, t.1, t.2⟩
  generalize (ns.take 12).map PyData.int = W at sl e
  rcases ho with ⟨h1, h2⟩ | ⟨h1, h2⟩
  · by_cases q1 : o < 0
    · simp [D__law_well, G__law_well, dMul_int, dMod_int, c3, c4, c5, c6, c7, hst, hof, sl, e, h1, h2, q1, l3, List.take_length, pw]
    · by_cases q2 : 1000000000000000 ≤ o
      · simp [D__law_well, G__law_well, dMul_int, dMod_int, c3, c4, c5, c6, c7, hst, hof, sl, e, h1, h2, q1, q2, l3, List.take_length, pw]
      · simp [D__law_well, G__law_well, dMul_int, dMod_int, c3, c4, c5, c6, c7, hst, hof, sl, e, h1, h2, q1, q2, l3, List.take_length, pw]
  · subst h2
    simp [D__law_well, G__law_well, dMul_int, dMod_int, c3, c4, c5, c6, c7, hst, z0, sl, e, h1, l3, List.take_length, pw]
end K82

set_option maxRecDepth 100000
set_option maxHeartbeats 2000000
namespace K82
open PySem DS
theorem told_pick {s : St} {l : List St} (h : ∀ t ∈ s :: l, Ok t) {n k : Nat} (hn : n ∈ [1, 2, 3, 4]) (hk : k ∈ order n) (h0 : k ≠ 0) (m : Ms) :
    ∃ T, D__law_stern_told [.v (.list ((pick s l k).map sd))] m = .ok (.tuple [.bool (B (pick s l k)), T]) m := by
  have hne := (order_lt n hn k hk).2.mp h0
  have h4 := (order_lt n hn k hk).1
  have hp : ∀ t ∈ pick s l k, Ok t := fun t ht => h t (pick_mem ht)
  have hlen := len_pick s l k
  generalize pick s l k = p at *
  cases p with
  | nil => rw [List.length_nil] at hlen; exact absurd (List.length_eq_zero_iff.mp hlen.symm) hne
  | cons t p => exact ⟨_, m_told (.inr rfl) hp (by simp at hlen; omega) m⟩
theorem ne_nilT (xs : List D) : dNe (.tuple xs) (.tuple []) = some (.bool (!xs.isEmpty)) := by
  rw [dNe_of (by simp [shal, PyData.depth, PyData.depthAll])]
  cases xs <;> simp [PyData.eqvAll]
theorem ne_nilL (xs : List D) : dNe (.list xs) (.list []) = some (.bool (!xs.isEmpty)) := by
  rw [dNe_of (by simp [shal, PyData.depth, PyData.depthAll])]
  cases xs <;> simp [PyData.eqvAll]
theorem eq_nilL (xs : List D) : dEq (.list xs) (.list []) = some (.bool xs.isEmpty) := by
  rw [dEq_of (by simp [shal, PyData.depth, PyData.depthAll])]
  cases xs <;> simp [PyData.eqvAll]
theorem ne_nil (k n : Nat) (hn : n ∈ [1, 2, 3, 4]) (hk : k ∈ order n) : dNe (tupN (sub k)) (.tuple []) = some (.bool (!decide (k = 0))) := by
  unfold tupN
  rw [ne_nilT]
  have := (order_lt n hn k hk).2
  by_cases h : k = 0
  · subst h; rfl
  · have := this.mp h
    cases hs : sub k with
    | nil => exact absurd hs this
    | cons a b => simp [h]
def bBody : DS := sIf (tAnd (tV (eBin dNe (eV 5) (eTup aNil))) (tNot (tV (eBin dIx (eCall D__law_stern_told (xCons (xV (eLc (iSeq (eV 5)) (gV 6) tTrue (eBin dIx (eV 1) (eV 6)) [6])) xNil)) (eC (.int 0)))))) (sApp 4 (eV 5)) sNil
theorem m_badFor {s : St} {l : List St} (h : ∀ t ∈ s :: l, Ok t) {n : Nat} (hn : n ∈ [1, 2, 3, 4]) (hln : n = l.length + 1) (C : D) (hC : C = .tuple ((s :: l).map sd)) (a0 F T : Slot) (m1 : Ms) : ∀ (ks : List Nat) (acc : List D) (u : Slot), (∀ k ∈ ks, k ∈ order n) → acc.length + ks.length ≤ 100 →
    ∃ u', forF (gV 5) bBody (ks.map fun k => tupN (sub k)) [a0, .v C, F, T, .ow m1.length, u, .un, .un, .un, .un, .un] (m1 ++ [some acc]) = .next [a0, .v C, F, T, .ow m1.length, u', .un, .un, .un, .un, .un] (m1 ++ [some (acc ++ (badL s l ks).map fun k => tupN (sub k))])
  | [], acc, u, _, _ => ⟨u, by simp [badL]⟩
  | k :: ks, acc, u, hk, hl => by
    simp only [List.length_cons] at hl
    have hk0 := hk k (by simp)
    have h4 := (order_lt n hn k hk0).1
    rw [List.map_cons, for_cons (ρ' := [a0, .v C, F, T, .ow m1.length, .v (tupN (sub k)), .un, .un, .un, .un, .un]) (by simp)]
    have e0 := ne_nil k n hn hk0
    have l0 : 0 ≤ lineN := by decide
    by_cases hz : k = 0
    · rw [hz] at e0
      have e00 : (!decide ((0 : Nat) = 0)) = false := rfl
      rw [e00] at e0
      rw [← hz] at e0
      obtain ⟨u', ih⟩ := m_badFor h hn hln C hC a0 F T m1 ks acc (.v (tupN (sub k))) (fun k' h' => hk k' (by simp [h'])) (by omega)
      refine ⟨u', ?_⟩
      have e : badL s l (k :: ks) = badL s l ks := by simp [badL, badB, hz]
      rw [e, ← ih]
      simp [bBody, e0, l0]
    · have e00 : (!decide (k = 0)) = true := by simp [hz]
      rw [e00] at e0
      obtain ⟨T', ht⟩ := told_pick h hn hk0 hz (m1 ++ [some acc])
      have lc := lc_pick (s := s) (l := l) hn hln hk0 (g := gV 6) (e := eBin dIx (eV 1) (eV 6)) (ρ := [a0, .v C, F, T, .ow m1.length, .v (tupN (sub k)), .un, .un, .un, .un, .un]) (m := m1 ++ [some acc]) fun i => ⟨[a0, .v C, F, T, .ow m1.length, .v (tupN (sub k)), .v (.int (i : Int)), .un, .un, .un, .un], by simp, by simp [hC]⟩
      have it : itemsOf (tupN (sub k)) = some ((sub k).map fun i : Nat => PyData.int (i : Int)) := rfl
      have hs : (sub k).length ≤ lineN := by unfold lineN; omega
      cases hb : B (pick s l k) with
      | true =>
        obtain ⟨u', ih⟩ := m_badFor h hn hln C hC a0 F T m1 ks acc (.v (tupN (sub k))) (fun k' h' => hk k' (by simp [h'])) (by omega)
        refine ⟨u', ?_⟩
        have e : badL s l (k :: ks) = badL s l ks := by simp [badL, badB, hb]
        rw [hb] at ht
        rw [e, ← ih]
        simp [bBody, e0, l0, it, lc, hs, ht, wipeS]
      | false =>
        obtain ⟨u', ih⟩ := m_badFor h hn hln C hC a0 F T m1 ks (acc ++ [tupN (sub k)]) (.v (tupN (sub k))) (fun k' h' => hk k' (by simp [h'])) (by simp; omega)
        refine ⟨u', ?_⟩
        have e : badL s l (k :: ks) = k :: badL s l ks := by simp [badL, badB, hb, hz]
        rw [hb] at ht
        have e2 : acc ++ (badL s l (k :: ks)).map (fun k => tupN (sub k)) = (acc ++ [tupN (sub k)]) ++ (badL s l ks).map (fun k => tupN (sub k)) := by rw [e]; simp
        rw [e2, ← ih]
        have hal : acc.length < lineN := by unfold lineN; omega
        have mm : mAt m1.length (m1 ++ [some acc]) = some acc := by simp
        simp [bBody, e0, l0, it, lc, hs, ht, wipeS, sApp, objAt, mm, appD, hal]
end K82

set_option maxRecDepth 100000
set_option maxHeartbeats 4000000
namespace K82
open PySem DS
theorem m_isNone {G : FnSem} {m : Ms} (h : G [] m = .exc ⟨"NoFit", none⟩ m) : D__law_is_none G [] m = .ok (.bool true) m := by
  simp [D__law_is_none, G__law_is_none, sTryIs, fnAtS, h]
theorem rep_same (f : Bool) : ∃ z, dRepr [.list [.bool f, .bool f]] = some (.str z) := by
  cases f
  · exact ⟨_, by unfold dRepr; simp only; rw [if_pos (by decide +kernel)]⟩
  · exact ⟨_, by unfold dRepr; simp only; rw [if_pos (by decide +kernel)]⟩
theorem ne_str (z : Str) : dNe (.str z) (.str z) = some (.bool false) := by
  rw [dNe_of (by simp [shal, PyData.depth])]; simp [PyData.eqv]
section
variable {k : Nat} {m m1 : Ms} {C T R P Q : D} {N : Int} {xs bad : List D} {u' : DS.Slot}
theorem m_rightA (hl : m1.length = m.length) (hs : D__law_sterns [.ob k] m = .ok C m1) (ht : D__law_stern_told [.v C] m1 = .ok (.tuple [.bool true, T]) m1) (hd : D_do_fit [.v C] m1 = .ok (.bool true) m1)
    (dl : dLen [C] = some (.int N)) (dt : dTupR (.int N) = some R) (hx : ∀ m, D__law_sets [.v R] m = .ok (.list xs) m)
    (hfor : forF (gV 5) bBody xs [.ob k, .v C, .v (.bool true), .v T, .ow m1.length, .un, .un, .un, .un, .un, .un] (m1 ++ [some []]) = .next [.ob k, .v C, .v (.bool true), .v T, .ow m1.length, u', .un, .un, .un, .un, .un] (m1 ++ [some []]))
    (hbar : ∀ m, D_stern_bar [.v C] m = .ok .none m) (hp : ∀ m, D_told_place [.v C] m = .ok P m) (hr : ∀ m, D_told_reach [.v C] m = .ok Q m)
    (hc : (T = .none ∧ P = .none ∧ Q = .none) ∨ ∃ p q, T = .tuple [p, q, Q] ∧ P = .tuple [p, q]) (sP : sameOk 8 (.tuple [P, P]) = true) (sQ : sameOk 8 (.tuple [Q, Q]) = true) :
    D__law_right [.ob k] m = .ok (.bool true) m1 := by
  obtain ⟨z, hz⟩ := rep_same true
  have l0 : 0 ≤ lineN := by decide
  have l2 : 2 ≤ lineN := by decide
  have nz := ne_str z
  have e1 := ne_nilL []
  have e2 := eq_nilL []
  have mm : mAt m1.length (m1 ++ [some ([] : List D)]) = some [] := by simp
  have s0 : D__law_same 8 [.v (.tuple [.none, .none]), .v (.tuple [.none, .none])] (m1 ++ [none]) = .ok (.bool true) (m1 ++ [none]) := same_refl 8 _ _ (by decide)
  have s1 := same_refl 8 _ (m1 ++ [none]) sP
  have s2 := same_refl 8 _ (m1 ++ [none]) sQ
  have tk : (m1 ++ [none]).take m.length = m1 := by rw [← hl]; simp
  have nb : dNe (.bool true) (.bool true) = some (.bool false) := by rw [dNe_of (by simp [shal, PyData.depth])]; simp
  simp only [bBody] at hfor
  rcases hc with ⟨rfl, rfl, rfl⟩ | ⟨p, q, rfl, rfl⟩
  · have hN : dIsNot .none .none = some (.bool false) := rfl
    simp [D__law_right, G__law_right, hs, ht, hd, l0, l2, hz, nz, dl, dt, hx, hfor, sFrz, mm, e1, e2, nb, hbar, hp, hr, s0, tk, xO, hN]
  · have hN : dIsNot (.tuple [p, q, Q]) .none = some (.bool true) := rfl
    have hS : dSl (.tuple [p, q, Q]) none (some 2) = some (.tuple [p, q]) := rfl
    simp [D__law_right, G__law_right, hs, ht, hd, l0, l2, hz, nz, dl, dt, hx, hfor, sFrz, mm, e1, e2, nb, hbar, hp, hr, s0, s1, s2, tk, xO, hN, hS]
theorem m_rightB (hl : m1.length = m.length) (hs : D__law_sterns [.ob k] m = .ok C m1) (ht : D__law_stern_told [.v C] m1 = .ok (.tuple [.bool false, T]) m1) (hd : D_do_fit [.v C] m1 = .ok (.bool false) m1)
    (dl : dLen [C] = some (.int N)) (dt : dTupR (.int N) = some R) (hx : ∀ m, D__law_sets [.v R] m = .ok (.list xs) m) {b0 : List D}
    (hfor : forF (gV 5) bBody xs [.ob k, .v C, .v (.bool false), .v T, .ow m1.length, .un, .un, .un, .un, .un, .un] (m1 ++ [some []]) = .next [.ob k, .v C, .v (.bool false), .v T, .ow m1.length, u', .un, .un, .un, .un, .un] (m1 ++ [some (.tuple b0 :: bad)]))
    (hb : b0.length ≤ 3) (sb : sameOk 8 (.tuple [.tuple b0, .tuple b0]) = true)
    (hbar : ∀ m, D_stern_bar [.v C] m = .ok (.tuple b0) m) (hp : ∀ m, D_told_place [.v C] m = .exc ⟨"NoFit", none⟩ m) (hr : ∀ m, D_told_reach [.v C] m = .exc ⟨"NoFit", none⟩ m) :
    D__law_right [.ob k] m = .ok (.bool true) m1 := by
  obtain ⟨z, hz⟩ := rep_same false
  have l0 : 0 ≤ lineN := by decide
  have l1 : 1 ≤ lineN := by decide
  have l2 : 2 ≤ lineN := by decide
  have nz := ne_str z
  have e1 := ne_nilL (.tuple b0 :: bad)
  have e2 := eq_nilL (.tuple b0 :: bad)
  simp only [List.isEmpty_cons, Bool.not_false] at e1 e2
  have mm : mAt m1.length (m1 ++ [some (.tuple b0 :: bad)]) = some (.tuple b0 :: bad) := by simp
  have s1 := same_refl 8 _ (m1 ++ [none]) sb
  have nb : dNe (.bool false) (.bool false) = some (.bool false) := by rw [dNe_of (by simp [shal, PyData.depth])]; simp
  have b3 : ¬ (3 : Int) < (b0.length : Int) := by omega
  have i0 : dIx (.list (.tuple b0 :: bad)) (.int 0) = some (.tuple b0) := by simp
  simp only [bBody] at hfor
  have n1 : ∀ m, D__law_is_none (lamD 1 [.v C] (eCall D_told_place (xCons (xV (eV 0)) xNil))) [] m = .ok (.bool true) m := fun m => m_isNone (by simp [lamD, hp])
  have n2 : ∀ m, D__law_is_none (lamD 1 [.v C] (eCall D_told_reach (xCons (xV (eV 0)) xNil))) [] m = .ok (.bool true) m := fun m => m_isNone (by simp [lamD, hr])
  have mA : mAt (m1.length + 1) (m1 ++ [none, some [.bool true]]) = some [.bool true] := by simp [mAt]
  have mB : mAt (m1.length + 1) (m1 ++ [none, some [.bool true, .bool true]]) = some [.bool true, .bool true] := by simp [mAt]
  have st : (m1 ++ [none, some [PyData.bool true]]).set (m1.length + 1) (some [.bool true, .bool true]) = m1 ++ [none, some [.bool true, .bool true]] := by
    rw [List.set_append_right _ _ (by omega)]; simp
  have sl : slotD (.ob (m1.length + 1)) (m1 ++ [none, some [.bool true, .bool true]]) = some (.list [.bool true, .bool true]) := slotD_ob mB
  have tk : (m1 ++ [none, some [PyData.bool true, .bool true]]).take m.length = m1 := by rw [← hl]; simp
  have eqq : dEq (.list [.bool true, .bool true]) (.list [.bool true, .bool true]) = some (.bool true) := by rw [dEq_of (by simp [shal, PyData.depth, PyData.depthAll])]; simp
  have ll : 1 < lineN := by decide
  simp [D__law_right, G__law_right, hs, ht, hd, l0, l1, l2, hz, nz, dl, dt, hx, hfor, sFrz, mm, e1, e2, nb, hbar, b3, i0, s1, xO, n1, n2, capOf, sApp, objAt, mA, appD, st, sl, tk, eqq, ll]
end
end K82

set_option maxRecDepth 100000
set_option maxHeartbeats 4000000
namespace K82
open PySem DS
theorem same_fr (p : Rat) (n : Nat) : sameOk (n + 2) (fr p) = true := by simp [fr, sameOk]
theorem m_right {n k : Nat} {m : Ms} (g : Good n m) (hk : k < m.length) (hn : n ≤ 1400) : ∃ m', D__law_right [.ob k] m = .ok (.bool true) m' ∧ Good (n + 20) m' ∧ m'.length = m.length := by
  obtain ⟨s, l, m1, hs, ok, hl, g1, hlen⟩ := m_sterns g hk (by omega)
  refine ⟨m1, ?_, g1, hlen⟩
  have hn4 := n_mem hl
  have ht := m_told (.inl rfl) ok (by omega) m1
  have hd := m_doFit ok (by omega) m1
  rw [fits_told ok] at hd
  have hfor := m_badFor ok hn4 rfl (.tuple ((s :: l).map sd)) rfl (.ob k) (.v (.bool (toldB s (s :: l)))) (.v (toldD s (s :: l))) m1 (order (l.length + 1)) [] .un (fun k h => h) (by
    have := (by decide +kernel : ∀ n ∈ [1, 2, 3, 4], (order n).length ≤ 16)
    have := this _ hn4
    simp; omega)
  obtain ⟨u', hfor⟩ := hfor
  have hbar := m_bar ok hl
  have dl : dLen [.tuple ((s :: l).map sd)] = some (.int ((l.length + 1 : Nat) : Int)) := by simp
  have hp := fun m => m_toldPlace ok (by omega : l.length ≤ 8) m
  have hr := fun m => m_toldReach ok (by omega : l.length ≤ 8) m
  rw [fits_told ok] at hp hr
  rcases bad_cases ok hl with ⟨b1, b2, b3⟩ | ⟨i, ks, b1, b2, b3, b4⟩
  · have tc := told_cases b1 ok
    rw [b1] at hd hp hr hfor ht
    rw [b2] at hfor
    rw [b3] at hbar
    refine m_rightA hlen hs ht hd dl (bar_tup (by omega)) (fun m => m_lsets hn4 m) hfor hbar (fun m => (hp m).trans (if_pos rfl)) (fun m => (hr m).trans (if_pos rfl)) ?_ ?_ ?_
    · rcases tc with ⟨h1, h2, h3⟩ | ⟨p, q, r, h1, h2, h3⟩
      · exact .inl ⟨h1, h2, h3⟩
      · exact .inr ⟨fr p, fr q, by rw [h1, h3], h2⟩
    · rcases tc with ⟨h1, h2, h3⟩ | ⟨p, q, r, h1, h2, h3⟩
      · rw [h2]; rfl
      · rw [h2]; rfl
    · rcases tc with ⟨h1, h2, h3⟩ | ⟨p, q, r, h1, h2, h3⟩
      · rw [h3]; rfl
      · rw [h3]; rfl
  · rw [b1] at hd hp hr hfor ht
    rw [b2] at hfor
    rw [b3] at hbar
    refine m_rightB (b0 := (sub i).map fun k : Nat => PyData.int (k : Int)) hlen hs ht hd dl (bar_tup (by omega)) (fun m => m_lsets hn4 m) hfor (by simpa using b4) ?_ hbar (fun m => (hp m).trans (if_neg (by simp))) (fun m => (hr m).trans (if_neg (by simp)))
    simp [sameOk]; omega
theorem plain (ns : List Int) (hn : ns.length ≤ 63) (_ : ∀ z ∈ ns, PySem.Builtin.Int.intBits z ≤ 1048576) : ∃ m, D_law [.v (.list (ns.map .int))] [] = .ok (.bool true) m := by
  obtain ⟨a, b, h1, h2, h3⟩ := m_well ns hn 0 (by omega) []
  obtain ⟨a', b', h1', h2', h3'⟩ := m_well ns hn 1 (by omega) [some [.int a, .int b, .int 0]]
  have g0 : Good 0 [some [.int a, .int b, .int 0], some [.int a', .int b', .int 0]] := by
    intro e he
    simp only [List.mem_cons, List.not_mem_nil, or_false] at he
    rcases he with rfl | rfl
    · exact ⟨_, rfl, _, _, _, rfl, h2, h3, by omega, by omega⟩
    · exact ⟨_, rfl, _, _, _, rfl, h2', h3', by omega, by omega⟩
  have mrow : ∀ (R : D) (i : Nat) (m : Ms), i ≤ 60 → Good (20 * i) m ∧ m.length = 2 → ∀ c : Int, ∃ ρ' m', gV 3 (.int c) [.v R, .os [0, 1], .un, .un] = some ρ' ∧ eCall D__law_right (xCons (xOs 1 (eBin dMod (eBi dInt (aCons (eV 3) aNil)) (eC (.int 2)))) xNil) ρ' m = .ok (.bool true) m' ∧ Good (20 * (i + 1)) m' ∧ m'.length = 2 := by
    intro R i m hi ⟨g, hm⟩ c
    have hc := fm (i := c) (p := 2) (by decide)
    have hq : c.fmod 2 = 0 ∨ c.fmod 2 = 1 := by omega
    rcases hq with hq | hq
    · obtain ⟨m', e, g', l⟩ := m_right g (k := 0) (by omega) (by omega)
      refine ⟨[.v R, .os [0, 1], .un, .v (.int c)], m', by simp, ?_, g'.mono (by omega), by omega⟩
      have x0 : L2.ixN 2 0 = some 0 := rfl
      simp [xOs, dMod_int, hq, x0, e]
    · obtain ⟨m', e, g', l⟩ := m_right g (k := 1) (by omega) (by omega)
      refine ⟨[.v R, .os [0, 1], .un, .v (.int c)], m', by simp, ?_, g'.mono (by omega), by omega⟩
      have x1 : L2.ixN 2 1 = some 1 := rfl
      simp [xOs, dMod_int, hq, x1, e]
  have run : ∀ (R : D) (cs : List Int) (i : Nat) (m : Ms), i + cs.length ≤ 60 → Good (20 * i) m ∧ m.length = 2 → ∃ m', lcF (gV 3) tTrue (eCall D__law_right (xCons (xOs 1 (eBin dMod (eBi dInt (aCons (eV 3) aNil)) (eC (.int 2)))) xNil)) (cs.map .int) [.v R, .os [0, 1], .un, .un] m = .ok (cs.map fun _ => .bool true) m' := by
    intro R cs
    induction cs with
    | nil => intro i m _ _; exact ⟨m, rfl⟩
    | cons c cs ih =>
      intro i m hi hg
      simp only [List.length_cons] at hi
      obtain ⟨ρ', m1, q1, q2, q3⟩ := mrow R i m (by omega) hg c
      obtain ⟨m2, q4⟩ := ih (i + 1) m1 (by omega) q3
      refine ⟨m2, ?_⟩
      simp only [List.map_cons, lcF, q1, tTrue, Res.noX_ok, Res.bind_ok, q2, q4, if_true]
  obtain ⟨m', e⟩ := run (.list (ns.map .int)) ((List.range 16).map fun i : Nat => (i : Int)) 0 [some [.int a, .int b, .int 0], some [.int a', .int b', .int 0]] (by simp) ⟨by simpa using g0, rfl⟩
  have r2 : dRng1 (.int 2) = some [.int 0, .int 1] := rfl
  have r16 : dRng1 (.int 16) = some (((List.range 16).map fun i : Nat => (i : Int)).map .int) := rfl
  have da : dAll [.list (((List.range 16).map fun i : Nat => (i : Int)).map fun _ => .bool true)] = some (.bool true) := rfl
  have hl : (((List.range 16).map fun i : Nat => (i : Int)).map PyData.int).length ≤ lineN := by decide
  have w0 : lcNF (gV 2) (nCall D__law_well (xCons (xV (eV 0)) (xCons (xV (eV 2)) xNil))) [.int 0, .int 1] [.v (.list (ns.map .int)), .un, .un, .un] [] = .ok [0, 1] [some [.int a, .int b, .int 0], some [.int a', .int b', .int 0]] := by
    have z0 : ((0 : Nat) : Int) = 0 := rfl
    have z1 : ((1 : Nat) : Int) = 1 := rfl
    rw [z0] at h1
    rw [z1] at h1'
    generalize PyData.list (ns.map PyData.int) = R at h1 h1'
    rw [lcNF_cons (ρ' := [.v R, .un, .v (.int 0), .un]) (m1 := []) (xs := [.int a, .int b, .int 0]) (by simp) (by simp [nCall, h1])]
    rw [lcNF_cons (ρ' := [.v R, .un, .v (.int 1), .un]) (m1 := [some [.int a, .int b, .int 0]]) (xs := [.int a', .int b', .int 0]) (by simp) (by simp [nCall, h1'])]
    rfl
  generalize PyData.list (ns.map PyData.int) = R at e w0
  generalize (((List.range 16).map fun i : Nat => (i : Int)).map PyData.int) = Z at r16 e hl
  generalize (((List.range 16).map fun i : Nat => (i : Int)).map fun _ => PyData.bool true) = Y at e da
  have l2 : 2 ≤ lineN := by decide
  refine ⟨m'.take 0, ?_⟩
  simp [D_law, G_law, r2, r16, l2, wipeS, w0, e, hl, da]
end K82

open PySem PySem.W PyProof.Rows
set_option maxRecDepth 100000 in
set_option maxHeartbeats 0 in
theorem PySem.Challenge.cw_swingrooms_k82_whole_sterns_holds : PySem.Challenge.rw_swingrooms_k82_whole_sterns.Holds := by
  w_on; o_law; k_head; (case hw => w_witness2)
  k_fill
  refine DS.walk_ofG (l := PySem.Challenge.rw_swingrooms_k82_whole_sterns) (n := 63) (k := 22) (x := "script") rfl (by decide) rfl ⟨rfl, by decide, by decide⟩ (fun w h Y => km_in_of Y) ?F
  case F =>
    intro w mg h Y XX KX G
    refine' K82.asm KX G K82.plain ?a_is_whole ?l_is_whole ?c_is_whole ?k_is_whole ?a_lowest ?l_lowest ?c_lowest ?k_lowest ?a_sum_of_two ?l_sum_of_two ?c_sum_of_two ?k_sum_of_two ?a_difference ?l_difference ?c_difference ?k_difference ?a_product_of_two ?l_product_of_two ?c_product_of_two ?k_product_of_two ?a_quotient ?l_quotient ?c_quotient ?k_quotient ?a_is_tuple_of ?l_is_tuple_of ?c_is_tuple_of ?k_is_tuple_of ?a_is_fraction ?l_is_fraction ?c_is_fraction ?k_is_fraction ?a_wrong_at ?l_wrong_at ?c_wrong_at ?k_wrong_at ?a_wrong_from_one ?l_wrong_from_one ?c_wrong_from_one ?k_wrong_from_one ?a_sets_of ?l_sets_of ?c_sets_of ?k_sets_of ?a_are_of_one_wind ?l_are_of_one_wind ?c_are_of_one_wind ?k_are_of_one_wind ?a_parts_of ?l_parts_of ?c_parts_of ?k_parts_of ?a_reach_by ?l_reach_by ?c_reach_by ?k_reach_by ?a_place_by ?l_place_by ?c_place_by ?k_place_by ?a_does_fit ?l_does_fit ?c_does_fit ?k_does_fit ?a_reach_for ?l_reach_for ?c_reach_for ?k_reach_for ?a_fits_of ?l_fits_of ?c_fits_of ?k_fits_of ?a_dot ?l_dot ?c_dot ?k_dot ?a_square_of ?l_square_of ?c_square_of ?k_square_of ?a_is_wind_form ?l_is_wind_form ?c_is_wind_form ?k_is_wind_form ?a_is_stern ?l_is_stern ?c_is_stern ?k_is_stern ?a_check_sterns ?l_check_sterns ?c_check_sterns ?k_check_sterns ?a_check_fit ?l_check_fit ?c_check_fit ?k_check_fit ?a_do_fit ?l_do_fit ?c_do_fit ?k_do_fit ?a_told_place ?l_told_place ?c_told_place ?k_told_place ?a_told_reach ?l_told_reach ?c_told_reach ?k_told_reach ?a_stern_bar ?l_stern_bar ?c_stern_bar ?k_stern_bar ?a__law_well ?l__law_well ?c__law_well ?k__law_well ?a__law_draw ?l__law_draw ?c__law_draw ?k__law_draw ?a__law_of ?l__law_of ?c__law_of ?k__law_of ?a__law_same ?l__law_same ?c__law_same ?k__law_same ?a__law_sets ?l__law_sets ?c__law_sets ?k__law_sets ?a__law_lowest ?l__law_lowest ?c__law_lowest ?k__law_lowest ?a__law_plus ?l__law_plus ?c__law_plus ?k__law_plus ?a__law_minus ?l__law_minus ?c__law_minus ?k__law_minus ?a__law_wind ?l__law_wind ?c__law_wind ?k__law_wind ?a__law_sterns ?l__law_sterns ?c__law_sterns ?k__law_sterns ?a__law_stern_fits ?l__law_stern_fits ?c__law_stern_fits ?k__law_stern_fits ?a__law_stern_told ?l__law_stern_told ?c__law_stern_told ?k__law_stern_told ?a__law_is_none ?l__law_is_none ?c__law_is_none ?k__law_is_none ?a__law_right ?l__law_right ?c__law_right ?k__law_right ?a_law ?l_law ?c_law ?k_law ?t_sets_of ?e_sets_of ?n_sets_of ?t_check_sterns ?e_check_sterns ?n_check_sterns ?t__law_right ?e__law_right ?n__law_right ?htb ?hnd ?z_ValueError ?z_abs ?z_all ?z_bool ?z_divmod ?z_enumerate ?z_gcd ?z_int ?z_isinstance ?z_len ?z_range ?z_repr ?z_sorted ?z_tuple ?y_MOST_IN_BAR (let ⟨v, a, b⟩ := XX.2.val ("MOST_SCALE", WData.int 1000000000000) (by simp); by cases b; exact ⟨_, a⟩) ?y_MOST_STERNS ?y_WHOLE ?v_WHOLE ?ra_NoFit ?rx_NoFit ?rk_NoFit ?rs_NoFit ?rt_NoFit ?xb_NoFit ?x1_NoFit ?x2_NoFit ?x4_NoFit ?x5_NoFit ?x6_NoFit ?x7_NoFit ?x8_NoFit ?x9_NoFit ?xa_NoFit ?xc_NoFit
    (case htb => exact km_tabs_of Y)
    (case a_is_whole => k_is)
    (case l_is_whole => k_is)
    (case c_is_whole => k_is)
    (case k_is_whole => k_is)
    (case a_lowest => k_is)
    (case l_lowest => k_is)
    (case c_lowest => k_is)
    (case k_lowest => k_is)
    (case a_sum_of_two => k_is)
    (case l_sum_of_two => k_is)
    (case c_sum_of_two => k_is)
    (case k_sum_of_two => k_is)
    (case a_difference => k_is)
    (case l_difference => k_is)
    (case c_difference => k_is)
    (case k_difference => k_is)
    (case a_product_of_two => k_is)
    (case l_product_of_two => k_is)
    (case c_product_of_two => k_is)
    (case k_product_of_two => k_is)
    (case a_quotient => k_is)
    (case l_quotient => k_is)
    (case c_quotient => k_is)
    (case k_quotient => k_is)
    (case a_is_tuple_of => k_is)
    (case l_is_tuple_of => k_is)
    (case c_is_tuple_of => k_is)
    (case k_is_tuple_of => k_is)
    (case a_is_fraction => k_is)
    (case l_is_fraction => k_is)
    (case c_is_fraction => k_is)
    (case k_is_fraction => k_is)
    (case a_wrong_at => k_is)
    (case l_wrong_at => k_is)
    (case c_wrong_at => k_is)
    (case k_wrong_at => k_is)
    (case a_wrong_from_one => k_is)
    (case l_wrong_from_one => k_is)
    (case c_wrong_from_one => k_is)
    (case k_wrong_from_one => k_is)
    (case a_sets_of => k_is)
    (case l_sets_of => k_is)
    (case c_sets_of => k_is)
    (case k_sets_of => k_is)
    (case a_are_of_one_wind => k_is)
    (case l_are_of_one_wind => k_is)
    (case c_are_of_one_wind => k_is)
    (case k_are_of_one_wind => k_is)
    (case a_parts_of => k_is)
    (case l_parts_of => k_is)
    (case c_parts_of => k_is)
    (case k_parts_of => k_is)
    (case a_reach_by => k_is)
    (case l_reach_by => k_is)
    (case c_reach_by => k_is)
    (case k_reach_by => k_is)
    (case a_place_by => k_is)
    (case l_place_by => k_is)
    (case c_place_by => k_is)
    (case k_place_by => k_is)
    (case a_does_fit => k_is)
    (case l_does_fit => k_is)
    (case c_does_fit => k_is)
    (case k_does_fit => k_is)
    (case a_reach_for => k_is)
    (case l_reach_for => k_is)
    (case c_reach_for => k_is)
    (case k_reach_for => k_is)
    (case a_fits_of => k_is)
    (case l_fits_of => k_is)
    (case c_fits_of => k_is)
    (case k_fits_of => k_is)
    (case a_dot => k_is)
    (case l_dot => k_is)
    (case c_dot => k_is)
    (case k_dot => k_is)
    (case a_square_of => k_is)
    (case l_square_of => k_is)
    (case c_square_of => k_is)
    (case k_square_of => k_is)
    (case a_is_wind_form => k_is)
    (case l_is_wind_form => k_is)
    (case c_is_wind_form => k_is)
    (case k_is_wind_form => k_is)
    (case a_is_stern => k_is)
    (case l_is_stern => k_is)
    (case c_is_stern => k_is)
    (case k_is_stern => k_is)
    (case a_check_sterns => k_is)
    (case l_check_sterns => k_is)
    (case c_check_sterns => k_is)
    (case k_check_sterns => k_is)
    (case a_check_fit => k_is)
    (case l_check_fit => k_is)
    (case c_check_fit => k_is)
    (case k_check_fit => k_is)
    (case a_do_fit => k_is)
    (case l_do_fit => k_is)
    (case c_do_fit => k_is)
    (case k_do_fit => k_is)
    (case a_told_place => k_is)
    (case l_told_place => k_is)
    (case c_told_place => k_is)
    (case k_told_place => k_is)
    (case a_told_reach => k_is)
    (case l_told_reach => k_is)
    (case c_told_reach => k_is)
    (case k_told_reach => k_is)
    (case a_stern_bar => k_is)
    (case l_stern_bar => k_is)
    (case c_stern_bar => k_is)
    (case k_stern_bar => k_is)
    (case a__law_well => k_is)
    (case l__law_well => k_is)
    (case c__law_well => k_is)
    (case k__law_well => k_is)
    (case a__law_draw => k_is)
    (case l__law_draw => k_is)
    (case c__law_draw => k_is)
    (case k__law_draw => k_is)
    (case a__law_of => k_is)
    (case l__law_of => k_is)
    (case c__law_of => k_is)
    (case k__law_of => k_is)
    (case a__law_same => k_is)
    (case l__law_same => k_is)
    (case c__law_same => k_is)
    (case k__law_same => k_is)
    (case a__law_sets => k_is)
    (case l__law_sets => k_is)
    (case c__law_sets => k_is)
    (case k__law_sets => k_is)
    (case a__law_lowest => k_is)
    (case l__law_lowest => k_is)
    (case c__law_lowest => k_is)
    (case k__law_lowest => k_is)
    (case a__law_plus => k_is)
    (case l__law_plus => k_is)
    (case c__law_plus => k_is)
    (case k__law_plus => k_is)
    (case a__law_minus => k_is)
    (case l__law_minus => k_is)
    (case c__law_minus => k_is)
    (case k__law_minus => k_is)
    (case a__law_wind => k_is)
    (case l__law_wind => k_is)
    (case c__law_wind => k_is)
    (case k__law_wind => k_is)
    (case a__law_sterns => k_is)
    (case l__law_sterns => k_is)
    (case c__law_sterns => k_is)
    (case k__law_sterns => k_is)
    (case a__law_stern_fits => k_is)
    (case l__law_stern_fits => k_is)
    (case c__law_stern_fits => k_is)
    (case k__law_stern_fits => k_is)
    (case a__law_stern_told => k_is)
    (case l__law_stern_told => k_is)
    (case c__law_stern_told => k_is)
    (case k__law_stern_told => k_is)
    (case a__law_is_none => k_is)
    (case l__law_is_none => k_is)
    (case c__law_is_none => k_is)
    (case k__law_is_none => k_is)
    (case a__law_right => k_is)
    (case l__law_right => k_is)
    (case c__law_right => k_is)
    (case k__law_right => k_is)
    (case a_law => k_is)
    (case l_law => k_is)
    (case c_law => k_is)
    (case k_law => k_is)
    (case e_sets_of => rfl)
    (case t_sets_of => kernel_rfl)
    (case n_sets_of => kernel_rfl)
    (case e_check_sterns => rfl)
    (case t_check_sterns => kernel_rfl)
    (case n_check_sterns => kernel_rfl)
    (case e__law_right => rfl)
    (case t__law_right => kernel_rfl)
    (case n__law_right => kernel_rfl)
    (case z_ValueError => k_is)
    (case z_abs => k_is)
    (case z_all => k_is)
    (case z_bool => k_is)
    (case z_divmod => k_is)
    (case z_enumerate => k_is)
    (case z_gcd => k_is)
    (case z_int => k_is)
    (case z_isinstance => k_is)
    (case z_len => k_is)
    (case z_range => k_is)
    (case z_repr => k_is)
    (case z_sorted => k_is)
    (case z_tuple => k_is)
    (case y_MOST_IN_BAR => k_is)
    (case y_MOST_STERNS => k_is)
    (case y_WHOLE => k_is)
    (case v_WHOLE => k_is)
    (case ra_NoFit => k_is)
    (case rx_NoFit => kernel_rfl)
    (case rk_NoFit => k_is)
    (case rs_NoFit => k_is)
    (case rt_NoFit => k_is)
    (case xb_NoFit => k_is)
    (case x1_NoFit => k_is)
    (case x2_NoFit => k_is)
    (case x4_NoFit => k_is)
    (case x5_NoFit => k_is)
    (case x6_NoFit => k_is)
    (case x7_NoFit => k_is)
    (case x8_NoFit => k_is)
    (case x9_NoFit => kernel_rfl)
    (case xa_NoFit => kernel_rfl)
    (case xc_NoFit => kernel_rfl)
    (case hnd => decide)
