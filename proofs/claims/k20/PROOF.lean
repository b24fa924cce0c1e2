import PyProof.Rows.All
import Wide.All
import OpenK.AllK
import Wide.FinOn
import HandS.ForMost
import HandS.ForExc
import HandS.Wide
import HandS.TupAny
import HandS.Conv
import HandS.ExcOwn
import HandS.WordsExc
import HandS.IsInst
import HandS.TupMul
import HandS.HeadEnd
import HandS.HeadHook1
import HandS.HeadHook2
import HandS.HeadNt
import HandS.Defaults
import PySem.Challenge.RW_speciesmill_k20_pairs_rows_sets_rings
import HandS.Head0
import HandS.Head1
import HandS.Head2
import KE.KStateDown
set_option Elab.async false
set_option linter.all false
set_option maxRecDepth 100000
set_option autoImplicit false
/-! DA: plain data over the hand layer: results, data, what a value denotes, frozen and owned objects. -/
namespace L2.DL
open PySem PySem.Spec PyProof.Rows

/-! ### results -/
inductive R (α : Type) where
  | ok (a : α) | err (c : Nat) | bad
namespace R
def bind {α β : Type} (x : R α) (f : α → R β) : R β := match x with
  | .ok a => f a
  | .err c => .err c
  | .bad => .bad
@[simp] theorem bind_ok {α β : Type} (a : α) (f : α → R β) : (R.ok a).bind f = f a := rfl
@[simp] theorem bind_err {α β : Type} (c : Nat) (f : α → R β) : (R.err c : R α).bind f = .err c := rfl
@[simp] theorem bind_bad {α β : Type} (f : α → R β) : (R.bad : R α).bind f = .bad := rfl
end R

/-! ### data -/
inductive D where
  | non | bl (b : Bool) | int (i : Int) | str (x : Str)
  | tup (l : List D) | lst (l : List D) | scr (l : List D) | dct (l : List (Key × D))

section
variable (K : PySem.W.Frag)
mutual
inductive Den (X : Hp) : D → V → Prop
  | non : Den X .non .non
  | bl (b) : Den X (.bl b) (.bl b)
  | int (i) : Den X (.int i) (.int i)
  | str (x) : Den X (.str x) (.str x)
  | tup {a vs ds} : SqT K X a vs → DenL X ds vs → Den X (.tup ds) (.ref a)
  | lst {a vs ds} : X a = some (.lst vs) → DenL X ds vs → Den X (.lst ds) (.ref a)
  | scr {a vs ds} : SqL K X a vs → DenL X ds vs → Den X (.scr ds) (.ref a)
  | dct {a kvs ks} : Rd X a (.dK kvs) → DenK X ks kvs → Den X (.dct ks) (.ref a)
inductive DenL (X : Hp) : List D → List V → Prop
  | nil : DenL X [] []
  | cons {d v ds vs} : Den X d v → DenL X ds vs → DenL X (d :: ds) (v :: vs)
inductive DenK (X : Hp) : List (Key × D) → List (Key × V) → Prop
  | nil : DenK X [] []
  | cons {k d v ks vs} : Den X d v → DenK X ks vs → DenK X ((k, d) :: ks) ((k, v) :: vs)
end
end

abbrev Ext (X Y : Hp) : Prop := ∀ a o, X a = some o → Y a = some o
theorem Ext.refl (X : Hp) : Ext X X := fun _ _ h => h
theorem Ext.trans {X Y Z : Hp} (a : Ext X Y) (b : Ext Y Z) : Ext X Z := fun c o h => b c o (a c o h)
section
variable {K : PySem.W.Frag} {X Y : Hp}
theorem sqT_ext (e : Ext X Y) {a : Addr} {xs : List V} (h : SqT K X a xs) : SqT K Y a xs := by
  rcases h with (h | ⟨o, h⟩) | h
  · exact .inl (.inl (e _ _ h))
  · exact .inl (.inr ⟨o, e _ _ h⟩)
  · exact .inr h
theorem sqL_ext (e : Ext X Y) {a : Addr} {xs : List V} (h : SqL K X a xs) : SqL K Y a xs := by
  rcases h with (h | ⟨o, h⟩) | h
  · exact .inl (.inl (e _ _ h))
  · exact .inl (.inr ⟨o, e _ _ h⟩)
  · exact .inr h
theorem rd_ext (e : Ext X Y) {a : Addr} {o : HO} (h : Rd X a o) : Rd Y a o := by
  rcases h with h | ⟨o, h⟩
  · exact .inl (e _ _ h)
  · exact .inr ⟨o, e _ _ h⟩
mutual
theorem Den.ext (e : Ext X Y) : ∀ {d : D} {v : V}, Den K X d v → Den K Y d v
  | _, _, .non => .non
  | _, _, .bl b => .bl b
  | _, _, .int i => .int i
  | _, _, .str x => .str x
  | _, _, .tup h r => .tup (sqT_ext e h) (DenL.ext e r)
  | _, _, .lst h r => .lst (e _ _ h) (DenL.ext e r)
  | _, _, .scr h r => .scr (sqL_ext e h) (DenL.ext e r)
  | _, _, .dct h r => .dct (rd_ext e h) (DenK.ext e r)
theorem DenL.ext (e : Ext X Y) : ∀ {d : List D} {v : List V}, DenL K X d v → DenL K Y d v
  | _, _, .nil => .nil
  | _, _, .cons h r => .cons (Den.ext e h) (DenL.ext e r)
theorem DenK.ext (e : Ext X Y) : ∀ {d : List (Key × D)} {v : List (Key × V)}, DenK K X d v → DenK K Y d v
  | _, _, .nil => .nil
  | _, _, .cons h r => .cons (Den.ext e h) (DenK.ext e r)
end
theorem DenL.length : ∀ {d : List D} {v : List V}, DenL K X d v → v.length = d.length
  | _, _, .nil => rfl
  | _, _, .cons _ r => by simp [DenL.length r]
theorem DenL.append : ∀ {d e : List D} {v u : List V}, DenL K X d v → DenL K X e u → DenL K X (d ++ e) (v ++ u)
  | _, _, _, _, .nil, s => s
  | _, _, _, _, .cons h r, s => .cons h (DenL.append r s)
theorem DenL.get : ∀ {d : List D} {v : List V} {i : Nat} {x : D}, DenL K X d v → d[i]? = some x → ∃ u, v[i]? = some u ∧ Den K X x u
  | _, _, _, _, .nil, h => by simp at h
  | _, _, 0, _, .cons h r, e => by
    simp at e
    subst e
    exact ⟨_, rfl, h⟩
  | _, _, i + 1, _, .cons h r, e => by
    obtain ⟨u, h1, h2⟩ := DenL.get (i := i) r (by simpa using e)
    exact ⟨u, by simpa using h1, h2⟩
theorem DenL.set : ∀ {d : List D} {v : List V} (i : Nat) {x : D} {u : V}, DenL K X d v → Den K X x u → DenL K X (d.set i x) (v.set i u)
  | _, _, _, _, _, .nil, _ => .nil
  | _, _, 0, _, _, .cons h r, q => .cons q r
  | _, _, i + 1, _, _, .cons h r, q => .cons h (DenL.set i r q)
theorem DenL.take : ∀ {d : List D} {v : List V} (n : Nat), DenL K X d v → DenL K X (d.take n) (v.take n)
  | _, _, 0, _ => .nil
  | _, _, _ + 1, .nil => .nil
  | _, _, n + 1, .cons h r => .cons h (DenL.take n r)
theorem DenL.drop : ∀ {d : List D} {v : List V} (n : Nat), DenL K X d v → DenL K X (d.drop n) (v.drop n)
  | _, _, 0, h => h
  | _, _, _ + 1, .nil => .nil
  | _, _, n + 1, .cons _ r => DenL.drop n r
theorem DenL.flat {d : List D} {v : List V} (h : DenL K X d v) : ∀ k : Nat, DenL K X (List.replicate k d).flatten (List.replicate k v).flatten
  | 0 => .nil
  | k + 1 => by
    simp only [List.replicate_succ, List.flatten_cons]
    exact h.append (h.flat k)
theorem DenL.reverse : ∀ {d : List D} {v : List V}, DenL K X d v → DenL K X d.reverse v.reverse
  | _, _, .nil => .nil
  | _, _, .cons h r => by
    simp only [List.reverse_cons]
    exact (DenL.reverse r).append (.cons h .nil)
theorem DenL.ints : ∀ {ns : List Int} {vs : List V}, DenL K X (ns.map .int) vs → vs = ns.map V.int
  | [], _, .nil => rfl
  | n :: ns, _, .cons (.int _) r => by
    rw [DenL.ints r]
    rfl
theorem DenL.bls : ∀ {ns : List Bool} {vs : List V}, DenL K X (ns.map .bl) vs → vs = ns.map V.bl
  | [], _, .nil => rfl
  | n :: ns, _, .cons (.bl _) r => by
    rw [DenL.bls r]
    rfl
theorem denL_ints : ∀ (ns : List Int), DenL K X (ns.map .int) (ns.map V.int)
  | [] => .nil
  | n :: ns => .cons (.int n) (denL_ints ns)
theorem Den.tup' {ds : List D} {v : V} (h : Den K X (.tup ds) v) : ∃ a vs, v = .ref a ∧ SqT K X a vs ∧ DenL K X ds vs := by
  cases h with
  | tup h r => exact ⟨_, _, rfl, h, r⟩
theorem Den.lst' {ds : List D} {v : V} (h : Den K X (.lst ds) v) : ∃ a vs, v = .ref a ∧ X a = some (.lst vs) ∧ DenL K X ds vs := by
  cases h with
  | lst h r => exact ⟨_, _, rfl, h, r⟩
theorem Den.scr' {ds : List D} {v : V} (h : Den K X (.scr ds) v) : ∃ a vs, v = .ref a ∧ SqL K X a vs ∧ DenL K X ds vs := by
  cases h with
  | scr h r => exact ⟨_, _, rfl, h, r⟩
theorem Den.dct' {ds : List (Key × D)} {v : V} (h : Den K X (.dct ds) v) : ∃ a vs, v = .ref a ∧ Rd X a (.dK vs) ∧ DenK K X ds vs := by
  cases h with
  | dct h r => exact ⟨_, _, rfl, h, r⟩
end

/-! ### what is frozen: exactly as it is, or by an invariant -/
structure Fz where
  ex : Hp
  iv : Addr → Option (Hp → HO → Prop)
  mono : ∀ a φ, iv a = some φ → ∀ X Y o, Ext X Y → φ X o → φ Y o
structure Sub (F : Fz) (H : Hp) : Prop where
  ex : ∀ a o, F.ex a = some o → H a = some o
  iv : ∀ a φ, F.iv a = some φ → ∃ o, H a = some o ∧ φ F.ex o
structure FLe (F G : Fz) : Prop where
  ex : Ext F.ex G.ex
  iv : ∀ a φ, F.iv a = some φ → G.iv a = some φ
theorem FLe.refl (F : Fz) : FLe F F := ⟨.refl _, fun _ _ h => h⟩
theorem FLe.trans {F G J : Fz} (a : FLe F G) (b : FLe G J) : FLe F J := ⟨.trans a.ex b.ex, fun c φ h => b.iv c φ (a.iv c φ h)⟩
/-- a new or an owned object is frozen -/
def Fz.add (F : Fz) (p : Addr) (o : HO) (hp : F.ex p = none) : Fz where
  ex := upd F.ex p o
  iv := F.iv
  mono := F.mono
theorem ext_upd {X : Hp} {p : Addr} {o : HO} (h : X p = none) : Ext X (upd X p o) := fun b x e => by
  rw [upd_ne (ne_of_none e h)]
  exact e
theorem Fz.le_add {F : Fz} {p : Addr} {o : HO} (hp : F.ex p = none) : FLe F (F.add p o hp) := ⟨ext_upd hp, fun _ _ h => h⟩
theorem Sub.nil_ {F : Fz} {H : Hp} (s : Sub F H) {a : Addr} (h : H a = none) : F.ex a = none ∧ F.iv a = none := by
  constructor
  · cases e : F.ex a with
    | none => rfl
    | some o => rw [s.ex a o e] at h; cases h
  · cases e : F.iv a with
    | none => rfl
    | some o =>
      obtain ⟨u, q, _⟩ := s.iv a o e
      rw [q] at h; cases h
/-- from one point to a later one: what stood stands, but what S says -/
structure Step (S : Addr → Prop) (F : Fz) (H : Hp) (F' : Fz) (H' : Hp) : Prop where
  ex : ∀ a, H a ≠ none → F'.ex a = F.ex a
  iv : ∀ a, H a ≠ none → F'.iv a = F.iv a
  sub : Sub F' H'
  keep : ∀ a o, H a = some o → F.iv a = none → ¬ S a → H' a = some o
  there : ∀ a, H a ≠ none → H' a ≠ none
section
variable {S : Addr → Prop} {F F1 F2 : Fz} {H H1 H2 : Hp}
theorem Step.refl (s : Sub F H) : Step S F H F H := ⟨fun _ _ => rfl, fun _ _ => rfl, s, fun _ _ h _ _ => h, fun _ h => h⟩
theorem Step.trans (a : Step S F H F1 H1) (b : Step S F1 H1 F2 H2) : Step S F H F2 H2 :=
  ⟨fun c h => (b.ex c (a.there c h)).trans (a.ex c h), fun c h => (b.iv c (a.there c h)).trans (a.iv c h), b.sub,
    fun c o h i n => b.keep c o (a.keep c o h i n) (by rw [a.iv c (by rw [h]; exact Option.some_ne_none _)]; exact i) n, fun c h => b.there c (a.there c h)⟩
theorem Step.imp {S' : Addr → Prop} (a : Step S F H F1 H1) (h : ∀ x, S x → S' x) : Step S' F H F1 H1 :=
  ⟨a.ex, a.iv, a.sub, fun c o e i n => a.keep c o e i fun z => n (h c z), a.there⟩
theorem Step.le (s : Sub F H) (a : Step S F H F1 H1) : FLe F F1 := by
  refine ⟨fun b o e => ?_, fun b φ e => ?_⟩
  · rw [a.ex b (by rw [s.ex b o e]; exact Option.some_ne_none _)]
    exact e
  · obtain ⟨o, q, _⟩ := s.iv b φ e
    rw [a.iv b (by rw [q]; exact Option.some_ne_none _)]
    exact e
/-- a new object, not frozen -/
theorem Sub.new (s : Sub F H) {p : Addr} {o : HO} (h : H p = none) : Sub F (upd H p o) := by
  refine ⟨fun a u e => ?_, fun a φ e => ?_⟩
  · exact ext_upd h a u (s.ex a u e)
  · obtain ⟨u, q, z⟩ := s.iv a φ e
    exact ⟨u, ext_upd h a u q, z⟩
theorem Step.new (s : Sub F H) {p : Addr} {o : HO} (h : H p = none) : Step S F H F (upd H p o) :=
  ⟨fun _ _ => rfl, fun _ _ => rfl, s.new h, fun a u e _ _ => ext_upd h a u e, fun a e => by
    cases q : H a with
    | none => exact absurd q e
    | some u => rw [ext_upd h a u q]; exact Option.some_ne_none _⟩
/-- an object that stands in H is frozen: nothing else leans on it -/
theorem Sub.freeze (s : Sub F H) {p : Addr} {o : HO} (h : H p = some o) (hp : F.ex p = none) : Sub (F.add p o hp) H := by
  refine ⟨fun a u e => ?_, fun a φ e => ?_⟩
  · by_cases q : a = p
    · subst q
      have e' : upd F.ex a o a = some u := e
      rw [upd_same] at e'
      cases e'
      exact h
    · have e' : upd F.ex p o a = some u := e
      rw [upd_ne q] at e'
      exact s.ex a u e'
  · obtain ⟨u, q, z⟩ := s.iv a φ e
    exact ⟨u, q, F.mono a φ e _ _ u (ext_upd hp) z⟩
/-- it was not there at the start: from the start it is a step -/
theorem Step.freeze (a : Step S F H F1 H1) {p : Addr} {o : HO} (h0 : H p = none) (h : H1 p = some o) (hp : F1.ex p = none) : Step S F H (F1.add p o hp) H1 :=
  ⟨fun c hc => by
    have n : c ≠ p := fun z => by subst z; exact hc h0
    show upd F1.ex p o c = _
    rw [upd_ne n]
    exact a.ex c hc, a.iv, a.sub.freeze h hp, a.keep, a.there⟩
/-- an object that was not there at the start (or that S holds) is written -/
theorem Step.write (a : Step S F H F1 H1) {p : Addr} {o : HO} (h0 : H p = none ∨ S p) (h1 : H1 p ≠ none) (hx : F1.ex p = none) (hi : F1.iv p = none) : Step S F H F1 (upd H1 p o) := by
  refine ⟨a.ex, a.iv, ⟨fun c u e => ?_, fun c φ e => ?_⟩, fun c u e i n => ?_, fun c e => ?_⟩
  · have n : c ≠ p := fun z => by subst z; rw [hx] at e; cases e
    rw [upd_ne n]
    exact a.sub.ex c u e
  · have n : c ≠ p := fun z => by subst z; rw [hi] at e; cases e
    obtain ⟨u, q, z⟩ := a.sub.iv c φ e
    exact ⟨u, by rw [upd_ne n]; exact q, z⟩
  · have nn : c ≠ p := fun z => by
      subst z
      rcases h0 with z | z
      · rw [z] at e; cases e
      · exact n z
    rw [upd_ne nn]
    exact a.keep c u e i n
  · by_cases q : c = p
    · subst q
      rw [upd_same]
      exact Option.some_ne_none _
    · rw [upd_ne q]
      exact a.there c e
end

/-! ### slots by modes -/
/-- what a slot holds: u nothing known, s frozen data, l a list of its own, i a list that was handed in to be changed, k a dict of its own; of a value also b: data that may be read now -/
inductive Md where
  | u | s | b | l | i | k | p
  deriving DecidableEq
/-- the frame of one def's run: the module's part, the classes of errors, the entry -/
structure Gx where
  K : PySem.W.Frag
  cls : Nat → Addr
  F0 : Fz
  H0 : Hp
  io : Addr → Prop
  pin : Addr → Prop
/-- a list that may be changed -/
def OwnL (K : PySem.W.Frag) (F : Fz) (H : Hp) (d : D) (a : Addr) : Prop := F.ex a = none ∧ F.iv a = none ∧ ∃ vs ds, d = .lst ds ∧ H a = some (.lst vs) ∧ DenL K F.ex ds vs
def OwnK (K : PySem.W.Frag) (F : Fz) (H : Hp) (d : D) (a : Addr) : Prop := F.ex a = none ∧ F.iv a = none ∧ ∃ vs ds, d = .dct ds ∧ H a = some (.dK vs) ∧ DenK K F.ex ds vs
def SlotOk (G : Gx) (F : Fz) (H : Hp) : Md → D → Option V → Prop
  | .u, _, _ => True
  | .s, d, o => ∃ v, o = some v ∧ Den G.K F.ex d v
  | .b, d, o => ∃ v, o = some v ∧ (Den G.K F.ex d v ∨ ∃ a, v = .ref a ∧ G.H0 a ≠ none ∧ ¬ G.io a ∧ (OwnL G.K F H d a ∨ OwnK G.K F H d a))
  | .l, d, o => ∃ a, o = some (.ref a) ∧ G.H0 a = none ∧ OwnL G.K F H d a
  | .i, d, o => ∃ a, o = some (.ref a) ∧ G.io a ∧ OwnL G.K F H d a
  | .k, d, o => ∃ a, o = some (.ref a) ∧ G.H0 a = none ∧ OwnK G.K F H d a
  | .p, d, o => ∃ a : Addr, o = some (.ref a) ∧ G.pin a
def Md.own : Md → Bool
  | .l => true
  | .i => true
  | .k => true
  | _ => false
structure EnvOk (G : Gx) (M : List Md) (F : Fz) (H : Hp) (σ : St) (Γ : List D) : Prop where
  step : Step G.io G.F0 G.H0 F H
  lenM : M.length = σ.length
  lenG : Γ.length = σ.length
  slot : ∀ i m d, M[i]? = some m → Γ[i]? = some d → SlotOk G F H m d (σ.getD i none)
  disj : ∀ i j m n a, M[i]? = some m → M[j]? = some n → m.own = true → n.own = true → σ.getD i none = some (.ref a) → σ.getD j none = some (.ref a) → i = j
theorem OwnL.step {K : PySem.W.Frag} {S : Addr → Prop} {F F' : Fz} {H H' : Hp} {d : D} {a : Addr} (s : Sub F H) (t : Step S F H F' H') (n : ¬ S a) (h : OwnL K F H d a) : OwnL K F' H' d a := by
  obtain ⟨h1, h2, vs, ds, rfl, h3, h4⟩ := h
  have z : H a ≠ none := by rw [h3]; exact Option.some_ne_none _
  exact ⟨(t.ex a z).trans h1, (t.iv a z).trans h2, vs, ds, rfl, t.keep a _ h3 h2 n, h4.ext (t.le s).ex⟩
theorem OwnK.step {K : PySem.W.Frag} {S : Addr → Prop} {F F' : Fz} {H H' : Hp} {d : D} {a : Addr} (s : Sub F H) (t : Step S F H F' H') (n : ¬ S a) (h : OwnK K F H d a) : OwnK K F' H' d a := by
  obtain ⟨h1, h2, vs, ds, rfl, h3, h4⟩ := h
  have z : H a ≠ none := by rw [h3]; exact Option.some_ne_none _
  exact ⟨(t.ex a z).trans h1, (t.iv a z).trans h2, vs, ds, rfl, t.keep a _ h3 h2 n, h4.ext (t.le s).ex⟩
theorem SlotOk.step {G : Gx} {F F' : Fz} {H H' : Hp} {d : D} {o : Option V} {m : Md} (s : Sub F H) (t : Step (fun _ => False) F H F' H') (h : SlotOk G F H m d o) : SlotOk G F' H' m d o := by
  have n : ∀ (a : Addr), o = some (.ref a) → m.own = true → ¬ False := fun _ _ _ z => z
  cases m with
  | u => trivial
  | b =>
    obtain ⟨v, e, h⟩ := h
    refine ⟨v, e, ?_⟩
    rcases h with h | ⟨a, e, h0, hi, h | h⟩
    · exact .inl (h.ext (t.le s).ex)
    · exact .inr ⟨a, e, h0, hi, .inl (h.step s t fun z => z)⟩
    · exact .inr ⟨a, e, h0, hi, .inr (h.step s t fun z => z)⟩
  | s =>
    obtain ⟨v, e, h⟩ := h
    exact ⟨v, e, h.ext (t.le s).ex⟩
  | l =>
    obtain ⟨a, e, h0, h⟩ := h
    exact ⟨a, e, h0, h.step s t (n a e rfl)⟩
  | i =>
    obtain ⟨a, e, h0, h⟩ := h
    exact ⟨a, e, h0, h.step s t (n a e rfl)⟩
  | k =>
    obtain ⟨a, e, h0, h⟩ := h
    exact ⟨a, e, h0, h.step s t (n a e rfl)⟩
  | p => exact h
/-- nothing is exempt -/
abbrev S0 : Addr → Prop := fun _ => False
theorem Step.any {S : Addr → Prop} {F F1 : Fz} {H H1 : Hp} (a : Step S0 F H F1 H1) : Step S F H F1 H1 := a.imp fun _ z => z.elim
section
variable {G : Gx} {M : List Md} {F F' : Fz} {H H' : Hp} {σ : St} {Γ : List D}
theorem EnvOk.sub (e : EnvOk G M F H σ Γ) : Sub F H := e.step.sub
theorem EnvOk.on (e : EnvOk G M F H σ Γ) (t : Step S0 F H F' H') : EnvOk G M F' H' σ Γ :=
  ⟨e.step.trans t.any, e.lenM, e.lenG, fun i m d h1 h2 => (e.slot i m d h1 h2).step e.sub t, e.disj⟩
end

/-! ### what a value may be -/
/-- data that can be read now -/
def Bor (K : PySem.W.Frag) (F : Fz) (H : Hp) (d : D) (v : V) : Prop := Den K F.ex d v ∨ ∃ a, v = .ref a ∧ (OwnL K F H d a ∨ OwnK K F H d a)
def VOk (K : PySem.W.Frag) (m : Md) (F : Fz) (Hs H : Hp) (d : D) (v : V) : Prop := match m with
  | .s => Den K F.ex d v
  | .b => Bor K F H d v
  | .l => ∃ a, v = .ref a ∧ Hs a = none ∧ OwnL K F H d a
  | .k => ∃ a, v = .ref a ∧ Hs a = none ∧ OwnK K F H d a
  | _ => False
theorem VOk.step {K : PySem.W.Frag} {m : Md} {F F' : Fz} {Hs H H' : Hp} {d : D} {v : V} (s : Sub F H) (t : Step S0 F H F' H') (h : VOk K m F Hs H d v) : VOk K m F' Hs H' d v := by
  cases m with
  | s => exact Den.ext (t.le s).ex h
  | b =>
    rcases h with h | ⟨a, e, h⟩
    · exact .inl (h.ext (t.le s).ex)
    · rcases h with h | h
      · exact .inr ⟨a, e, .inl (h.step s t fun z => z)⟩
      · exact .inr ⟨a, e, .inr (h.step s t fun z => z)⟩
  | l =>
    obtain ⟨a, e, h0, h⟩ := h
    exact ⟨a, e, h0, h.step s t fun z => z⟩
  | k =>
    obtain ⟨a, e, h0, h⟩ := h
    exact ⟨a, e, h0, h.step s t fun z => z⟩
  | u => exact h
  | i => exact h
  | p => exact h
theorem VOk.bor {K : PySem.W.Frag} {m : Md} {F : Fz} {Hs H : Hp} {d : D} {v : V} (h : VOk K m F Hs H d v) : Bor K F H d v := by
  cases m with
  | s => exact .inl h
  | b => exact h
  | l =>
    obtain ⟨a, e, h0, h⟩ := h
    exact .inr ⟨a, e, .inl h⟩
  | k =>
    obtain ⟨a, e, h0, h⟩ := h
    exact .inr ⟨a, e, .inr h⟩
  | u => exact h.elim
  | i => exact h.elim
  | p => exact h.elim
/-- a list that may be read -/
theorem Bor.lst {K : PySem.W.Frag} {F : Fz} {H : Hp} {ds : List D} {v : V} (s : Sub F H) (h : Bor K F H (.lst ds) v) : ∃ a vs, v = .ref a ∧ H a = some (.lst vs) ∧ DenL K F.ex ds vs := by
  rcases h with h | ⟨a, rfl, h⟩
  · obtain ⟨a, vs, rfl, h, r⟩ := h.lst'
    exact ⟨a, vs, rfl, s.ex _ _ h, r⟩
  · rcases h with ⟨_, _, vs, ds', e, h, r⟩ | ⟨_, _, vs, ds', e, _⟩
    · cases e
      exact ⟨a, vs, rfl, h, r⟩
    · cases e
theorem Bor.scr {K : PySem.W.Frag} {F : Fz} {H : Hp} {ds : List D} {v : V} (s : Sub F H) (h : Bor K F H (.scr ds) v) : ∃ a vs, v = .ref a ∧ SqL K H a vs ∧ DenL K F.ex ds vs := by
  rcases h with h | ⟨a, rfl, h⟩
  · obtain ⟨a, vs, rfl, h, r⟩ := h.scr'
    exact ⟨a, vs, rfl, sqL_ext s.ex h, r⟩
  · rcases h with ⟨_, _, vs, ds', e, h, r⟩ | ⟨_, _, vs, ds', e, _⟩
    · cases e
    · cases e
theorem Bor.tup {K : PySem.W.Frag} {F : Fz} {H : Hp} {ds : List D} {v : V} (s : Sub F H) (h : Bor K F H (.tup ds) v) : ∃ a vs, v = .ref a ∧ SqT K H a vs ∧ DenL K F.ex ds vs := by
  rcases h with h | ⟨a, rfl, h⟩
  · obtain ⟨a, vs, rfl, h, r⟩ := h.tup'
    exact ⟨a, vs, rfl, sqT_ext s.ex h, r⟩
  · rcases h with ⟨_, _, vs, ds', e, h, r⟩ | ⟨_, _, vs, ds', e, _⟩
    · cases e
    · cases e
theorem Bor.dct {K : PySem.W.Frag} {F : Fz} {H : Hp} {ds : List (Key × D)} {v : V} (s : Sub F H) (h : Bor K F H (.dct ds) v) : ∃ a vs, v = .ref a ∧ Rd H a (.dK vs) ∧ DenK K F.ex ds vs := by
  rcases h with h | ⟨a, rfl, h⟩
  · obtain ⟨a, vs, rfl, h, r⟩ := h.dct'
    exact ⟨a, vs, rfl, rd_ext s.ex h, r⟩
  · rcases h with ⟨_, _, vs, ds', e, h, r⟩ | ⟨_, _, vs, ds', e, h, r⟩
    · cases e
    · cases e
      exact ⟨a, vs, rfl, .inl h, r⟩
theorem Bor.int {K : PySem.W.Frag} {F : Fz} {H : Hp} {i : Int} {v : V} (h : Bor K F H (.int i) v) : v = .int i := by
  rcases h with h | ⟨a, _, ⟨_, _, _, _, e, _⟩ | ⟨_, _, _, _, e, _⟩⟩
  · cases h; rfl
  · cases e
  · cases e
theorem Bor.bl {K : PySem.W.Frag} {F : Fz} {H : Hp} {i : Bool} {v : V} (h : Bor K F H (.bl i) v) : v = .bl i := by
  rcases h with h | ⟨a, _, ⟨_, _, _, _, e, _⟩ | ⟨_, _, _, _, e, _⟩⟩
  · cases h; rfl
  · cases e
  · cases e
theorem Bor.str {K : PySem.W.Frag} {F : Fz} {H : Hp} {i : Str} {v : V} (h : Bor K F H (.str i) v) : v = .str i := by
  rcases h with h | ⟨a, _, ⟨_, _, _, _, e, _⟩ | ⟨_, _, _, _, e, _⟩⟩
  · cases h; rfl
  · cases e
  · cases e
theorem Bor.non {K : PySem.W.Frag} {F : Fz} {H : Hp} {v : V} (h : Bor K F H .non v) : v = .non := by
  rcases h with h | ⟨a, _, ⟨_, _, _, _, e, _⟩ | ⟨_, _, _, _, e, _⟩⟩
  · cases h; rfl
  · cases e
  · cases e
/-- an owned result is frozen -/
theorem VOk.freeze {K : PySem.W.Frag} {S : Addr → Prop} {m : Md} {F F' : Fz} {H H' : Hp} {d : D} {v : V} (t : Step S F H F' H') (hm : m = .s ∨ m = .l ∨ m = .k) (h : VOk K m F' H H' d v) :
    ∃ F2, Step S F H F2 H' ∧ FLe F' F2 ∧ Den K F2.ex d v := by
  rcases hm with rfl | rfl | rfl
  · exact ⟨F', t, .refl _, h⟩
  · obtain ⟨a, rfl, h0, hx, hi, vs, ds, rfl, e, r⟩ := h
    exact ⟨F'.add a (.lst vs) hx, t.freeze h0 e hx, Fz.le_add hx, .lst upd_same (r.ext (ext_upd hx))⟩
  · obtain ⟨a, rfl, h0, hx, hi, vs, ds, rfl, e, r⟩ := h
    exact ⟨F'.add a (.dK vs) hx, t.freeze h0 e hx, Fz.le_add hx, .dct (.inl upd_same) (r.ext (ext_upd hx))⟩
end L2.DL
set_option Elab.async false
set_option linter.all false
set_option maxRecDepth 100000
set_option autoImplicit false
/-! DB: the canonical readings and the rules for expressions. -/
namespace L2.DL
open PySem PySem.Spec PyProof.Rows

/-! ### what is asked behind an expression -/
abbrev EF := List D → R D
abbrev BF := List D → R Bool
abbrev AF := List D → R (List D)
section
variable (G : Gx) (W : WX) (M : List Md) (m : Md)
def PostE (F : Fz) (H : Hp) (σ : St) (Q : VK) : R D → Prop
  | .ok d => ∀ v F' H', Step S0 F H F' H' → VOk G.K m F' H H' d v → Q v H'
  | .err c => ∀ F' H', Step S0 F H F' H' → W (.ref (G.cls c)) none σ H'
  | .bad => False
def PostB (F : Fz) (H : Hp) (σ : St) (Q : Bool → Hp → Prop) : R Bool → Prop
  | .ok b => ∀ F' H', Step S0 F H F' H' → Q b H'
  | .err c => ∀ F' H', Step S0 F H F' H' → W (.ref (G.cls c)) none σ H'
  | .bad => False
inductive VOkL (K : PySem.W.Frag) (m : Md) (F : Fz) (Hs H : Hp) : List D → List V → Prop
  | nil : VOkL K m F Hs H [] []
  | cons {d v ds vs} : VOk K m F Hs H d v → VOkL K m F Hs H ds vs → VOkL K m F Hs H (d :: ds) (v :: vs)
def PostA (F : Fz) (H : Hp) (σ : St) (Q : List V → Hp → Prop) : R (List D) → Prop
  | .ok ds => ∀ vs F' H', Step S0 F H F' H' → VOkL G.K m F' H H' ds vs → Q vs H'
  | .err c => ∀ F' H', Step S0 F H F' H' → W (.ref (G.cls c)) none σ H'
  | .bad => False
def rdE (f : EF) : TE := fun σ H Q => ∃ F Γ, EnvOk G M F H σ Γ ∧ PostE G W m F H σ Q (f Γ)
def rdB (f : BF) : TT := fun σ H Q => ∃ F Γ, EnvOk G M F H σ Γ ∧ PostB G W F H σ Q (f Γ)
def rdA (f : AF) : TA := fun σ H Q => ∃ F Γ, EnvOk G M F H σ Γ ∧ PostA G W m F H σ Q (f Γ)
end
/-- what a body's context must be -/
structure CxOk (X : Cx) (G : Gx) (W : WX) : Prop where
  calm : X.calm = true
  K : X.K = G.K
  nd : X.N.Nodup
  hd : X.A.handled = none
  units : X.A.units + 64 < cLine
  takes : Takes X W
abbrev PEd (X : Cx) (G : Gx) (W : WX) (M : List Md) (m : Md) (e : Expr) (f : EF) : Prop := PE X e (rdE G W M m f)
abbrev PTd (X : Cx) (G : Gx) (W : WX) (M : List Md) (e : Expr) (f : BF) : Prop := PT X e (rdB G W M f)
abbrev PAd (X : Cx) (G : Gx) (W : WX) (M : List Md) (m : Md) (es : List Expr) (f : AF) : Prop := PA X es (rdA G W M m f)
theorem PE.monoD {X : Cx} {e : Expr} {t t' : TE} (h : PE X e t) (i : ∀ σ H Q, t' σ H Q → t σ H Q) : PE X e t' := ⟨fun pins s σ H Q I q => h.run pins s σ H Q I (i σ H Q q)⟩
theorem PT.monoD {X : Cx} {e : Expr} {t t' : TT} (h : PT X e t) (i : ∀ σ H Q, t' σ H Q → t σ H Q) : PT X e t' := ⟨fun pins s σ H Q I q => h.run pins s σ H Q I (i σ H Q q)⟩
theorem PW.monoD {X : Cx} {e : Expr} {t t' : TT} (h : PW X e t) (i : ∀ σ H Q, t' σ H Q → t σ H Q) : PW X e t' := ⟨fun w pins s σ H Q I q => h.run w pins s σ H Q I (i σ H Q q)⟩
theorem PA.monoD {X : Cx} {e : List Expr} {t t' : TA} (h : PA X e t) (i : ∀ σ H Q, t' σ H Q → t σ H Q) : PA X e t' := ⟨fun p pins s σ H Q I q => h.run p pins s σ H Q I (i σ H Q q)⟩

theorem VOk.back {K : PySem.W.Frag} {S : Addr → Prop} {m : Md} {F F1 F' : Fz} {H H1 H' : Hp} {d : D} {v : V} (t : Step S F H F1 H1) (h : VOk K m F' H1 H' d v) : VOk K m F' H H' d v := by
  have k : ∀ a, H1 a = none → H a = none := fun a e => by
    cases q : H a with
    | none => rfl
    | some o => exact absurd e (t.there a (by rw [q]; exact Option.some_ne_none _))
  cases m with
  | s => exact h
  | b => exact h
  | l =>
    obtain ⟨a, e, h0, h⟩ := h
    exact ⟨a, e, k a h0, h⟩
  | k =>
    obtain ⟨a, e, h0, h⟩ := h
    exact ⟨a, e, k a h0, h⟩
  | u => exact h
  | i => exact h
  | p => exact h
theorem VOkL.step {K : PySem.W.Frag} {m : Md} {F F' : Fz} {Hs H H' : Hp} (s : Sub F H) (t : Step S0 F H F' H') : ∀ {ds : List D} {vs : List V}, VOkL K m F Hs H ds vs → VOkL K m F' Hs H' ds vs
  | _, _, .nil => .nil
  | _, _, .cons h r => .cons (h.step s t) (VOkL.step s t r)
theorem VOkL.back {K : PySem.W.Frag} {S : Addr → Prop} {m : Md} {F F1 F' : Fz} {H H1 H' : Hp} (t : Step S F H F1 H1) : ∀ {ds : List D} {vs : List V}, VOkL K m F' H1 H' ds vs → VOkL K m F' H H' ds vs
  | _, _, .nil => .nil
  | _, _, .cons h r => .cons (h.back t) (VOkL.back t r)
theorem VOkL.den {K : PySem.W.Frag} {F : Fz} {Hs H : Hp} : ∀ {ds : List D} {vs : List V}, VOkL K .s F Hs H ds vs → DenL K F.ex ds vs
  | _, _, .nil => .nil
  | _, _, .cons h r => .cons h (VOkL.den r)

section
variable {X : Cx} {G : Gx} {W : WX} {M : List Md} {m m1 m2 : Md} {e a b c : Expr} {f fa fb fc : EF} {pos : Pos}

/-- the pattern of all rules: run one part, go on with its answer -/
theorem PostE.then {F : Fz} {H : Hp} {σ : St} {Q Q' : VK} {r : R D} {k : D → R D} (h : PostE G W m F H σ Q' (r.bind k))
    (ok : ∀ d v F' H', r = .ok d → Step S0 F H F' H' → VOk G.K m1 F' H H' d v → PostE G W m F' H' σ (fun w H2 => Q' w H2) (k d) → Q v H') (sub : Sub F H) : PostE G W m1 F H σ Q r := by
  cases r with
  | bad => exact h
  | err c => exact h
  | ok d =>
    intro v F' H' t o
    refine ok d v F' H' rfl t o ?_
    have h' : PostE G W m F H σ Q' (k d) := h
    revert h'
    cases k d with
    | bad => exact fun z => z
    | err c => exact fun z F2 H2 t2 => z F2 H2 (t.trans t2)
    | ok d2 => exact fun z w F2 H2 t2 o2 => z w F2 H2 (t.trans t2) (o2.back t)

/-! ### modes -/
/-- whatever it is, it may be read -/
theorem d_b (h : PEd X G W M m e f) : PEd X G W M .b e f := by
  refine PE.monoD h fun σ H Q ⟨F, Γ, E, p⟩ => ⟨F, Γ, E, ?_⟩
  revert p
  cases f Γ with
  | bad => exact fun z => z
  | err c => exact fun z => z
  | ok d => exact fun z v F' H' t o => z v F' H' t o.bor
/-- a new list or dict is frozen -/
theorem d_s (h : PEd X G W M m e f) (hm : m = .s ∨ m = .l ∨ m = .k := by decide) : PEd X G W M .s e f := by
  refine PE.monoD h fun σ H Q ⟨F, Γ, E, p⟩ => ⟨F, Γ, E, ?_⟩
  revert p
  cases f Γ with
  | bad => exact fun z => z
  | err c => exact fun z => z
  | ok d =>
    intro z v F' H' t o
    obtain ⟨F2, t2, _, d2⟩ := o.freeze t hm
    exact z v F2 H' t2 d2

/-! ### names, constants -/
def eVar (i : Nat) : EF := fun Γ => match Γ[i]? with
  | some d => .ok d
  | none => .bad
def eC (d : D) : EF := fun _ => .ok d
theorem slot_get {σ : St} {i : Nat} {v : V} (h : σ.getD i none = some v) : σ[i]? = some (some v) := by
  rw [List.getD_eq_getElem?_getD] at h
  cases q : σ[i]? with
  | none => rw [q] at h; cases h
  | some o =>
    rw [q] at h
    have h' : o = some v := h
    rw [h']
theorem slot_val {σ : St} {i : Nat} {o : Option V} (h : σ[i]? = some o) : σ.getD i none = o := by
  rw [List.getD_eq_getElem?_getD, h]
  rfl
theorem d_var (i : Nat) {x : Str} (hm : M[i]? = some .s := by rfl) (hN : X.N[i]? = some x := by rfl) (hv : Vis X.env.scope x := by first | exact Or.inl rfl | exact Or.inr (Or.inl rfl) | exact Or.inr (Or.inr rfl)) (hd : (x == ("__debug__" : Str)) = false := by decide)
    (hcd : (x == ("__classdict__" : Str)) = false := by decide) : PEd X G W M .s (.Name x pos) (eVar i) := by
  refine PE.monoD (pe_var hN hv hd hcd) fun σ H Q ⟨F, Γ, E, p⟩ => ?_
  unfold eVar at p
  cases q : Γ[i]? with
  | none => rw [q] at p; exact p.elim
  | some d =>
    rw [q] at p
    obtain ⟨v, ev, dv⟩ := E.slot i .s d hm q
    exact ⟨v, slot_get ev, p v F H (.refl E.sub) dv⟩
/-- a list or dict of its own, to be read -/
theorem d_varb (i : Nat) {x : Str} {n : Md} (hm : M[i]? = some n := by rfl) (hn : (n.own || n == .b) = true := by rfl) (hN : X.N[i]? = some x := by rfl) (hv : Vis X.env.scope x := by first | exact Or.inl rfl | exact Or.inr (Or.inl rfl) | exact Or.inr (Or.inr rfl)) (hd : (x == ("__debug__" : Str)) = false := by decide)
    (hcd : (x == ("__classdict__" : Str)) = false := by decide) : PEd X G W M .b (.Name x pos) (eVar i) := by
  refine PE.monoD (pe_var hN hv hd hcd) fun σ H Q ⟨F, Γ, E, p⟩ => ?_
  unfold eVar at p
  cases q : Γ[i]? with
  | none => rw [q] at p; exact p.elim
  | some d =>
    rw [q] at p
    have so := E.slot i n d hm q
    cases n with
    | l =>
      obtain ⟨a, ev, _, dv⟩ := so
      exact ⟨_, slot_get ev, p _ F H (.refl E.sub) (.inr ⟨a, rfl, .inl dv⟩)⟩
    | i =>
      obtain ⟨a, ev, _, dv⟩ := so
      exact ⟨_, slot_get ev, p _ F H (.refl E.sub) (.inr ⟨a, rfl, .inl dv⟩)⟩
    | k =>
      obtain ⟨a, ev, _, dv⟩ := so
      exact ⟨_, slot_get ev, p _ F H (.refl E.sub) (.inr ⟨a, rfl, .inr dv⟩)⟩
    | b =>
      obtain ⟨v, ev, dv⟩ := so
      refine ⟨v, slot_get ev, p _ F H (.refl E.sub) ?_⟩
      rcases dv with dv | ⟨a, e, _, _, dv⟩
      · exact .inl dv
      · exact .inr ⟨a, e, dv⟩
    | u => cases hn
    | s => cases hn
    | p => cases hn
theorem d_c {d : D} {v : V} (h : PE X e (tC v)) (hd : ∀ Y, Den G.K Y d v) : PEd X G W M .s e (eC d) :=
  PE.monoD h fun σ H Q ⟨F, Γ, E, p⟩ => p v F H (.refl E.sub) (hd _)
theorem d_int {i j} : PEd X G W M .s (.Constant (.int i) j pos) (eC (.int i)) := d_c pe_int fun _ => .int i
theorem d_bl {i j} : PEd X G W M .s (.Constant (.bool i) j pos) (eC (.bl i)) := d_c pe_bl fun _ => .bl i
theorem d_str {i j} : PEd X G W M .s (.Constant (.str i) j pos) (eC (.str i)) := d_c pe_str fun _ => .str i
theorem d_non {j} : PEd X G W M .s (.Constant .none j pos) (eC .non) := d_c pe_non fun _ => .non
theorem d_glob {x : Str} {d : D} {v : V} {u : Value} (hd : Den G.K (fun _ => none) d v) (hm : X.mg x = some u) (r : RelV v u) (hg : Gl X x := by rfl) (hdb : (x == ("__debug__" : Str)) = false := by decide) : PEd X G W M .s (.Name x pos) (eC d) :=
  d_c (pe_glob hg hm r hdb) fun Y => hd.ext fun _ o h => absurd (show (none : Option HO) = some o from h) (by simp)

/-! ### operators by what they do to data -/
def PostP (K : PySem.W.Frag) (m : Md) (F : Fz) (H : Hp) (Q : VK) : R D → Prop
  | .ok d => ∀ v F' H', Step S0 F H F' H' → VOk K m F' H H' d v → Q v H'
  | _ => False
theorem PostP.of {F : Fz} {H : Hp} {σ : St} {Q : VK} {r : R D} (h : PostE G W m F H σ Q r) (n : ∀ c, r ≠ .err c) : PostP G.K m F H Q r := by
  cases r with
  | bad => exact h
  | err c => exact absurd rfl (n c)
  | ok d => exact h
/-- by data -/
def rd2 (K : PySem.W.Frag) (m : Md) (g : D → D → Option D) : R2 := fun x y H Q => ∃ F d e z, Sub F H ∧ Bor K F H d x ∧ Bor K F H e y ∧ g d e = some z ∧ ∀ v F' H', Step S0 F H F' H' → VOk K m F' H H' z v → Q v H'
def rd1 (K : PySem.W.Frag) (m : Md) (g : D → Option D) : V → Hp → VK → Prop := fun x H Q => ∃ F d z, Sub F H ∧ Bor K F H d x ∧ g d = some z ∧ ∀ v F' H', Step S0 F H F' H' → VOk K m F' H H' z v → Q v H'
def BorL (K : PySem.W.Frag) (F : Fz) (H : Hp) : List D → List V → Prop := VOkL K .b F H H
def rdN (K : PySem.W.Frag) (m : Md) (g : List D → Option D) : List V → Hp → VK → Prop := fun xs H Q => ∃ F ds z, Sub F H ∧ BorL K F H ds xs ∧ g ds = some z ∧ ∀ v F' H', Step S0 F H F' H' → VOk K m F' H H' z v → Q v H'
def R.of {α : Type} : Option α → R α
  | some a => .ok a
  | none => .bad
@[simp] theorem R.of_some {α : Type} (a : α) : R.of (some a) = .ok a := rfl
@[simp] theorem R.of_none {α : Type} : R.of (none : Option α) = .bad := rfl
def eBin (g : D → D → Option D) (fa fb : EF) : EF := fun Γ => (fa Γ).bind fun x => (fb Γ).bind fun y => R.of (g x y)
def eUn (g : D → Option D) (fa : EF) : EF := fun Γ => (fa Γ).bind fun x => R.of (g x)
def aNil : AF := fun _ => .ok []
def aCons (f : EF) (r : AF) : AF := fun Γ => (f Γ).bind fun x => (r Γ).bind fun xs => .ok (x :: xs)
def eApp (g : List D → Option D) (fa : AF) : EF := fun Γ => (fa Γ).bind fun xs => R.of (g xs)
theorem post_of {F : Fz} {H : Hp} {σ : St} {Q : VK} {o : Option D} (h : PostE G W m F H σ Q (R.of o)) : ∃ z, o = some z ∧ ∀ v F' H', Step S0 F H F' H' → VOk G.K m F' H H' z v → Q v H' := by
  cases o with
  | none => exact h.elim
  | some z => exact ⟨z, rfl, h⟩
theorem two {g : D → D → Option D} {σ : St} {H : Hp} {Q : VK} (h : rdE G W M m (eBin g fa fb) σ H Q) : rdE G W M m1 fa σ H fun x H1 => rdE G W M m2 fb σ H1 fun y H2 => rd2 G.K m g x y H2 Q := by
  obtain ⟨F, Γ, E, p⟩ := h
  refine ⟨F, Γ, E, PostE.then (Q' := Q) p (fun d v F1 H1 _ t1 o1 p1 => ?_) E.sub⟩
  refine ⟨F1, Γ, E.on t1, PostE.then (Q' := Q) p1 (fun d2 v2 F2 H2 _ t2 o2 p2 => ?_) t1.sub⟩
  obtain ⟨z, ez, q⟩ := post_of p2
  exact ⟨F2, d, d2, z, t2.sub, (o1.step t1.sub t2).bor, o2.bor, ez, q⟩
theorem d_bin {op : Operator} {g : D → D → Option D} (ho : OpR X (binaryOp op) (rd2 G.K m g)) (ha : PEd X G W M m1 a fa) (hb : PEd X G W M m2 b fb) : PEd X G W M m (.BinOp a op b pos) (eBin g fa fb) :=
  PE.monoD (pe_op ho ha hb) fun σ H Q h => two h
theorem d_cmp {op : CmpOp} {g : D → D → Option D} (ho : OpR X (compareOp op) (rd2 G.K m g)) (ha : PEd X G W M m1 a fa) (hb : PEd X G W M m2 b fb) (hm : behindInMarks op b = false) : PEd X G W M m (.Compare a [op] [b] pos) (eBin g fa fb) :=
  PE.monoD (pe_cmpR ho ha hb hm) fun σ H Q h => two h
theorem d_un {op : UnaryOp} {g : D → Option D} (ho : UnR X (unaryOp op) (rd1 G.K m g)) (ha : PEd X G W M m1 a fa) : PEd X G W M m (.UnaryOp op a pos) (eUn g fa) := by
  refine PE.monoD (pe_un ho ha) fun σ H Q ⟨F, Γ, E, p⟩ => ⟨F, Γ, E, PostE.then (Q' := Q) p (fun d v F1 H1 _ t1 o1 p1 => ?_) E.sub⟩
  obtain ⟨z, ez, q⟩ := post_of p1
  exact ⟨F1, d, z, t1.sub, o1.bor, ez, q⟩
theorem d_ix {g : D → D → Option D} (ho : IxR X (rd2 G.K m g)) (ha : PEd X G W M m1 a fa) (hb : PEd X G W M m2 b fb) (hs : PlainIx b := by intro _ _; rfl) : PEd X G W M m (.Subscript a b pos) (eBin g fa fb) :=
  PE.monoD (pe_ix ho ha hb hs) fun σ H Q h => two h

/-! ### arguments -/
theorem da_nil : PAd X G W M m [] aNil := PA.monoD pa_nil fun σ H Q ⟨F, Γ, E, p⟩ => p [] F H (.refl E.sub) .nil
theorem da_cons {es : List Expr} {fr : AF} (h : PEd X G W M m e f) (r : PAd X G W M m es fr) (hs : starEach (e :: es) X.env = (false, eval e X.env) :: starEach es X.env := by rfl) : PAd X G W M m (e :: es) (aCons f fr) := by
  refine PA.monoD (pa_cons h r hs) fun σ H Q ⟨F, Γ, E, p⟩ => ⟨F, Γ, E, ?_⟩
  unfold aCons at p
  revert p
  cases f Γ with
  | bad => exact fun z => z
  | err c => exact fun z => z
  | ok d =>
    intro p v F1 H1 t1 o1
    refine ⟨F1, Γ, E.on t1, ?_⟩
    have p' : PostA G W m F H σ Q ((fr Γ).bind fun xs => .ok (d :: xs)) := p
    revert p'
    cases fr Γ with
    | bad => exact fun z => z
    | err c => exact fun z F' H' t => z F' H' (t1.trans t)
    | ok ds => exact fun z vs F2 H2 t2 o2 => z _ F2 H2 (t1.trans t2) (.cons (o1.step t1.sub t2) (o2.back t1))
theorem post_args {es : List Expr} {fr : AF} {g : List D → Option D} {σ : St} {H : Hp} {Q : VK} (h : rdE G W M m (eApp g fr) σ H Q) : rdA G W M .b fr σ H fun vs H1 => rdN G.K m g vs H1 Q := by
  obtain ⟨F, Γ, E, p⟩ := h
  refine ⟨F, Γ, E, ?_⟩
  unfold eApp at p
  revert p
  cases fr Γ with
  | bad => exact fun z => z
  | err c => exact fun z => z
  | ok ds =>
    intro p vs F1 H1 t1 o1
    obtain ⟨z, ez, q⟩ := post_of (show PostE G W m F H σ Q (R.of (g ds)) from p)
    have bl : ∀ {ds : List D} {vs : List V}, VOkL G.K .b F1 H H1 ds vs → BorL G.K F1 H1 ds vs := fun {ds vs} h => by
      induction h with
      | nil => exact .nil
      | cons h _ ih => exact .cons h ih
    exact ⟨F1, ds, z, t1.sub, bl o1, ez, fun v F' H' t o => q v F' H' (t1.trans t) (o.back t1)⟩
/-- a built-in's call, by data -/
theorem d_callB {x : Str} {id : String} {es : List Expr} {g : List D → Option D} {fr : AF} {p : Pos} (hc : CallR X (.builtin id) (rdN G.K m g)) (ha : PAd X G W M .b (e :: es) fr) (hm : X.mg x = none) (hv : bootBuiltins x = some (.builtin id)) (hg : Gl X x := by rfl) (hn : x ≠ "__name__" := by decide) (hdb : (x == ("__debug__" : Str)) = false := by decide)
    (he : starEach (e :: es) X.env = (false, eval e X.env) :: starEach es X.env := by rfl) (hpl : (backTo pos (starEach es X.env)).any (·.1) = false := by rfl) : PEd X G W M m (.Call (.Name x p) (e :: es) [] pos) (eApp g fr) :=
  PE.monoD (pe_callB hc hg hm hv ha hn hdb he hpl) fun σ H Q h => post_args (es := es) h
theorem d_callTy {x : Str} {T : String} {es : List Expr} {g : List D → Option D} {fr : AF} {p : Pos} (hc : CallR X (.type T) (rdN G.K m g)) (ha : PAd X G W M .b (e :: es) fr) (hm : X.mg x = none) (hv : bootBuiltins x = some (.type T)) (hg : Gl X x := by rfl) (hn : x ≠ "__name__" := by decide) (hdb : (x == ("__debug__" : Str)) = false := by decide)
    (he : starEach (e :: es) X.env = (false, eval e X.env) :: starEach es X.env := by rfl) (hpl : (backTo pos (starEach es X.env)).any (·.1) = false := by rfl) : PEd X G W M m (.Call (.Name x p) (e :: es) [] pos) (eApp g fr) :=
  PE.monoD (pe_callTy hc hg hm hv ha hn hdb he hpl) fun σ H Q h => post_args (es := es) h

/-! ### displays -/
def eTup (fa : AF) : EF := fun Γ => (fa Γ).bind fun xs => if xs.length ≤ 1000 then .ok (.tup xs) else .bad
def eLst (fa : AF) : EF := fun Γ => (fa Γ).bind fun xs => if xs.length ≤ 1000 then .ok (.lst xs) else .bad
theorem le_line {n : Nat} (h : n ≤ 1000) : n ≤ sizeLine := Nat.le_of_lt (small1000 h)
theorem den_new {K : PySem.W.Frag} {F : Fz} {H : Hp} {p : Addr} {o : HO} (s : Sub F H) (hp : H p = none) : Step S0 F H (F.add p o (s.nil_ hp).1) (upd H p o) :=
  (Step.new (o := o) s hp).freeze hp upd_same (s.nil_ hp).1
theorem d_tup {es : List Expr} {fr : AF} {x1} (ha : PAd X G W M .s es fr) : PEd X G W M .s (.Tuple es x1 pos) (eTup fr) := by
  refine PE.monoD (pe_tup ha) fun σ H Q ⟨F, Γ, E, p⟩ => ⟨F, Γ, E, ?_⟩
  unfold eTup at p
  revert p
  cases fr Γ with
  | bad => exact fun z => z
  | err c => exact fun z => z
  | ok ds =>
    intro p vs F1 H1 t1 o1
    have p' : PostE G W .s F H σ Q (if ds.length ≤ 1000 then .ok (.tup ds) else .bad) := p
    have od := o1.den
    by_cases hl : ds.length ≤ 1000
    · rw [if_pos hl] at p'
      refine ⟨by rw [od.length]; exact le_line hl, fun q hq => ?_⟩
      exact p' _ _ _ (t1.trans (den_new (K := G.K) t1.sub hq)) (.tup (.of upd_same) (od.ext (ext_upd (t1.sub.nil_ hq).1)))
    · rw [if_neg hl] at p'
      exact p'.elim
theorem d_lst {es : List Expr} {fr : AF} (ha : PAd X G W M .s es fr) : PEd X G W M .l (.List es pos) (eLst fr) := by
  refine PE.monoD (pe_lst ha) fun σ H Q ⟨F, Γ, E, p⟩ => ⟨F, Γ, E, ?_⟩
  unfold eLst at p
  revert p
  cases fr Γ with
  | bad => exact fun z => z
  | err c => exact fun z => z
  | ok ds =>
    intro p vs F1 H1 t1 o1
    have p' : PostE G W .l F H σ Q (if ds.length ≤ 1000 then .ok (.lst ds) else .bad) := p
    have od := o1.den
    by_cases hl : ds.length ≤ 1000
    · rw [if_pos hl] at p'
      refine ⟨by rw [od.length]; exact le_line hl, fun q hq => ?_⟩
      have hq0 : H q = none := by
        cases z : H q with
        | none => rfl
        | some o => exact absurd hq (t1.there q (by rw [z]; exact Option.some_ne_none _))
      exact p' _ _ _ (t1.trans (Step.new t1.sub hq)) ⟨q, rfl, hq0, (t1.sub.nil_ hq).1, (t1.sub.nil_ hq).2, vs, ds, rfl, upd_same, od⟩
    · rw [if_neg hl] at p'
      exact p'.elim

/-! ### tests -/
def bVal (f : EF) : BF := fun Γ => (f Γ).bind fun d => match d with
  | .bl b => .ok b
  | _ => .bad
theorem dt_val (h : PEd X G W M m e f) (he : ∀ whole, isTrue e X.env whole = (do let v ← whole; standAt e.pos; holding [v] (truthy v)) := by intro _; rfl) : PTd X G W M e (bVal f) := by
  refine PT.monoD (pt_val h he) fun σ H Q ⟨F, Γ, E, p⟩ => ⟨F, Γ, E, ?_⟩
  unfold bVal at p
  revert p
  cases f Γ with
  | bad => exact fun z => z
  | err c => exact fun z => z
  | ok d =>
    intro p v F1 H1 t1 o1
    cases d with
    | bl b =>
      have p' : PostB G W F H σ Q (.ok b) := p
      exact ⟨b, o1.bor.bl, p' F1 H1 t1⟩
    | _ => exact (show False from p).elim
/-- a comparison as a test -/
theorem dt_cmp {op : CmpOp} {g : D → D → Option D} (ho : OpR X (compareOp op) (rd2 G.K .s g)) (ha : PEd X G W M m1 a fa) (hb : PEd X G W M m2 b fb) (hm : behindInMarks op b = false) : PTd X G W M (.Compare a [op] [b] pos) (bVal (eBin g fa fb)) := by
  refine PT.monoD (pt_cmpR ho ha hb hm) fun σ H Q ⟨F, Γ, E, p⟩ => ?_
  refine two (M := M) (W := W) (G := G) (m := .s) (fa := fa) (fb := fb) ⟨F, Γ, E, ?_⟩
  unfold bVal at p
  revert p
  cases eBin g fa fb Γ with
  | bad => exact fun z => z
  | err c => exact fun z => z
  | ok d =>
    intro p v F1 H1 t1 o1
    cases d with
    | bl b =>
      have p' : PostB G W F H σ Q (.ok b) := p
      cases o1
      exact ⟨b, rfl, p' F1 H1 t1⟩
    | _ => exact (show False from p).elim
def truD : D → Option Bool
  | .non => some false
  | .bl b => some b
  | .int i => some (i != 0)
  | .lst l => some (!l.isEmpty)
  | .scr l => some (!l.isEmpty)
  | .tup l => some (!l.isEmpty)
  | _ => none
def bTru (f : EF) : BF := fun Γ => (f Γ).bind fun d => R.of (truD d)
def bNot (f : BF) : BF := fun Γ => (f Γ).bind fun b => .ok (!b)
def bAnd (f g : BF) : BF := fun Γ => (f Γ).bind fun b => if b = true then g Γ else .ok false
def bOr (f g : BF) : BF := fun Γ => (f Γ).bind fun b => if b = true then .ok true else g Γ
def eOfB (f : BF) : EF := fun Γ => (f Γ).bind fun b => .ok (.bl b)
theorem postB_then {F : Fz} {H : Hp} {σ : St} {Q Q' : Bool → Hp → Prop} {r : R Bool} {k : Bool → R Bool} (h : PostB G W F H σ Q' (r.bind k))
    (ok : ∀ d F' H', r = .ok d → Step S0 F H F' H' → PostB G W F' H' σ (fun w H2 => Q' w H2) (k d) → Q d H') : PostB G W F H σ Q r := by
  cases r with
  | bad => exact h
  | err c => exact h
  | ok d =>
    intro F' H' t
    refine ok d F' H' rfl t ?_
    have h' : PostB G W F H σ Q' (k d) := h
    revert h'
    cases k d with
    | bad => exact fun z => z
    | err c => exact fun z F2 H2 t2 => z F2 H2 (t.trans t2)
    | ok d2 => exact fun z F2 H2 t2 => z F2 H2 (t.trans t2)
theorem dt_not {ba : BF} (h : PTd X G W M a ba) : PTd X G W M (.UnaryOp .Not a pos) (bNot ba) := by
  refine PT.monoD (pt_not h) fun σ H Q ⟨F, Γ, E, p⟩ => ⟨F, Γ, E, postB_then (Q' := Q) p fun d F1 H1 _ t p1 => ?_⟩
  exact p1 F1 H1 (.refl t.sub)
theorem dw_and1 {ba : BF} (h : PTd X G W M a ba) : PW X (.BoolOp .And [a] pos) (rdB G W M ba) := pw_and1 h
theorem dw_or1 {ba : BF} (h : PTd X G W M a ba) : PW X (.BoolOp .Or [a] pos) (rdB G W M ba) := pw_or1 h
theorem dw_and {ba bb : BF} {rest : List Expr} (h : PTd X G W M a ba) (hb : PW X (.BoolOp .And (b :: rest) pos) (rdB G W M bb)) : PW X (.BoolOp .And (a :: b :: rest) pos) (rdB G W M (bAnd ba bb)) := by
  refine PW.monoD (pw_and h hb) fun σ H Q ⟨F, Γ, E, p⟩ => ⟨F, Γ, E, postB_then (Q' := Q) p fun d F1 H1 _ t p1 => ?_⟩
  cases d with
  | true =>
    rw [if_pos rfl]
    exact ⟨F1, Γ, E.on t, p1⟩
  | false =>
    rw [if_neg Bool.false_ne_true]
    exact p1 F1 H1 (.refl t.sub)
theorem dw_or {ba bb : BF} {rest : List Expr} (h : PTd X G W M a ba) (hb : PW X (.BoolOp .Or (b :: rest) pos) (rdB G W M bb)) : PW X (.BoolOp .Or (a :: b :: rest) pos) (rdB G W M (bOr ba bb)) := by
  refine PW.monoD (pw_or h hb) fun σ H Q ⟨F, Γ, E, p⟩ => ⟨F, Γ, E, postB_then (Q' := Q) p fun d F1 H1 _ t p1 => ?_⟩
  cases d with
  | true =>
    rw [if_pos rfl]
    exact p1 F1 H1 (.refl t.sub)
  | false =>
    rw [if_neg Bool.false_ne_true]
    exact ⟨F1, Γ, E.on t, p1⟩
/-- and, or, not of truth values, as values -/
def eAnd (f g : EF) : EF := fun Γ => (f Γ).bind fun d => match d with
  | .bl true => g Γ
  | .bl false => .ok (.bl false)
  | _ => .bad
def eOr (f g : EF) : EF := fun Γ => (f Γ).bind fun d => match d with
  | .bl true => .ok (.bl true)
  | .bl false => g Γ
  | _ => .bad
def eNot (f : EF) : EF := fun Γ => (f Γ).bind fun d => match d with
  | .bl b => .ok (.bl (!b))
  | _ => .bad
theorem d_one {op} (h : PEd X G W M m a f) : PEd X G W M m (.BoolOp op [a] pos) f := pe_one h
theorem d_and {rest : List Expr} (ha : PEd X G W M m1 a fa) (hb : PEd X G W M .s (.BoolOp .And (b :: rest) pos) fb) : PEd X G W M .s (.BoolOp .And (a :: b :: rest) pos) (eAnd fa fb) := by
  refine PE.monoD (pe_and ha hb) fun σ H Q ⟨F, Γ, E, p⟩ => ⟨F, Γ, E, PostE.then (Q' := Q) p (fun d v F1 H1 _ t1 o1 p1 => ?_) E.sub⟩
  cases d with
  | bl b =>
    refine ⟨b, o1.bor.bl, ?_⟩
    cases b with
    | true =>
      rw [if_pos rfl]
      exact ⟨F1, Γ, E.on t1, p1⟩
    | false =>
      rw [if_neg Bool.false_ne_true]
      exact p1 _ F1 H1 (.refl t1.sub) (.bl false)
  | _ => exact (show False from p1).elim
theorem d_or {rest : List Expr} (ha : PEd X G W M m1 a fa) (hb : PEd X G W M .s (.BoolOp .Or (b :: rest) pos) fb) : PEd X G W M .s (.BoolOp .Or (a :: b :: rest) pos) (eOr fa fb) := by
  refine PE.monoD (pe_or ha hb) fun σ H Q ⟨F, Γ, E, p⟩ => ⟨F, Γ, E, PostE.then (Q' := Q) p (fun d v F1 H1 _ t1 o1 p1 => ?_) E.sub⟩
  cases d with
  | bl b =>
    refine ⟨b, o1.bor.bl, ?_⟩
    cases b with
    | true =>
      rw [if_pos rfl]
      exact p1 _ F1 H1 (.refl t1.sub) (.bl true)
    | false =>
      rw [if_neg Bool.false_ne_true]
      exact ⟨F1, Γ, E.on t1, p1⟩
  | _ => exact (show False from p1).elim
theorem d_not (ha : PEd X G W M m1 a fa) : PEd X G W M .s (.UnaryOp .Not a pos) (eNot fa) := by
  refine PE.monoD (pe_not ha) fun σ H Q ⟨F, Γ, E, p⟩ => ⟨F, Γ, E, PostE.then (Q' := Q) p (fun d v F1 H1 _ t1 o1 p1 => ?_) E.sub⟩
  cases d with
  | bl b => exact ⟨b, o1.bor.bl, p1 _ F1 H1 (.refl t1.sub) (.bl _)⟩
  | _ => exact (show False from p1).elim
def eIf (t : BF) (fa fb : EF) : EF := fun Γ => (t Γ).bind fun b => if b = true then fa Γ else fb Γ
theorem d_ifExp {t : BF} (hc : PTd X G W M c t) (ha : PEd X G W M m a fa) (hb : PEd X G W M m b fb) : PEd X G W M m (.IfExp c a b pos) (eIf t fa fb) := by
  refine PE.monoD (pe_ifExp hc ha hb) fun σ H Q ⟨F, Γ, E, p⟩ => ⟨F, Γ, E, ?_⟩
  unfold eIf at p
  revert p
  cases t Γ with
  | bad => exact fun z => z
  | err c => exact fun z => z
  | ok d =>
    intro p F1 H1 t1
    have p' : PostE G W m F H σ Q (if d = true then fa Γ else fb Γ) := p
    have on : ∀ {r : R D}, PostE G W m F H σ Q r → PostE G W m F1 H1 σ Q r := fun {r} h => by
      cases r with
      | bad => exact h
      | err c => exact fun F2 H2 t2 => h F2 H2 (t1.trans t2)
      | ok d2 => exact fun w F2 H2 t2 o2 => h w F2 H2 (t1.trans t2) (o2.back t1)
    cases d with
    | true =>
      rw [if_pos rfl] at p' ⊢
      exact ⟨F1, Γ, E.on t1, on p'⟩
    | false =>
      rw [if_neg Bool.false_ne_true] at p' ⊢
      exact ⟨F1, Γ, E.on t1, on p'⟩
end
end L2.DL
set_option Elab.async false
set_option linter.all false
set_option maxRecDepth 100000
set_option autoImplicit false
/-! DC: statements, loops, comprehensions, calls. -/
namespace L2.DL
open PySem PySem.Spec PyProof.Rows

inductive Fl where
  | nx (Γ : List D) | rt (d : D) | bk (Γ : List D) | ct (Γ : List D)
abbrev SF := List D → R Fl
/-- what is asked behind a statement: M' the modes behind it, Ml those at a loop's break and continue, mr the mode of what is returned -/
def PostS (G : Gx) (W : WX) (M' Ml : List Md) (mr : Md) (F : Fz) (C : Ends) : R Fl → Prop
  | .ok (.nx Γ') => ∀ σ' F' H', FLe F F' → EnvOk G M' F' H' σ' Γ' → C.nx σ' H'
  | .ok (.bk Γ') => ∀ σ' F' H', FLe F F' → EnvOk G Ml F' H' σ' Γ' → C.bk σ' H'
  | .ok (.ct Γ') => ∀ σ' F' H', FLe F F' → EnvOk G Ml F' H' σ' Γ' → C.ct σ' H'
  | .ok (.rt d) => ∀ v F' H', Step G.io G.F0 G.H0 F' H' → VOk G.K mr F' G.H0 H' d v → C.rt v H'
  | .err c => ∀ σ' F' H', Step G.io G.F0 G.H0 F' H' → W (.ref (G.cls c)) none σ' H'
  | .bad => False
def rdS (G : Gx) (W : WX) (M M' Ml : List Md) (mr : Md) (f : SF) : TS := fun C σ H => ∃ F Γ, EnvOk G M F H σ Γ ∧ PostS G W M' Ml mr F C (f Γ)
abbrev PSd (X : Cx) (G : Gx) (W : WX) (M M' Ml : List Md) (mr : Md) (st : Stmt) (f : SF) : Prop := PS X st (rdS G W M M' Ml mr f)
abbrev PSsd (X : Cx) (G : Gx) (W : WX) (M M' Ml : List Md) (mr : Md) (st : List Stmt) (f : SF) : Prop := PSs X st (rdS G W M M' Ml mr f)
theorem PS.monoD {X : Cx} {e : Stmt} {t t' : TS} (h : PS X e t) (i : ∀ C σ H, t' C σ H → t C σ H) : PS X e t' := ⟨fun pins s σ H C I q => h.run pins s σ H C I (i C σ H q)⟩
theorem PSs.monoD {X : Cx} {e : List Stmt} {t t' : TS} (h : PSs X e t) (i : ∀ C σ H, t' C σ H → t C σ H) : PSs X e t' := ⟨fun pins s σ H C I q => h.run pins s σ H C I (i C σ H q)⟩
section
variable {X : Cx} {G : Gx} {W : WX} {M M1 M2 Ml : List Md} {m m1 m2 mr : Md} {e a b c : Expr} {f fa fb : EF} {g g1 g2 : SF} {pos : Pos} {st : Stmt} {sts : List Stmt}
theorem PostS.le {F F' : Fz} {C : Ends} {r : R Fl} (l : FLe F F') (h : PostS G W M Ml mr F C r) : PostS G W M Ml mr F' C r := by
  cases r with
  | bad => exact h
  | err c => exact h
  | ok fl =>
    cases fl with
    | nx Γ => exact fun σ' F2 H' l2 E => h σ' F2 H' (l.trans l2) E
    | bk Γ => exact fun σ' F2 H' l2 E => h σ' F2 H' (l.trans l2) E
    | ct Γ => exact fun σ' F2 H' l2 E => h σ' F2 H' (l.trans l2) E
    | rt d => exact h
/-- the answer of an expression, within a statement -/
theorem post_se {F : Fz} {H : Hp} {σ : St} {Γ : List D} {C : Ends} {Q : VK} {r : R D} {k : D → R Fl} (E : EnvOk G M F H σ Γ) (h : PostS G W M2 Ml mr F C (r.bind k))
    (ok : ∀ d v F' H', r = .ok d → Step S0 F H F' H' → VOk G.K m F' H H' d v → PostS G W M2 Ml mr F' C (k d) → Q v H') : PostE G W m F H σ Q r := by
  cases r with
  | bad => exact h
  | err c => exact fun F' H' t => h σ F' H' (E.step.trans t.any)
  | ok d => exact fun v F' H' t o => ok d v F' H' rfl t o (PostS.le (t.le E.sub) h)
theorem post_sb {F : Fz} {H : Hp} {σ : St} {Γ : List D} {C : Ends} {Q : Bool → Hp → Prop} {r : R Bool} {k : Bool → R Fl} (E : EnvOk G M F H σ Γ) (h : PostS G W M2 Ml mr F C (r.bind k))
    (ok : ∀ d F' H', r = .ok d → Step S0 F H F' H' → PostS G W M2 Ml mr F' C (k d) → Q d H') : PostB G W F H σ Q r := by
  cases r with
  | bad => exact h
  | err c => exact fun F' H' t => h σ F' H' (E.step.trans t.any)
  | ok d => exact fun F' H' t => ok d F' H' rfl t (PostS.le (t.le E.sub) h)

/-! ### blocks -/
def sNil : SF := fun Γ => .ok (.nx Γ)
def sSeq (g1 g2 : SF) : SF := fun Γ => (g1 Γ).bind fun fl => match fl with
  | .nx Γ' => g2 Γ'
  | .rt d => .ok (.rt d)
  | .bk Γ' => .ok (.bk Γ')
  | .ct Γ' => .ok (.ct Γ')
theorem ds_nil : PSsd X G W M M Ml mr [] sNil := PSs.monoD pss_nil fun C σ H ⟨F, Γ, E, p⟩ => p σ F H (.refl F) E
theorem ds_cons (h1 : PSd X G W M M1 Ml mr st g1) (h2 : PSsd X G W M1 M2 Ml mr sts g2) : PSsd X G W M M2 Ml mr (st :: sts) (sSeq g1 g2) := by
  refine PSs.monoD (pss_cons h1 h2) fun C σ H ⟨F, Γ, E, p⟩ => ⟨F, Γ, E, ?_⟩
  unfold sSeq at p
  revert p
  cases g1 Γ with
  | bad => exact fun z => z
  | err c => exact fun z => z
  | ok fl =>
    cases fl with
    | nx Γ' => exact fun z σ' F' H' l E' => ⟨F', Γ', E', PostS.le l z⟩
    | rt d => exact fun z => z
    | bk Γ' => exact fun z => z
    | ct Γ' => exact fun z => z
theorem ds_one (h1 : PSd X G W M M1 Ml mr st g1) : PSsd X G W M M1 Ml mr [st] g1 := pss_one h1
/-- what is never reached -/
theorem ds_bad : PSsd X G W M M2 Ml mr sts (fun _ => .bad) := PSs.monoD pss_never fun C σ H ⟨F, Γ, E, p⟩ => p
theorem d_sbad : PSd X G W M M2 Ml mr st (fun _ => .bad) := PS.monoD ps_never fun C σ H ⟨F, Γ, E, p⟩ => p

/-! ### slots change -/
theorem getD_set {σ : St} {i j : Nat} {o : Option V} : (σ.set i o).getD j none = if i = j ∧ i < σ.length then o else σ.getD j none := by
  rw [List.getD_eq_getElem?_getD, List.getD_eq_getElem?_getD, List.getElem?_set]
  by_cases h : i = j
  · subst h
    by_cases h2 : i < σ.length
    · rw [if_pos rfl, if_pos h2, if_pos ⟨rfl, h2⟩]
      rfl
    · rw [if_pos rfl, if_neg h2, if_neg (fun z => h2 z.2), List.getElem?_eq_none (Nat.le_of_not_lt h2)]
  · rw [if_neg h, if_neg (fun z => h z.1)]
theorem getSet {α : Type} {l : List α} {i j : Nat} {x y : α} (h : (l.set i x)[j]? = some y) : (i = j ∧ y = x) ∨ (i ≠ j ∧ l[j]? = some y) := by
  rw [List.getElem?_set] at h
  by_cases e : i = j
  · rw [if_pos e] at h
    split at h
    · exact .inl ⟨e, (Option.some.inj h).symm⟩
    · cases h
  · rw [if_neg e] at h
    exact .inr ⟨e, h⟩
/-- an owned address is not one that was not there before -/
theorem own_there {F : Fz} {H : Hp} {d : D} {o : Option V} {a : Addr} {n : Md} (h : SlotOk G F H n d o) (hn : n.own = true) (e : o = some (.ref a)) : H a ≠ none := by
  cases n with
  | l =>
    obtain ⟨b, e2, _, _, _, vs, _, _, h, _⟩ := h
    rw [e] at e2
    cases e2
    rw [h]
    exact Option.some_ne_none _
  | i =>
    obtain ⟨b, e2, _, _, _, vs, _, _, h, _⟩ := h
    rw [e] at e2
    cases e2
    rw [h]
    exact Option.some_ne_none _
  | k =>
    obtain ⟨b, e2, _, _, _, vs, _, _, h, _⟩ := h
    rw [e] at e2
    cases e2
    rw [h]
    exact Option.some_ne_none _
  | u => cases hn
  | s => cases hn
  | b => cases hn
  | p => cases hn
/-- a slot is filled: with frozen data, or with a new list or dict -/
theorem EnvOk.set {F F' : Fz} {H H' : Hp} {σ : St} {Γ : List D} {d : D} {v : V} {i : Nat} (E : EnvOk G M F H σ Γ) (t : Step S0 F H F' H') (o : VOk G.K m F' H H' d v) (hm : m = .s ∨ m = .l ∨ m = .k) :
    EnvOk G (M.set i m) F' H' (σ.set i (some v)) (Γ.set i d) := by
  have E' := E.on t
  have lt : ∀ {j n}, M[j]? = some n → j < σ.length := fun {j n} h => by
    rw [← E.lenM]
    exact (List.getElem?_eq_some_iff.mp h).1
  have hH0 : ∀ a, H a = none → G.H0 a = none := fun a e => by
    cases q : G.H0 a with
    | none => rfl
    | some o => exact absurd e (E.step.there a (by rw [q]; exact Option.some_ne_none _))
  refine ⟨E'.step, by simpa using E.lenM, by simpa using E.lenG, fun j n x h1 h2 => ?_, fun j1 j2 n1 n2 a h1 h2 o1 o2 e1 e2 => ?_⟩
  · rw [getD_set]
    rcases getSet h1 with ⟨rfl, rfl⟩ | ⟨ne, h1⟩
    · have hi : i < M.length := by
        have := (List.getElem?_eq_some_iff.mp h1).1
        simpa using this
      rcases getSet h2 with ⟨_, rfl⟩ | ⟨ne, _⟩
      · rw [if_pos ⟨rfl, by rw [← E.lenM]; exact hi⟩]
        rcases hm with rfl | rfl | rfl
        · exact ⟨v, rfl, o⟩
        · obtain ⟨a, rfl, h0, ow⟩ := o
          exact ⟨a, rfl, hH0 a h0, ow⟩
        · obtain ⟨a, rfl, h0, ow⟩ := o
          exact ⟨a, rfl, hH0 a h0, ow⟩
      · exact absurd rfl ne
    · rw [if_neg (fun z => ne z.1)]
      rcases getSet h2 with ⟨z, _⟩ | ⟨_, h2⟩
      · exact absurd z ne
      · exact E'.slot j n x h1 h2
  · rw [getD_set] at e1 e2
    have new : ∀ j n, i ≠ j → M[j]? = some n → n.own = true → σ.getD j none = some (.ref a) → m.own = true → v = .ref a → False := fun j n ne hj on ej om ev => by
      have hj2 : j < Γ.length := by rw [E.lenG]; exact lt hj
      have so := E.slot j n _ hj (List.getElem?_eq_getElem hj2)
      have hw := own_there so on ej
      rcases hm with rfl | rfl | rfl
      · cases om
      · obtain ⟨b, e, h0, _⟩ := o
        rw [ev] at e
        cases e
        exact hw h0
      · obtain ⟨b, e, h0, _⟩ := o
        rw [ev] at e
        cases e
        exact hw h0
    rcases getSet h1 with ⟨q1, w1⟩ | ⟨ne1, k1⟩
    · rcases getSet h2 with ⟨q2, w2⟩ | ⟨ne2, k2⟩
      · exact q1.symm.trans q2
      · rw [if_neg (fun z => ne2 z.1)] at e2
        subst q1 w1
        split at e1
        · exact (new j2 n2 ne2 k2 o2 e2 o1 (Option.some.inj e1)).elim
        · rename_i hh
          have hi : i < M.length := by
            have := (List.getElem?_eq_some_iff.mp h1).1
            simpa using this
          exact absurd ⟨rfl, by rw [← E.lenM]; exact hi⟩ hh
    · rw [if_neg (fun z => ne1 z.1)] at e1
      rcases getSet h2 with ⟨q2, w2⟩ | ⟨ne2, k2⟩
      · subst q2 w2
        split at e2
        · exact (new j1 n1 ne1 k1 o1 e1 o2 (Option.some.inj e2)).elim
        · rename_i hh
          have hi : i < M.length := by
            have := (List.getElem?_eq_some_iff.mp h2).1
            simpa using this
          exact absurd ⟨rfl, by rw [← E.lenM]; exact hi⟩ hh
      · rw [if_neg (fun z => ne2 z.1)] at e2
        exact E.disj j1 j2 n1 n2 a k1 k2 o1 o2 e1 e2
/-- a slot's own object is written -/
theorem EnvOk.write {F : Fz} {H : Hp} {σ : St} {Γ : List D} {d : D} {a : Addr} {i : Nat} {o : HO} {n : Md} (E : EnvOk G M F H σ Γ) (hi : M[i]? = some n) (hn : n.own = true) (ea : σ.getD i none = some (.ref a)) (hd : Γ[i]? ≠ none)
    (new : ∀ H', H' a = some o → SlotOk G F H' n d (some (.ref a))) : EnvOk G M F (upd H a o) σ (Γ.set i d) := by
  have hg : i < Γ.length := by
    cases q : Γ[i]? with
    | none => exact absurd q hd
    | some x => exact (List.getElem?_eq_some_iff.mp q).1
  have so := E.slot i n _ hi (List.getElem?_eq_getElem hg)
  have there := own_there so hn ea
  have fr : (G.H0 a = none ∨ G.io a) ∧ F.ex a = none ∧ F.iv a = none := by
    cases n with
    | l =>
      obtain ⟨b, e2, h0, x1, x2, _⟩ := so
      rw [ea] at e2
      cases e2
      exact ⟨.inl h0, x1, x2⟩
    | i =>
      obtain ⟨b, e2, h0, x1, x2, _⟩ := so
      rw [ea] at e2
      cases e2
      exact ⟨.inr h0, x1, x2⟩
    | k =>
      obtain ⟨b, e2, h0, x1, x2, _⟩ := so
      rw [ea] at e2
      cases e2
      exact ⟨.inl h0, x1, x2⟩
    | u => cases hn
    | s => cases hn
    | b => cases hn
    | p => cases hn
  refine ⟨E.step.write fr.1 there fr.2.1 fr.2.2, E.lenM, by simpa using E.lenG, fun j m x h1 h2 => ?_, E.disj⟩
  rcases getSet h2 with ⟨rfl, rfl⟩ | ⟨ne, h2⟩
  · rw [hi] at h1
    cases h1
    rw [ea]
    exact new _ upd_same
  · have sj := E.slot j m x h1 h2
    have away : ∀ b, σ.getD j none = some (.ref b) → m.own = true → b ≠ a := fun b eb hm z => by
      subst z
      exact ne (E.disj i j n m b hi h1 hn hm ea eb)
    cases m with
    | u => trivial
    | b =>
      obtain ⟨v, e, q⟩ := sj
      refine ⟨v, e, ?_⟩
      rcases q with q | ⟨b, e, h0, hio, q⟩
      · exact .inl q
      · have nb : b ≠ a := fun z => by
          subst z
          rcases fr.1 with z | z
          · exact h0 z
          · exact hio z
        refine .inr ⟨b, e, h0, hio, ?_⟩
        rcases q with ⟨x1, x2, vs, ds, rfl, h3, h4⟩ | ⟨x1, x2, vs, ds, rfl, h3, h4⟩
        · exact .inl ⟨x1, x2, vs, ds, rfl, by rw [upd_ne nb]; exact h3, h4⟩
        · exact .inr ⟨x1, x2, vs, ds, rfl, by rw [upd_ne nb]; exact h3, h4⟩
    | s => exact sj
    | p => exact sj
    | l =>
      obtain ⟨b, e2, h0, x1, x2, vs, ds, rfl, h3, h4⟩ := sj
      exact ⟨b, e2, h0, x1, x2, vs, ds, rfl, by rw [upd_ne (away b e2 rfl)]; exact h3, h4⟩
    | i =>
      obtain ⟨b, e2, h0, x1, x2, vs, ds, rfl, h3, h4⟩ := sj
      exact ⟨b, e2, h0, x1, x2, vs, ds, rfl, by rw [upd_ne (away b e2 rfl)]; exact h3, h4⟩
    | k =>
      obtain ⟨b, e2, h0, x1, x2, vs, ds, rfl, h3, h4⟩ := sj
      exact ⟨b, e2, h0, x1, x2, vs, ds, rfl, by rw [upd_ne (away b e2 rfl)]; exact h3, h4⟩
end
end L2.DL
set_option Elab.async false
set_option linter.all false
set_option maxRecDepth 100000
set_option autoImplicit false
/-! DD: the rules for statements, loops. -/
namespace L2.DL
open PySem PySem.Spec PyProof.Rows
section
variable {X : Cx} {G : Gx} {W : WX} {M M1 M2 Ml : List Md} {m m1 m2 mr : Md} {e a b c : Expr} {f fa fb fi fv : EF} {g g1 g2 : SF} {pos tpos : Pos} {st : Stmt} {sts : List Stmt}

/-! ### modes given up: a list or dict of its own is frozen, a slot is forgotten -/
def coOk1 : Md → Md → Bool
  | _, .u => true
  | .l, .s => true
  | .k, .s => true
  | .s, .b => true
  | a, b => a == b
def coOk : List Md → List Md → Bool
  | [], [] => true
  | a :: as, b :: bs => coOk1 a b && coOk as bs
  | _, _ => false
theorem coOk_len : ∀ {M M2 : List Md}, coOk M M2 = true → M.length = M2.length
  | [], [], _ => rfl
  | a :: as, b :: bs, h => by
    unfold coOk at h
    rw [Bool.and_eq_true] at h
    simp [coOk_len h.2]
  | [], _ :: _, h => by cases h
  | _ :: _, [], h => by cases h
theorem coOk_get : ∀ {M M2 : List Md} {i : Nat} {n : Md}, coOk M M2 = true → M2[i]? = some n → ∃ m, M[i]? = some m ∧ coOk1 m n = true
  | [], [], _, _, _, h => by simp at h
  | a :: as, b :: bs, 0, n, h, h2 => by
    unfold coOk at h
    rw [Bool.and_eq_true] at h
    simp at h2
    subst h2
    exact ⟨a, rfl, h.1⟩
  | a :: as, b :: bs, i + 1, n, h, h2 => by
    unfold coOk at h
    rw [Bool.and_eq_true] at h
    obtain ⟨m, h3, h4⟩ := coOk_get (i := i) h.2 (by simpa using h2)
    exact ⟨m, by simpa using h3, h4⟩
  | [], _ :: _, _, _, h, _ => by cases h
  | _ :: _, [], _, _, h, _ => by cases h
open Classical in
/-- all that is to be frozen -/
noncomputable def Fz.more (F : Fz) (H : Hp) (T : Addr → Prop) (h : ∀ a, T a → F.ex a = none) : Fz where
  ex := fun b => if T b then H b else F.ex b
  iv := F.iv
  mono := F.mono
open Classical in
theorem more_in {F : Fz} {H : Hp} {T : Addr → Prop} {h : ∀ a, T a → F.ex a = none} {b : Addr} (t : T b) : (F.more H T h).ex b = H b := if_pos t
open Classical in
theorem more_out {F : Fz} {H : Hp} {T : Addr → Prop} {h : ∀ a, T a → F.ex a = none} {b : Addr} (t : ¬ T b) : (F.more H T h).ex b = F.ex b := if_neg t
theorem le_more {F : Fz} {H : Hp} {T : Addr → Prop} {h : ∀ a, T a → F.ex a = none} : FLe F (F.more H T h) := ⟨fun b o e => by
  rw [more_out fun t => by rw [h b t] at e; cases e]
  exact e, fun _ _ h => h⟩
theorem Step.more {S : Addr → Prop} {F0 F : Fz} {H0 H : Hp} {T : Addr → Prop} {h : ∀ a, T a → F.ex a = none} (s : Step S F0 H0 F H) (h0 : ∀ a, T a → H0 a = none) : Step S F0 H0 (F.more H T h) H := by
  refine ⟨fun a n => ?_, s.iv, ⟨fun a o e => ?_, fun a φ e => ?_⟩, s.keep, s.there⟩
  · rw [more_out fun t => n (h0 a t)]
    exact s.ex a n
  · by_cases t : T a
    · rw [more_in t] at e
      exact e
    · rw [more_out t] at e
      exact s.sub.ex a o e
  · obtain ⟨o, q, z⟩ := s.sub.iv a φ e
    exact ⟨o, q, F.mono a φ e _ _ o le_more.ex z⟩
theorem EnvOk.co {F : Fz} {H : Hp} {σ : St} {Γ : List D} (E : EnvOk G M F H σ Γ) (h : coOk M M2 = true) : ∃ F', FLe F F' ∧ EnvOk G M2 F' H σ Γ := by
  have hT : ∀ a, (∃ i n, M[i]? = some n ∧ n.own = true ∧ M2[i]? = some .s ∧ σ.getD i none = some (.ref a)) → F.ex a = none ∧ G.H0 a = none := by
    rintro a ⟨i, n, h1, h2, h3, h4⟩
    obtain ⟨n', h1', h5⟩ := coOk_get h h3
    rw [h1] at h1'
    cases h1'
    have hl : i < Γ.length := by
      rw [E.lenG, ← E.lenM]
      exact (List.getElem?_eq_some_iff.mp h1).1
    have so := E.slot i n _ h1 (List.getElem?_eq_getElem hl)
    cases n with
    | l =>
      obtain ⟨b, e2, h0, x1, _⟩ := so
      rw [h4] at e2
      cases e2
      exact ⟨x1, h0⟩
    | k =>
      obtain ⟨b, e2, h0, x1, _⟩ := so
      rw [h4] at e2
      cases e2
      exact ⟨x1, h0⟩
    | i => cases h5
    | u => cases h2
    | s => cases h2
    | b => cases h2
    | p => cases h2
  refine ⟨F.more H (fun a => ∃ i n, M[i]? = some n ∧ n.own = true ∧ M2[i]? = some .s ∧ σ.getD i none = some (.ref a)) fun a t => (hT a t).1, le_more, E.step.more fun a t => (hT a t).2, (coOk_len h).symm.trans E.lenM, E.lenG, fun i n d h1 h2 => ?_, fun i j n1 n2 a h1 h2 o1 o2 e1 e2 => ?_⟩
  · obtain ⟨n', h1', h5⟩ := coOk_get h h1
    have so := E.slot i n' d h1' h2
    -- an owned slot that stays owned is not frozen
    have stay : ∀ b, σ.getD i none = some (.ref b) → n'.own = true → n ≠ .s → ¬ ∃ j n, M[j]? = some n ∧ n.own = true ∧ M2[j]? = some .s ∧ σ.getD j none = some (.ref b) := by
      rintro b eb on ns ⟨j, n3, h3, h4, h5, h6⟩
      have e := E.disj i j n' n3 b h1' h3 on h4 eb h6
      subst e
      rw [h1] at h5
      cases h5
      exact ns rfl
    cases n with
    | u => trivial
    | s =>
      cases n' with
      | u => cases h5
      | b => cases h5
      | i => cases h5
      | p => cases h5
      | s =>
        obtain ⟨v, e, q⟩ := so
        exact ⟨v, e, q.ext le_more.ex⟩
      | l =>
        obtain ⟨b, e2, h0, x1, x2, vs, ds, rfl, h3, h4⟩ := so
        exact ⟨_, e2, .lst (by rw [more_in ⟨i, .l, h1', rfl, h1, e2⟩]; exact h3) (h4.ext le_more.ex)⟩
      | k =>
        obtain ⟨b, e2, h0, x1, x2, vs, ds, rfl, h3, h4⟩ := so
        exact ⟨_, e2, .dct (.inl (by rw [more_in ⟨i, .k, h1', rfl, h1, e2⟩]; exact h3)) (h4.ext le_more.ex)⟩
    | b =>
      cases n' with
      | b =>
        obtain ⟨v, e, q⟩ := so
        refine ⟨v, e, ?_⟩
        rcases q with q | ⟨b, e3, h0, hio, q⟩
        · exact .inl (q.ext le_more.ex)
        · have nt := fun z => h0 (hT b z).2
          refine .inr ⟨b, e3, h0, hio, ?_⟩
          rcases q with ⟨x1, x2, vs, ds, rfl, h3, h4⟩ | ⟨x1, x2, vs, ds, rfl, h3, h4⟩
          · exact .inl ⟨by rw [more_out nt]; exact x1, x2, vs, ds, rfl, h3, h4.ext le_more.ex⟩
          · exact .inr ⟨by rw [more_out nt]; exact x1, x2, vs, ds, rfl, h3, h4.ext le_more.ex⟩
      | u => cases h5
      | s =>
        obtain ⟨v, e, q⟩ := so
        exact ⟨v, e, .inl (q.ext le_more.ex)⟩
      | l => cases h5
      | i => cases h5
      | k => cases h5
      | p => cases h5
    | l =>
      cases n' with
      | l =>
        obtain ⟨b, e2, h0, x1, x2, vs, ds, rfl, h3, h4⟩ := so
        exact ⟨b, e2, h0, by rw [more_out (stay b e2 rfl (by decide))]; exact x1, x2, vs, ds, rfl, h3, h4.ext le_more.ex⟩
      | u => cases h5
      | s => cases h5
      | b => cases h5
      | i => cases h5
      | k => cases h5
      | p => cases h5
    | i =>
      cases n' with
      | i =>
        obtain ⟨b, e2, h0, x1, x2, vs, ds, rfl, h3, h4⟩ := so
        exact ⟨b, e2, h0, by rw [more_out (stay b e2 rfl (by decide))]; exact x1, x2, vs, ds, rfl, h3, h4.ext le_more.ex⟩
      | u => cases h5
      | s => cases h5
      | b => cases h5
      | l => cases h5
      | k => cases h5
      | p => cases h5
    | k =>
      cases n' with
      | k =>
        obtain ⟨b, e2, h0, x1, x2, vs, ds, rfl, h3, h4⟩ := so
        exact ⟨b, e2, h0, by rw [more_out (stay b e2 rfl (by decide))]; exact x1, x2, vs, ds, rfl, h3, h4.ext le_more.ex⟩
      | u => cases h5
      | s => cases h5
      | b => cases h5
      | l => cases h5
      | i => cases h5
      | p => cases h5
    | p =>
      cases n' with
      | p => exact so
      | u => cases h5
      | s => cases h5
      | b => cases h5
      | l => cases h5
      | i => cases h5
      | k => cases h5
  · have own : ∀ {i : Nat} {n : Md}, M2[i]? = some n → n.own = true → M[i]? = some n := fun {i n} h1 o => by
      obtain ⟨m, h2, h3⟩ := coOk_get h h1
      cases n <;> cases m <;> first | exact h2 | (cases o; done) | (cases h3; done)
    exact E.disj i j n1 n2 a (own h1 o1) (own h2 o2) o1 o2 e1 e2
end
end L2.DL
set_option Elab.async false
set_option linter.all false
set_option maxRecDepth 100000
set_option autoImplicit false
/-! DE: the rules for statements, loops, comprehensions. -/
namespace L2.DL
open PySem PySem.Spec PyProof.Rows
section
variable {X : Cx} {G : Gx} {W : WX} {M M1 M2 Mt Ml : List Md} {m m1 m2 mr : Md} {e a b c : Expr} {f fa fb fi fv : EF} {g g1 g2 : SF} {pos tpos : Pos} {st : Stmt} {sts : List Stmt}

/-! ### modes given up, ahead of or behind a block -/
theorem ds_pre (h : PSsd X G W M1 M2 Ml mr sts g) (hc : coOk M M1 = true := by rfl) : PSsd X G W M M2 Ml mr sts g := by
  refine PSs.monoD h fun C σ H ⟨F, Γ, E, p⟩ => ?_
  obtain ⟨F', l, E'⟩ := E.co hc
  exact ⟨F', Γ, E', PostS.le l p⟩
theorem d_pre (h : PSd X G W M1 M2 Ml mr st g) (hc : coOk M M1 = true := by rfl) : PSd X G W M M2 Ml mr st g := by
  refine PS.monoD h fun C σ H ⟨F, Γ, E, p⟩ => ?_
  obtain ⟨F', l, E'⟩ := E.co hc
  exact ⟨F', Γ, E', PostS.le l p⟩
theorem post_co {F : Fz} {C : Ends} {r : R Fl} (hc : coOk M1 M2 = true) (h : PostS G W M2 Ml mr F C r) : PostS G W M1 Ml mr F C r := by
  cases r with
  | bad => exact h
  | err c => exact h
  | ok fl =>
    cases fl with
    | nx Γ =>
      intro σ' F' H' l E
      obtain ⟨F2, l2, E2⟩ := E.co hc
      exact h σ' F2 H' (l.trans l2) E2
    | bk Γ => exact h
    | ct Γ => exact h
    | rt d => exact h
theorem ds_post (h : PSsd X G W M M1 Ml mr sts g) (hc : coOk M1 M2 = true := by rfl) : PSsd X G W M M2 Ml mr sts g :=
  PSs.monoD h fun C σ H ⟨F, Γ, E, p⟩ => ⟨F, Γ, E, post_co hc p⟩

/-! ### simple statements -/
theorem d_pass : PSd X G W M M Ml mr (.Pass pos) sNil := PS.monoD ps_pass fun C σ H ⟨F, Γ, E, p⟩ => p σ F H (.refl F) E
def sBk : SF := fun Γ => .ok (.bk Γ)
def sCt : SF := fun Γ => .ok (.ct Γ)
theorem d_break (hc : coOk M Ml = true := by rfl) : PSd X G W M M2 Ml mr (.Break pos) sBk := PS.monoD ps_break fun C σ H ⟨F, Γ, E, p⟩ => by
  obtain ⟨F', l, E'⟩ := E.co hc
  exact p σ F' H l E'
theorem d_continue (hc : coOk M Ml = true := by rfl) : PSd X G W M M2 Ml mr (.Continue pos) sCt := PS.monoD ps_continue fun C σ H ⟨F, Γ, E, p⟩ => by
  obtain ⟨F', l, E'⟩ := E.co hc
  exact p σ F' H l E'
def sExp (f : EF) : SF := fun Γ => (f Γ).bind fun _ => .ok (.nx Γ)
theorem d_expr (h : PEd X G W M m e f) (hs : swapsWith e none pos.line X.env = pure false := by rfl) : PSd X G W M M Ml mr (.Expr e pos) (sExp f) :=
  PS.monoD (ps_expr h hs) fun C σ H ⟨F, Γ, E, p⟩ => ⟨F, Γ, E, post_se E p fun d v F1 H1 _ t o q => q σ F1 H1 (.refl F1) (E.on t)⟩
theorem d_doc {x j pos'} : PSd X G W M M Ml mr (.Expr (.Constant (.str x) j pos) pos') sNil := PS.monoD ps_doc fun C σ H ⟨F, Γ, E, p⟩ => p σ F H (.refl F) E
def sAsg (i : Nat) (f : EF) : SF := fun Γ => (f Γ).bind fun d => .ok (.nx (Γ.set i d))
theorem d_asg {i : Nat} {x : Str} {pos' : Pos} (h : PEd X G W M m e f) (cx : CxOk X G W) (hM : M1 = M.set i m := by rfl) (hm : m = .s ∨ m = .l ∨ m = .k := by decide) (hi : X.N[i]? = some x := by rfl) (hx : Loc X.env.scope x := by first | exact .inl rfl | exact .inr rfl)
    (hs : swapsWith e (some (.Name x pos')) pos.line X.env = pure false := by rfl) (hf : X.fn x = true ∨ X.env.scope.names.lookup x = some .local := by first | exact .inl rfl | exact .inr rfl) : PSd X G W M M1 Ml mr (.Assign [.Name x pos'] e pos) (sAsg i f) := by
  subst hM
  exact PS.monoD (ps_set cx.nd hi hx h hs hf) fun C σ H ⟨F, Γ, E, p⟩ => ⟨F, Γ, E, post_se E p fun d v F1 H1 _ t o q => q _ F1 H1 (.refl F1) (E.set t o hm)⟩
/-- y = x, the list goes over -/
def sMove (i j : Nat) : SF := fun Γ => match Γ[j]? with
  | some d => .ok (.nx (Γ.set i d))
  | none => .bad
/-- return -/
def sRet (f : EF) : SF := fun Γ => (f Γ).bind fun d => .ok (.rt d)
theorem d_ret (h : PEd X G W M mr e f) : PSd X G W M M2 Ml mr (.Return (some e) pos) (sRet f) :=
  PS.monoD (ps_ret h) fun C σ H ⟨F, Γ, E, p⟩ => ⟨F, Γ, E, post_se E p fun d v F1 H1 _ t o q => q v F1 H1 (E.step.trans t.any) (o.back E.step)⟩
theorem d_retN : PSd X G W M M2 Ml .s (.Return none pos) (fun _ => .ok (.rt .non)) :=
  PS.monoD ps_retN fun C σ H ⟨F, Γ, E, p⟩ => p .non F H E.step .non
/-- return of a list of its own -/
theorem d_retO (i : Nat) {x : Str} {pos' : Pos} (hm : M[i]? = some mr := by rfl) (ho : mr = .l ∨ mr = .k := by decide) (hN : X.N[i]? = some x := by rfl) (hv : Vis X.env.scope x := by first | exact Or.inl rfl | exact Or.inr (Or.inl rfl) | exact Or.inr (Or.inr rfl)) (hd : (x == ("__debug__" : Str)) = false := by decide)
    (hcd : (x == ("__classdict__" : Str)) = false := by decide) : PSd X G W M M2 Ml mr (.Return (some (.Name x pos')) pos) (sRet (eVar i)) := by
  refine PS.monoD (ps_ret (pe_var hN hv hd hcd)) fun C σ H ⟨F, Γ, E, p⟩ => ?_
  unfold sRet eVar at p
  cases q : Γ[i]? with
  | none => rw [q] at p; exact p.elim
  | some d =>
    rw [q] at p
    have so := E.slot i mr d hm q
    rcases ho with rfl | rfl
    · obtain ⟨a, ev, h0, dv⟩ := so
      exact ⟨_, slot_get ev, p _ F H E.step ⟨a, rfl, h0, dv⟩⟩
    · obtain ⟨a, ev, h0, dv⟩ := so
      exact ⟨_, slot_get ev, p _ F H E.step ⟨a, rfl, h0, dv⟩⟩
def sIf (t : BF) (g1 g2 : SF) : SF := fun Γ => (t Γ).bind fun b => if b = true then g1 Γ else g2 Γ
theorem d_if {t : BF} {sa sb : List Stmt} (hc : PTd X G W M c t) (ha : PSsd X G W M M2 Ml mr sa g1) (hb : PSsd X G W M M2 Ml mr sb g2) : PSd X G W M M2 Ml mr (.If c sa sb pos) (sIf t g1 g2) := by
  refine PS.monoD (ps_if hc ha hb) fun C σ H ⟨F, Γ, E, p⟩ => ⟨F, Γ, E, post_sb E p fun b F1 H1 _ t q => ?_⟩
  cases b with
  | true =>
    rw [if_pos rfl] at q ⊢
    exact ⟨F1, Γ, E.on t, q⟩
  | false =>
    rw [if_neg Bool.false_ne_true] at q ⊢
    exact ⟨F1, Γ, E.on t, q⟩
theorem ip_of {op : Operator} {r : R2} (ho : OpR X (inplaceOp op) r) : PIp X op r := fun pins s σ H x y v u Q I rx ry h => ho pins s σ H x y v u Q I rx ry h
/-- x op= e -/
def sAug (i : Nat) (g : D → D → Option D) (f : EF) : SF := fun Γ => (eVar i Γ).bind fun x => (f Γ).bind fun y => (R.of (g x y)).bind fun z => .ok (.nx (Γ.set i z))
theorem d_aug {i : Nat} {x : Str} {pos' : Pos} {op : Operator} {gg : D → D → Option D} (ho : OpR X (inplaceOp op) (rd2 G.K .s gg)) (h : PEd X G W M m e f) (cx : CxOk X G W) (hm : M[i]? = some .s := by rfl) (hi : X.N[i]? = some x := by rfl) (hx : Loc X.env.scope x := by first | exact .inl rfl | exact .inr rfl)
    (hf : X.fn x = true ∨ X.env.scope.names.lookup x = some .local := by first | exact .inl rfl | exact .inr rfl) : PSd X G W M M Ml mr (.AugAssign (.Name x pos') op e pos) (sAug i gg f) := by
  refine PS.monoD (ps_aug cx.nd hi hx h (ip_of ho) hf) fun C σ H ⟨F, Γ, E, p⟩ => ?_
  unfold sAug at p
  cases q : Γ[i]? with
  | none =>
    unfold eVar at p
    rw [q] at p
    exact p.elim
  | some d0 =>
    have ev : eVar i Γ = .ok d0 := by
      unfold eVar
      rw [q]
    rw [ev] at p
    obtain ⟨v0, e0, den0⟩ := E.slot i .s d0 hm q
    refine ⟨v0, slot_get e0, F, Γ, E, post_se E p fun d v F1 H1 _ t o q2 => ?_⟩
    cases z : gg d0 d with
    | none => rw [z] at q2; exact q2.elim
    | some w =>
      rw [z] at q2
      refine ⟨F1, d0, d, w, t.sub, .inl (den0.ext (t.le E.sub).ex), o.bor, z, fun v2 F2 H2 t2 o2 => ?_⟩
      have := E.set (i := i) (t.trans t2) (m := .s) (d := w) (v := v2) o2 (.inl rfl)
      have eM : M.set i .s = M := by
        apply List.ext_getElem?
        intro j
        rw [List.getElem?_set]
        by_cases hj : i = j
        · subst hj
          have := (List.getElem?_eq_some_iff.mp hm).1
          rw [if_pos rfl, if_pos this, hm]
        · rw [if_neg hj]
      rw [eM] at this
      exact q2 _ F2 H2 (t2.le t.sub) this

/-! ### targets -/
abbrev TF := D → List D → Option (List D)
abbrev TFs := List D → List D → Option (List D)
/-- what a target does: h gives the slots, is the slots that change -/
def rdG (G : Gx) (M M' : List Md) (is : List Nat) (h : TF) : TG := fun v σ H Q => ∃ F Γ d Γ', EnvOk G M F H σ Γ ∧ Den G.K F.ex d v ∧ h d Γ = some Γ' ∧
  ∀ σ', σ'.length = σ.length → (∀ k, k ∉ is → σ'[k]? = σ[k]?) → EnvOk G M' F H σ' Γ' → Q σ' H
def rdGs (G : Gx) (M M' : List Md) (is : List Nat) (h : TFs) : TGs := fun vs σ H Q => ∃ F Γ ds Γ', EnvOk G M F H σ Γ ∧ DenL G.K F.ex ds vs ∧ h ds Γ = some Γ' ∧
  ∀ σ', σ'.length = σ.length → (∀ k, k ∉ is → σ'[k]? = σ[k]?) → EnvOk G M' F H σ' Γ' → Q σ' H
abbrev PGd (X : Cx) (G : Gx) (M M' : List Md) (is : List Nat) (tg : Expr) (h : TF) : Prop := PG X tg (rdG G M M' is h)
theorem PG.monoD {e : Expr} {t t' : TG} (h : PG X e t) (i : ∀ v σ H Q, t' v σ H Q → t v σ H Q) : PG X e t' := ⟨fun pins s σ H v u Q I r q => h.run pins s σ H v u Q I r (i v σ H Q q)⟩
theorem PGs.monoD {e : List Expr} {t t' : TGs} (h : PGs X e t) (i : ∀ v σ H Q, t' v σ H Q → t v σ H Q) : PGs X e t' := ⟨fun pins s σ H v u Q I r q => h.run pins s σ H v u Q I r (i v σ H Q q)⟩
def gN (i : Nat) : TF := fun d Γ => some (Γ.set i d)
theorem dg_name {i : Nat} {x : Str} (hnd : X.N.Nodup) (hM : M1 = M.set i .s := by rfl) (hi : X.N[i]? = some x := by rfl) (hx : Loc X.env.scope x := by first | exact .inl rfl | exact .inr rfl) (hf : X.fn x = true ∨ X.env.scope.names.lookup x = some .local := by first | exact .inl rfl | exact .inr rfl) : PGd X G M M1 [i] (.Name x pos) (gN i) := by
  subst hM
  refine PG.monoD (pg_name hnd hi hx hf) fun v σ H Q ⟨F, Γ, d, Γ', E, dn, e, q⟩ => ?_
  cases e
  refine q _ (by simp) (fun k hk => ?_) (E.set (.refl E.sub) (m := .s) dn (.inl rfl))
  rw [List.getElem?_set_ne (fun z => hk (by simp [z]))]
def gsNil : TFs := fun ds Γ => match ds with
  | [] => some Γ
  | _ => none
def gsCons (h : TF) (hs : TFs) : TFs := fun ds Γ => match ds with
  | [] => none
  | d :: r => (h d Γ).bind fun Γ1 => hs r Γ1
theorem dgs_nil : PGs X [] (rdGs G M M [] gsNil) := by
  refine PGs.monoD pgs_nil fun vs σ H Q ⟨F, Γ, ds, Γ', E, dn, e, q⟩ => ?_
  cases dn with
  | nil =>
    cases e
    exact ⟨rfl, q σ rfl (fun _ _ => rfl) E⟩
  | cons _ _ => cases e
theorem dgs_cons {e : Expr} {es : List Expr} {i1 i2 : List Nat} {h : TF} {hs : TFs} (h1 : PGd X G M M1 i1 e h) (h2 : PGs X es (rdGs G M1 M2 i2 hs)) (ha : (assignEach (e :: es) X.env).map (·.2) = assign e X.env :: (assignEach es X.env).map (·.2) := by rfl) : PGs X (e :: es) (rdGs G M M2 (i1 ++ i2) (gsCons h hs)) := by
  refine PGs.monoD (pgs_cons h1 h2 ha) fun vs σ H Q ⟨F, Γ, ds, Γ', E, dn, ee, q⟩ => ?_
  cases dn with
  | nil => cases ee
  | @cons d v ds vs d1 dr =>
    refine ⟨v, vs, rfl, ?_⟩
    have ee' : (h d Γ).bind (fun Γ1 => hs ds Γ1) = some Γ' := ee
    cases z : h d Γ with
    | none => rw [z] at ee'; cases ee'
    | some Γ1 =>
      rw [z] at ee'
      refine ⟨F, Γ, d, Γ1, E, d1, z, fun σ' l k E' => ⟨F, Γ1, ds, Γ', E', dr, ee', fun σ2 l2 k2 E2 => q σ2 (l2.trans l) (fun j hj => ?_) E2⟩⟩
      rw [List.mem_append, not_or] at hj
      exact (k2 j hj.2).trans (k j hj.1)
def gT (hs : TFs) : TF := fun d Γ => match d with
  | .tup ds => hs ds Γ
  | _ => none
theorem dg_tup {es : List Expr} {k n : Nat} {is : List Nat} {hs : TFs} (hc : X.calm = true) (hK : X.K = G.K) (h : PGs X es (rdGs G M M1 is hs)) (hl : ∀ ds Γ Γ', hs ds Γ = some Γ' → ds.length = n) (hn : (assignEach es X.env).length = n := by rfl) (hst : (assignEach es X.env).findIdx? (·.1) = none := by rfl) : PGd X G M M1 is (.Tuple es k pos) (gT hs) := by
  refine PG.monoD (pg_tup hc h hn hst) fun v σ H Q ⟨F, Γ, d, Γ', E, dn, e, q⟩ => ?_
  cases d with
  | tup ds =>
    obtain ⟨a, vs, rfl, hT, dl⟩ := dn.tup'
    exact ⟨a, vs, rfl, by rw [hK]; exact sqT_ext E.sub.ex hT, dl.length.trans (hl ds Γ Γ' e), F, Γ, ds, Γ', E, dl, e, q⟩
  | _ => cases e
theorem gs_len0 : ∀ ds Γ Γ', gsNil ds Γ = some Γ' → ds.length = 0
  | [], _, _, _ => rfl
  | _ :: _, _, _, h => by cases h
theorem gs_lenS {n : Nat} {h : TF} {hs : TFs} (q : ∀ ds Γ Γ', hs ds Γ = some Γ' → ds.length = n) : ∀ ds Γ Γ', gsCons h hs ds Γ = some Γ' → ds.length = n + 1
  | [], _, _, e => by cases e
  | d :: r, Γ, Γ', e => by
    have e' : (h d Γ).bind (fun Γ1 => hs r Γ1) = some Γ' := e
    cases z : h d Γ with
    | none => rw [z] at e'; cases e'
    | some Γ1 =>
      rw [z] at e'
      simp [q r Γ1 Γ' e']
/-- a, b = e -/
def sAsgG (h : TF) (f : EF) : SF := fun Γ => (f Γ).bind fun d => (R.of (h d Γ)).bind fun Γ' => .ok (.nx Γ')
theorem d_asgG {tg : Expr} {is : List Nat} {h : TF} (he : PEd X G W M .s e f) (hg : PGd X G M M1 is tg h) (hs : swapsWithSole [tg] e pos.line X.env = pure false := by rfl) (hw : swappedStores [tg] e X.env = pure none := by rfl)
    (h1 : (assignEach [tg] X.env).map (·.2) = [assign tg X.env] := by rfl) : PSd X G W M M1 Ml mr (.Assign [tg] e pos) (sAsgG h f) := by
  refine PS.monoD (ps_asg he hg hs hw h1) fun C σ H ⟨F, Γ, E, p⟩ => ⟨F, Γ, E, post_se E p fun d v F1 H1 _ t o q => ?_⟩
  cases z : h d Γ with
  | none => rw [z] at q; exact q.elim
  | some Γ' =>
    rw [z] at q
    exact ⟨F1, Γ, d, Γ', E.on t, o, z, fun σ' l k E' => q σ' F1 H1 (.refl F1) E'⟩
/-- a, b = x, y -/
def sPar (i j : Nat) (fr : AF) : SF := fun Γ => (fr Γ).bind fun ds => match ds with
  | [x, y] => .ok (.nx ((Γ.set i x).set j y))
  | _ => .bad
theorem d_par {i j : Nat} {x y : Str} {px py pt : Pos} {kt k2 pt2} {fr : AF} (ha : PAd X G W M .s [a, b] fr) (cx : CxOk X G W) (hM : M1 = (M.set i .s).set j .s := by rfl) (hi : X.N[i]? = some x := by rfl) (hj : X.N[j]? = some y := by rfl) (hij : i ≠ j := by decide)
    (hx : X.env.scope.names.lookup x = some .local := by rfl) (hy : X.env.scope.names.lookup y = some .local := by rfl) (hw : swappedStores [.Tuple [.Name x px, .Name y py] kt pt] (.Tuple [a, b] k2 pt2) X.env = pure (some [x, y]) := by rfl)
    (hs : swapsWithSole [.Tuple [.Name x px, .Name y py] kt pt] (.Tuple [a, b] k2 pt2) pos.line X.env = pure false := by rfl) :
    PSd X G W M M1 Ml mr (.Assign [.Tuple [.Name x px, .Name y py] kt pt] (.Tuple [a, b] k2 pt2) pos) (sPar i j fr) := by
  subst hM
  refine PS.monoD (ps_par cx.calm cx.nd hi hj hij hx hy ha hw hs) fun C σ H ⟨F, Γ, E, p⟩ => ⟨F, Γ, E, ?_⟩
  unfold sPar at p
  cases z : fr Γ with
  | bad => rw [z] at p; exact p
  | err c => rw [z] at p; exact fun F' H' t => p σ F' H' (E.step.trans t.any)
  | ok ds =>
    rw [z] at p
    intro vs F1 H1 t o
    have od := o.den
    cases od with
    | nil => exact (show False from p).elim
    | cons d1 r1 =>
      cases r1 with
      | nil => exact (show False from p).elim
      | cons d2 r2 =>
        cases r2 with
        | nil =>
          refine ⟨_, _, rfl, ?_⟩
          have E1 := E.set (i := i) t (m := .s) d1 (.inl rfl)
          have E2 := E1.set (i := j) (.refl E1.sub) (m := .s) d2 (.inl rfl)
          exact (show PostS G W _ Ml mr F C (.ok (.nx _)) from p) _ F1 H1 (t.le E.sub) E2
        | cons _ _ => exact (show False from p).elim

/-! ### lists and dicts of the def's own -/
/-- x[i] = e -/
def sSetIx (i : Nat) (fi fv : EF) : SF := fun Γ => (fv Γ).bind fun v => (eVar i Γ).bind fun l => (fi Γ).bind fun k => match l, k with
  | .lst ds, .int k => match ixN ds.length k with
    | some j => .ok (.nx (Γ.set i (.lst (ds.set j v))))
    | none => .bad
  | _, _ => .bad
theorem set_same {α : Type} {M : List α} {i : Nat} {m : α} (hm : M[i]? = some m) : M.set i m = M := by
  apply List.ext_getElem?
  intro j
  rw [List.getElem?_set]
  by_cases hj : i = j
  · subst hj
    have := (List.getElem?_eq_some_iff.mp hm).1
    rw [if_pos rfl, if_pos this, hm]
  · rw [if_neg hj]
/-- what an own list's slot says -/
theorem own_lst {F : Fz} {H : Hp} {σ : St} {Γ : List D} {i : Nat} {n : Md} {d : D} (E : EnvOk G M F H σ Γ) (hm : M[i]? = some n) (hn : n = .l ∨ n = .i) (hd : Γ[i]? = some d) :
    ∃ a vs ds, σ.getD i none = some (.ref a) ∧ d = .lst ds ∧ H a = some (.lst vs) ∧ DenL G.K F.ex ds vs ∧ F.ex a = none ∧ F.iv a = none ∧ ∀ (F' : Fz) (ds' : List D) (vs' : List V) (H' : Hp), FLe F F' → F'.ex a = none → F'.iv a = none → DenL G.K F'.ex ds' vs' → H' a = some (.lst vs') → SlotOk G F' H' n (.lst ds') (some (.ref a)) := by
  have so := E.slot i n d hm hd
  rcases hn with rfl | rfl
  · obtain ⟨a, ea, h0, x1, x2, vs, ds, rfl, h3, h4⟩ := so
    exact ⟨a, vs, ds, ea, rfl, h3, h4, x1, x2, fun F' ds' vs' H' l y1 y2 q1 q2 => ⟨a, rfl, h0, y1, y2, vs', ds', rfl, q2, q1⟩⟩
  · obtain ⟨a, ea, h0, x1, x2, vs, ds, rfl, h3, h4⟩ := so
    exact ⟨a, vs, ds, ea, rfl, h3, h4, x1, x2, fun F' ds' vs' H' l y1 y2 q1 q2 => ⟨a, rfl, h0, y1, y2, vs', ds', rfl, q2, q1⟩⟩
theorem own_dct {F : Fz} {H : Hp} {σ : St} {Γ : List D} {i : Nat} {d : D} (E : EnvOk G M F H σ Γ) (hm : M[i]? = some .k) (hd : Γ[i]? = some d) :
    ∃ a vs ds, σ.getD i none = some (.ref a) ∧ d = .dct ds ∧ H a = some (.dK vs) ∧ DenK G.K F.ex ds vs ∧ F.ex a = none ∧ F.iv a = none ∧ ∀ (F' : Fz) (ds' : List (Key × D)) (vs' : List (Key × V)) (H' : Hp), FLe F F' → F'.ex a = none → F'.iv a = none → DenK G.K F'.ex ds' vs' → H' a = some (.dK vs') → SlotOk G F' H' .k (.dct ds') (some (.ref a)) := by
  obtain ⟨a, ea, h0, x1, x2, vs, ds, rfl, h3, h4⟩ := E.slot i .k d hm hd
  exact ⟨a, vs, ds, ea, rfl, h3, h4, x1, x2, fun F' ds' vs' H' l y1 y2 q1 q2 => ⟨a, rfl, h0, y1, y2, vs', ds', rfl, q2, q1⟩⟩
theorem d_setix {i : Nat} {x : Str} {px : Pos} {n : Md} (hv : PEd X G W M .s e fv) (hi : PEd X G W M m1 c fi) (hm : M[i]? = some n := by rfl) (hn : n = .l ∨ n = .i := by decide) (hN : X.N[i]? = some x := by rfl) (hvis : Vis X.env.scope x := by first | exact Or.inl rfl | exact Or.inr (Or.inl rfl) | exact Or.inr (Or.inr rfl)) (hd : (x == ("__debug__" : Str)) = false := by decide)
    (hcd : (x == ("__classdict__" : Str)) = false := by decide) (ha : ∀ v, assign (.Subscript (.Name x px) c tpos) X.env v = (do
      let ov ← holding [v] (eval (.Name x px) X.env)
      let iv ← holding [v, ov] (eval c X.env)
      standAt tpos
      holding [v, ov, iv] (setItem ov iv v)
      release [v, ov, iv] []) := by intro _; rfl) (hs : swapsWithSole [.Subscript (.Name x px) c tpos] e pos.line X.env = pure false := by rfl) (hw : swappedStores [.Subscript (.Name x px) c tpos] e X.env = pure none := by rfl)
    (h1 : (assignEach [.Subscript (.Name x px) c tpos] X.env).map (·.2) = [assign (.Subscript (.Name x px) c tpos) X.env] := by rfl) :
    PSd X G W M M Ml mr (.Assign [.Subscript (.Name x px) c tpos] e pos) (sSetIx i fi fv) := by
  refine PS.monoD (ps_asg hv (pg_sub (pe_var hN hvis hd hcd) hi set_list ha) hs hw h1) fun C σ H ⟨F, Γ, E, p⟩ => ⟨F, Γ, E, post_se E p fun v vv F1 H1 _ t o q => ?_⟩
  have E1 := E.on t
  cases z : Γ[i]? with
  | none =>
    unfold eVar at q
    rw [z] at q
    exact q.elim
  | some l =>
    have ev : eVar i Γ = .ok l := by
      unfold eVar
      rw [z]
    rw [ev] at q
    obtain ⟨A, vs, ds, ea, rfl, hH, dl, x1, x2, back⟩ := own_lst E1 hm hn z
    refine ⟨.ref A, slot_get ea, F1, Γ, E1, post_se E1 q fun k kv F2 H2 _ t2 o2 q2 => ?_⟩
    cases k with
    | int k =>
      have q3 : PostS G W M Ml mr F2 C (match ixN ds.length k with
        | some j => .ok (.nx (Γ.set i (.lst (ds.set j v))))
        | none => .bad) := q2
      cases zz : ixN ds.length k with
      | none => rw [zz] at q3; exact q3.elim
      | some j =>
        rw [zz] at q3
        have hH2 : H2 A = some (.lst vs) := t2.keep A _ hH x2 fun z => z
        have nn : H1 A ≠ none := by rw [hH]; exact Option.some_ne_none _
        have E2 := E1.on t2
        refine ⟨A, vs, k, j, rfl, o2.bor.int, hH2, by rw [dl.length]; exact zz, q3 σ F2 _ (.refl F2) ?_⟩
        have dl2 : DenL G.K F2.ex (ds.set j v) (vs.set j vv) := (dl.ext (t2.le t.sub).ex).set j (Den.ext (t2.le t.sub).ex o)
        exact E2.write hm (by rcases hn with rfl | rfl <;> rfl) ea (by rw [z]; exact Option.some_ne_none _) fun H' hq => back F2 _ _ H' (t2.le t.sub) ((t2.ex A nn).trans x1) ((t2.iv A nn).trans x2) dl2 hq
    | _ => exact (show False from q2).elim
/-- x.append(e) -/
def sApp (i : Nat) (fv : EF) : SF := fun Γ => (eVar i Γ).bind fun l => (fv Γ).bind fun v => match l with
  | .lst ds => if ds.length < 1000000 then .ok (.nx (Γ.set i (.lst (ds ++ [v])))) else .bad
  | _ => .bad
theorem lt_line {n : Nat} (h : n < 1000000) : n < sizeLine := Nat.lt_trans h (by decide)
theorem d_append {i : Nat} {x : Str} {px ap cp : Pos} {n : Md} (hv : PEd X G W M .s e fv) (hm : M[i]? = some n := by rfl) (hn : n = .l ∨ n = .i := by decide) (hN : X.N[i]? = some x := by rfl) (hvis : Vis X.env.scope x := by first | exact Or.inl rfl | exact Or.inr (Or.inl rfl) | exact Or.inr (Or.inr rfl)) (hd : (x == ("__debug__" : Str)) = false := by decide)
    (hcd : (x == ("__classdict__" : Str)) = false := by decide) (hse : starEach [e] X.env = (false, eval e X.env) :: starEach [] X.env := by rfl)
    (hexp : ∀ (te : TE), PE X (.Call (.Attribute (.Name x px) "append" ap) [e] [] cp) te → PS X (.Expr (.Call (.Attribute (.Name x px) "append" ap) [e] [] cp) pos) (tDrop te) := by intro te h; exact ps_expr h)
    (hbm : ∀ (ta : TA), PA X [e] ta → PE X (.Call (.Attribute (.Name x px) "append" ap) [e] [] cp) (tBM X.K "list" rAppend (tVar i) ta) := by intro ta h; exact pe_bm PySem.F.plainAttrs_list PySem.F.slot_list_append PySem.F.type_list_append mt_append (pe_var (by rfl) (by first | exact Or.inl rfl | exact Or.inr (Or.inl rfl) | exact Or.inr (Or.inr rfl))) h) :
    PSd X G W M M Ml mr (.Expr (.Call (.Attribute (.Name x px) "append" ap) [e] [] cp) pos) (sApp i fv) := by
  refine PS.monoD (hexp _ (hbm _ (pa_cons hv pa_nil hse))) fun C σ H ⟨F, Γ, E, p⟩ => ?_
  unfold sApp at p
  cases z : Γ[i]? with
  | none =>
    unfold eVar at p
    rw [z] at p
    exact p.elim
  | some l =>
    have ev : eVar i Γ = .ok l := by
      unfold eVar
      rw [z]
    rw [ev] at p
    obtain ⟨A, vs, ds, ea, rfl, hH, dl, x1, x2, back⟩ := own_lst E hm hn z
    refine ⟨.ref A, slot_get ea, .inl ⟨rfl, _, .inl (.inl hH)⟩, F, Γ, E, post_se E p fun v vv F1 H1 _ t o q => ?_⟩
    have q3 : PostS G W M Ml mr F1 C (if ds.length < 1000000 then .ok (.nx (Γ.set i (.lst (ds ++ [v])))) else .bad) := q
    by_cases hl : ds.length < 1000000
    · rw [if_pos hl] at q3
      have hH2 : H1 A = some (.lst vs) := t.keep A _ hH x2 fun z => z
      have nn : H A ≠ none := by rw [hH]; exact Option.some_ne_none _
      have E2 := E.on t
      refine ⟨A, vs, vv, rfl, rfl, hH2, by rw [dl.length]; exact lt_line hl, q3 σ F1 _ (.refl F1) ?_⟩
      have dl2 : DenL G.K F1.ex (ds ++ [v]) (vs ++ [vv]) := (dl.ext (t.le E.sub).ex).append (.cons o .nil)
      exact E2.write hm (by rcases hn with rfl | rfl <;> rfl) ea (by rw [z]; exact Option.some_ne_none _) fun H' hq => back F1 _ _ H' (t.le E.sub) ((t.ex A nn).trans x1) ((t.iv A nn).trans x2) dl2 hq
    · rw [if_neg hl] at q3
      exact q3.elim
end
end L2.DL
set_option Elab.async false
set_option linter.all false
set_option maxRecDepth 100000
set_option autoImplicit false
/-! DF: what is walked; for, while, comprehensions; the calls of defs. -/
namespace L2.DL
open PySem PySem.Spec PyProof.Rows

/-- what an iterator yields: data, item by item -/
structure Src (K : PySem.W.Frag) (J : It) (F1 : Fz) (items : List D) : Prop where
  go : ∀ i d F H, FLe F1 F → Sub F H → items[i]? = some d → J.go i H ∧ ∀ x H', J.yld i H x H' → ∃ F', Step S0 F H F' H' ∧ Den K F'.ex d x
  stop : ∀ i F H, FLe F1 F → Sub F H → items.length ≤ i → J.stop i H
def PostI (G : Gx) (W : WX) (F : Fz) (H : Hp) (σ : St) (Q : It → Hp → Prop) : R (List D) → Prop
  | .ok ds => ∀ J F' H', Step S0 F H F' H' → Src G.K J F' ds → Q J H'
  | .err c => ∀ F' H', Step S0 F H F' H' → W (.ref (G.cls c)) none σ H'
  | .bad => False
def rdI (G : Gx) (W : WX) (M : List Md) (f : AF) : TI := fun σ H Q => ∃ F Γ, EnvOk G M F H σ Γ ∧ PostI G W F H σ Q (f Γ)
abbrev PId (X : Cx) (G : Gx) (W : WX) (M : List Md) (tg it : Expr) (f : AF) : Prop := PI X tg it (rdI G W M f)
theorem PI.monoD {X : Cx} {tg e : Expr} {t t' : TI} (h : PI X tg e t) (i : ∀ σ H Q, t' σ H Q → t σ H Q) : PI X tg e t' := ⟨fun pins s σ H Q I q => h.run pins s σ H Q I (i σ H Q q)⟩

section
variable {X : Cx} {G : Gx} {W : WX} {M M1 M2 Mt Ml : List Md} {m m1 m2 mr : Md} {e a b c tg : Expr} {f fa fb fi fv : EF} {g g1 g2 : SF} {pos tpos : Pos} {st : Stmt} {sts : List Stmt}

theorem postI_then {F : Fz} {H : Hp} {σ : St} {Γ : List D} {Q : VK} {Q' : It → Hp → Prop} {r : R D} {k : D → R (List D)} (E : EnvOk G M F H σ Γ) (h : PostI G W F H σ Q' (r.bind k))
    (ok : ∀ d v F' H', r = .ok d → Step S0 F H F' H' → VOk G.K m F' H H' d v → PostI G W F' H' σ Q' (k d) → Q v H') : PostE G W m F H σ Q r := by
  cases r with
  | bad => exact h
  | err c => exact h
  | ok d =>
    intro v F' H' t o
    refine ok d v F' H' rfl t o ?_
    have h' : PostI G W F H σ Q' (k d) := h
    revert h'
    cases k d with
    | bad => exact fun z => z
    | err c => exact fun z F2 H2 t2 => z F2 H2 (t.trans t2)
    | ok d2 => exact fun z J F2 H2 t2 o2 => z J F2 H2 (t.trans t2) o2

/-! ### sources -/
def seqD : D → Option (List D)
  | .lst l => some l
  | .tup l => some l
  | .scr l => some l
  | _ => none
def iSeq (f : EF) : AF := fun Γ => (f Γ).bind fun d => R.of (seqD d)
theorem src_list {K : PySem.W.Frag} {F : Fz} {a : Addr} {vs : List V} {ds : List D} (h : SqL K F.ex a vs) (d : DenL K F.ex ds vs) : Src K (Itl K a) F ds := by
  refine ⟨fun i x F' H l s e => ?_, fun i F' H l s e => ⟨vs, sqL_ext (Ext.trans l.ex s.ex) h, by rw [d.length]; exact e⟩⟩
  obtain ⟨u, e1, e2⟩ := d.get e
  have hs := sqL_ext (Ext.trans l.ex s.ex) h
  refine ⟨⟨vs, u, hs, e1⟩, fun y H' ⟨q1, q2⟩ => ?_⟩
  subst q1
  have := q2 vs hs
  rw [e1] at this
  cases this
  exact ⟨F', .refl s, e2.ext l.ex⟩
theorem src_tup {K : PySem.W.Frag} {F : Fz} {a : Addr} {vs : List V} {ds : List D} (h : SqT K F.ex a vs) (d : DenL K F.ex ds vs) : Src K (Itt K a) F ds := by
  refine ⟨fun i x F' H l s e => ?_, fun i F' H l s e => ⟨vs, sqT_ext (Ext.trans l.ex s.ex) h, by rw [d.length]; exact e⟩⟩
  obtain ⟨u, e1, e2⟩ := d.get e
  have hs := sqT_ext (Ext.trans l.ex s.ex) h
  refine ⟨⟨vs, u, hs, e1⟩, fun y H' ⟨q1, q2⟩ => ?_⟩
  subst q1
  have := q2 vs hs
  rw [e1] at this
  cases this
  exact ⟨F', .refl s, e2.ext l.ex⟩
/-- a list or a tuple, whichever it is -/
theorem pi_seq {l : Expr} {tl : TE} (hl : PE X l tl) : PI X tg l (fun σ H Q => tl σ H fun x H1 => ∃ a, x = .ref a ∧ (((∃ xs, SqL X.K H1 a xs) ∧ Q (Itl X.K a) H1) ∨ ((∃ xs, SqT X.K H1 a xs) ∧ Q (Itt X.K a) H1))) := by
  refine ⟨fun pins s σ H R I h => ?_⟩
  refine thn (hl.run pins s σ H _ I h) fun v s1 ⟨x, H1, I1, r1, q1⟩ => ?_
  obtain ⟨a, e, ⟨⟨xs, hq⟩, q⟩ | ⟨⟨xs, hq⟩, q⟩⟩ := q1
  · subst e
    cases r1
    obtain ⟨its, rv, p, hz⟩ := I1.list hq
    refine wpAny_pyIter_list p.isList ?_
    refine ⟨s1.heap.objs.size, [s1.heap.objs.size], _, _, H1, rfl, I1.kept (t' := s1.toks) fun b o e => Heap.get?_push_of_some _ e, turn_list a _, ⟨_, Heap.get?_push_size _ rfl, rfl, rfl⟩, fun b hb => ?_, q⟩
    have e : b = s1.heap.objs.size := by simpa using hb
    subst e
    exact I1.fpOk (Nat.le_refl _) (I1.hok.fresh (Nat.le_refl _))
  · subst e
    cases r1
    obtain ⟨its, rv, p, hz⟩ := I1.tuple hq
    refine wpAny_pyIter_tuple (show s1.heap.IsTuple a its.toArray from p) ?_
    refine ⟨s1.heap.objs.size, [s1.heap.objs.size], _, _, H1, rfl, I1.kept (t' := s1.toks) fun b o e => Heap.get?_push_of_some _ e, turn_tuple a _, ⟨_, Heap.get?_push_size _ rfl, rfl, rfl⟩, fun b hb => ?_, q⟩
    have e : b = s1.heap.objs.size := by simpa using hb
    subst e
    exact I1.fpOk (Nat.le_refl _) (I1.hok.fresh (Nat.le_refl _))
theorem di_seq (h : PEd X G W M .s e f) (cx : CxOk X G W) : PId X G W M tg e (iSeq f) := by
  refine PI.monoD (pi_seq h) fun σ H Q ⟨F, Γ, E, p⟩ => ⟨F, Γ, E, postI_then E p fun d v F1 H1 _ t o q => ?_⟩
  cases d with
  | lst ds =>
    obtain ⟨a, vs, rfl, h, dl⟩ := Den.lst' o
    refine ⟨a, rfl, .inl ⟨⟨vs, .of (t.sub.ex _ _ h)⟩, ?_⟩⟩
    rw [cx.K]
    exact (show PostI G W F1 H1 σ Q (.ok ds) from q) _ F1 H1 (.refl t.sub) (src_list (.of h) dl)
  | scr ds =>
    obtain ⟨a, vs, rfl, h, dl⟩ := Den.scr' o
    refine ⟨a, rfl, .inl ⟨⟨vs, by rw [cx.K]; exact sqL_ext t.sub.ex h⟩, ?_⟩⟩
    rw [cx.K]
    exact (show PostI G W F1 H1 σ Q (.ok ds) from q) _ F1 H1 (.refl t.sub) (src_list h dl)
  | tup ds =>
    obtain ⟨a, vs, rfl, h, dl⟩ := Den.tup' o
    refine ⟨a, rfl, .inr ⟨⟨vs, by rw [cx.K]; exact sqT_ext t.sub.ex h⟩, ?_⟩⟩
    rw [cx.K]
    exact (show PostI G W F1 H1 σ Q (.ok ds) from q) _ F1 H1 (.refl t.sub) (src_tup h dl)
  | _ => exact (show False from q).elim
/-- range -/
def rng1D : List D → Option (List D)
  | [.int j] => if -1000000 ≤ j ∧ j ≤ 1000000 then some ((List.range j.toNat).map fun (k : Nat) => .int k) else none
  | _ => none
def rng2D : List D → Option (List D)
  | [.int i, .int j] => if (-1000000 ≤ i ∧ i ≤ 1000000) ∧ -1000000 ≤ j ∧ j ≤ 1000000 then some ((List.range (j - i).toNat).map fun (k : Nat) => .int (i + k)) else none
  | _ => none
def iRng (rg : List D → Option (List D)) (fr : AF) : AF := fun Γ => (fr Γ).bind fun ds => R.of (rg ds)
theorem src_range {K : PySem.W.Frag} {F : Fz} {lo : Int} {n : Nat} {ds : List D} (e : ds = (List.range n).map fun (k : Nat) => .int (lo + k)) : Src K (Itr lo n) F ds := by
  subst e
  refine ⟨fun i x F' H l s e => ?_, fun i F' H l s e => show n ≤ i by simpa using e⟩
  have hi : i < n := by
    have := (List.getElem?_eq_some_iff.mp e).1
    simpa using this
  have ex : x = .int (lo + i) := by
    rw [List.getElem?_map, List.getElem?_range hi] at e
    exact (Option.some.inj e).symm
  subst ex
  refine ⟨hi, fun y H' ⟨q1, q2⟩ => ?_⟩
  subst q1 q2
  exact ⟨F', .refl s, .int _⟩
theorem postI_args {F : Fz} {H : Hp} {σ : St} {Γ : List D} {Q : List V → Hp → Prop} {Q' : It → Hp → Prop} {r : R (List D)} {k : List D → R (List D)} (E : EnvOk G M F H σ Γ) (h : PostI G W F H σ Q' (r.bind k))
    (ok : ∀ ds vs F' H', r = .ok ds → Step S0 F H F' H' → VOkL G.K m F' H H' ds vs → PostI G W F' H' σ Q' (k ds) → Q vs H') : PostA G W m F H σ Q r := by
  cases r with
  | bad => exact h
  | err c => exact h
  | ok d =>
    intro v F' H' t o
    refine ok d v F' H' rfl t o ?_
    have h' : PostI G W F H σ Q' (k d) := h
    revert h'
    cases k d with
    | bad => exact fun z => z
    | err c => exact fun z F2 H2 t2 => z F2 H2 (t.trans t2)
    | ok d2 => exact fun z J F2 H2 t2 o2 => z J F2 H2 (t.trans t2) o2
theorem VOkL.int1 {K : PySem.W.Frag} {F : Fz} {Hs H : Hp} {i : Int} {vs : List V} (h : VOkL K m F Hs H [.int i] vs) : vs = [.int i] := by
  cases h with
  | cons h r => cases r; rw [h.bor.int]
theorem VOkL.int2 {K : PySem.W.Frag} {F : Fz} {Hs H : Hp} {i j : Int} {vs : List V} (h : VOkL K m F Hs H [.int i, .int j] vs) : vs = [.int i, .int j] := by
  cases h with
  | cons h r => rw [h.bor.int, r.int1]
theorem VOkL.int3 {K : PySem.W.Frag} {F : Fz} {Hs H : Hp} {i j k : Int} {vs : List V} (h : VOkL K m F Hs H [.int i, .int j, .int k] vs) : vs = [.int i, .int j, .int k] := by
  cases h with
  | cons h r => rw [h.bor.int, r.int2]
theorem di_rng1 {p : Pos} {fr : AF} (ha : PAd X G W M .b [a] fr) (hm : X.mg "range" = none) (hg : Gl X "range" := by rfl) (hs : starEach [a] X.env = [(false, eval a X.env)] := by rfl) : PId X G W M tg (.Call (.Name "range" p) [a] [] pos) (iRng rng1D fr) := by
  refine PI.monoD (pi_range1 hg hm ha hs) fun σ H Q ⟨F, Γ, E, p⟩ => ⟨F, Γ, E, postI_args E p fun ds vs F1 H1 _ t o q => ?_⟩
  have q' : PostI G W F1 H1 σ Q (R.of (rng1D ds)) := q
  unfold rng1D at q'
  split at q'
  · rename_i j _
    split at q'
    · rename_i hj
      refine ⟨j, o.int1, by omega, by omega, q' _ F1 H1 (.refl t.sub) (src_range ?_)⟩
      simp only [Int.zero_add]
    · exact q'.elim
  · exact q'.elim
theorem di_rng2 {p : Pos} {fr : AF} (ha : PAd X G W M .b [a, b] fr) (hm : X.mg "range" = none) (hg : Gl X "range" := by rfl) (hs : starEach [a, b] X.env = [(false, eval a X.env), (false, eval b X.env)] := by rfl) (hs2 : starEach [b] X.env = [(false, eval b X.env)] := by rfl) : PId X G W M tg (.Call (.Name "range" p) [a, b] [] pos) (iRng rng2D fr) := by
  refine PI.monoD (pi_range2 hg hm ha hs hs2) fun σ H Q ⟨F, Γ, E, p⟩ => ⟨F, Γ, E, postI_args E p fun ds vs F1 H1 _ t o q => ?_⟩
  have q' : PostI G W F1 H1 σ Q (R.of (rng2D ds)) := q
  unfold rng2D at q'
  split at q'
  · rename_i i j _
    split at q'
    · rename_i hj
      exact ⟨i, j, o.int2, by omega, q' _ F1 H1 (.refl t.sub) (src_range rfl)⟩
    · exact q'.elim
  · exact q'.elim
/-- range with a written step: -1, or any positive one -/
def rng3D : List D → Option (List D)
  | [.int i, .int j, .int c] => if ((-1000000 ≤ i ∧ i ≤ 1000000) ∧ -1000000 ≤ j ∧ j ≤ 1000000) ∧ 1 ≤ c ∧ c ≤ 1000000 then some ((List.range (if i < j then (j - i - 1) / c + 1 else 0).toNat).map fun (k : Nat) => .int (i + k * c))
    else if ((-1000000 ≤ i ∧ i ≤ 1000000) ∧ -1000000 ≤ j ∧ j ≤ 1000000) ∧ c = -1 then some ((List.range (i - j).toNat).map fun (k : Nat) => .int (i + k * (-1))) else none
  | _ => none
theorem src_rangeC {K : PySem.W.Frag} {F : Fz} {lo c : Int} {n : Nat} : Src K (Itc lo c n) F ((List.range n).map fun (k : Nat) => .int (lo + k * c)) := by
  refine ⟨fun i x F' H l s e => ?_, fun i F' H l s e => show n ≤ i by simpa using e⟩
  have hi : i < n := by
    have := (List.getElem?_eq_some_iff.mp e).1
    simpa using this
  have ex : x = .int (lo + i * c) := by
    rw [List.getElem?_map, List.getElem?_range hi] at e
    exact (Option.some.inj e).symm
  subst ex
  refine ⟨hi, fun y H' ⟨q1, q2⟩ => ?_⟩
  subst q1 q2
  exact ⟨F', .refl s, .int _⟩
theorem rgC_up {i j c : Int} (h1 : -1000000 ≤ i ∧ i ≤ 1000000) (h2 : -1000000 ≤ j ∧ j ≤ 1000000) (h3 : 1 ≤ c ∧ c ≤ 1000000) : RgC i j c (if i < j then (j - i - 1) / c + 1 else 0).toNat := by
  have e : Builtin.Range.rangeSize i j c = (if i < j then (j - i - 1) / c + 1 else 0) := by
    unfold Builtin.Range.rangeSize
    rw [if_pos (by omega)]
  have nn : 0 ≤ (if i < j then (j - i - 1) / c + 1 else 0) := by
    split
    · have : 0 ≤ (j - i - 1) / c := Int.ediv_nonneg (by omega) (by omega)
      omega
    · exact Int.le_refl 0
  refine ⟨by omega, by omega, ?_, ?_⟩
  · have up : (if i < j then (j - i - 1) / c + 1 else 0) ≤ 2000001 := by
      split
      · have : (j - i - 1) / c ≤ j - i - 1 := Int.ediv_le_self _ (by omega)
        omega
      · omega
    unfold Builtin.Range.small
    rw [e]
    simp only [Builtin.Range.rangeFitsLong, Bool.and_eq_true, Bool.or_eq_true, decide_eq_true_eq, beq_iff_eq, if_pos (show c > 0 by omega)]
    generalize (if i < j then (j - i - 1) / c + 1 else 0) = n at *
    omega
  · rw [e]
    omega
theorem di_rng3 {p : Pos} {fr : AF} (ha : PAd X G W M .b [a, b, c] fr) (hm : X.mg "range" = none) (hg : Gl X "range" := by rfl) (hs : starEach [a, b, c] X.env = (false, eval a X.env) :: starEach [b, c] X.env := by rfl) (hpl : (backTo pos (starEach [b, c] X.env)).any (·.1) = false := by rfl) : PId X G W M tg (.Call (.Name "range" p) [a, b, c] [] pos) (iRng rng3D fr) := by
  refine PI.monoD (pi_range3 hg hm ha hs hpl) fun σ H Q ⟨F, Γ, E, p⟩ => ⟨F, Γ, E, postI_args E p fun ds vs F1 H1 _ t o q => ?_⟩
  have q' : PostI G W F1 H1 σ Q (R.of (rng3D ds)) := q
  unfold rng3D at q'
  split at q'
  · rename_i i j c _
    split at q'
    · rename_i hj
      exact ⟨i, j, c, _, o.int3, rgC_up hj.1.1 hj.1.2 hj.2, q' _ F1 H1 (.refl t.sub) src_rangeC⟩
    · split at q'
      · rename_i hj
        obtain ⟨hj, rfl⟩ := hj
        exact ⟨i, j, -1, _, o.int3, RgC.neg (by omega) (by omega) (by omega) (by omega), q' _ F1 H1 (.refl t.sub) src_rangeC⟩
      · exact q'.elim
  · exact q'.elim
end
end L2.DL
set_option Elab.async false
set_option linter.all false
set_option maxRecDepth 100000
set_option autoImplicit false
/-! DG: for, while, comprehensions. -/
namespace L2.DL
open PySem PySem.Spec PyProof.Rows
section
variable {X : Cx} {G : Gx} {W : WX} {M M1 M2 Mt Ml : List Md} {m m1 m2 mr : Md} {e a b c tg : Expr} {f fa fb fi fv : EF} {g g1 g2 : SF} {pos tpos : Pos} {st : Stmt} {sts : List Stmt}

/-! ### for -/
def forL (h : TF) (body : SF) : List D → SF
  | [], Γ => .ok (.nx Γ)
  | d :: ds, Γ => (R.of (h d Γ)).bind fun Γ1 => (body Γ1).bind fun fl => match fl with
    | .nx Γ2 => forL h body ds Γ2
    | .ct Γ2 => forL h body ds Γ2
    | .bk Γ2 => .ok (.nx Γ2)
    | .rt d => .ok (.rt d)
def sFor (src : AF) (h : TF) (body : SF) : SF := fun Γ => (src Γ).bind fun ds => forL h body ds Γ
theorem d_for {iter : Expr} {body : List Stmt} {src : AF} {is : List Nat} {h : TF} (hi : PId X G W M tg iter src) (hg : PGd X G M Mt is tg h) (hb : PSsd X G W Mt M M mr body g) (cx : CxOk X G W) (hp : PassesOwn (model X.prog X.w) X.A X.env X.xe)
    (hs : ∀ x, foldedSetIterable iter X.env x = pure x := by intro _; rfl) : PSd X G W M M Ml mr (.For tg iter body [] pos) (sFor src h g) := by
  refine PS.monoD (ps_for hp cx.calm hi hg hb hs) fun C σ H ⟨F, Γ, E, p⟩ => ⟨F, Γ, E, ?_⟩
  unfold sFor at p
  cases z : src Γ with
  | bad => rw [z] at p; exact p
  | err c => rw [z] at p; exact fun F' H' t => p σ F' H' (E.step.trans t.any)
  | ok ds =>
    rw [z] at p
    have p : PostS G W M Ml mr F C (forL h g ds Γ) := p
    intro J F1 H1 t1 S
    refine ⟨fun i n σ' H' => n = ds.length - i ∧ i ≤ ds.length ∧ ∃ F2 Γ2, EnvOk G M F2 H' σ' Γ2 ∧ FLe F1 F2 ∧ PostS G W M Ml mr F2 C (forL h g (ds.drop i) Γ2), ⟨ds.length, by omega, Nat.zero_le _, F1, Γ, E.on t1, .refl F1, PostS.le (t1.le E.sub) p⟩, fun i n σ2 H2 hw => ?_⟩
    obtain ⟨rfl, hi, F2, Γ2, E2, l2, p2⟩ := hw
    by_cases hlt : i < ds.length
    · have e0 : ds[i]? = some ds[i] := List.getElem?_eq_getElem hlt
      obtain ⟨go, yld⟩ := S.go i ds[i] F2 H2 l2 E2.sub e0
      refine .inr ⟨go, fun σ' H' => ∃ F3 Γ3, EnvOk G M F3 H' σ' Γ3 ∧ FLe F1 F3 ∧ PostS G W M Ml mr F3 C (forL h g (ds.drop (i + 1)) Γ3), fun σ' H' hN => ⟨ds.length - (i + 1), by omega, rfl, hlt, hN⟩, fun x H' hy => ?_⟩
      obtain ⟨F3, t3, dx⟩ := yld x H' hy
      rw [List.drop_eq_getElem_cons hlt] at p2
      unfold forL at p2
      have p3 := PostS.le (t3.le E2.sub) p2
      cases zh : h ds[i] Γ2 with
      | none => rw [zh] at p3; exact p3.elim
      | some Γ3 =>
        rw [zh] at p3
        refine ⟨F3, Γ2, ds[i], Γ3, E2.on t3, dx, zh, fun σ3 _ _ E3 => ⟨F3, Γ3, E3, ?_⟩⟩
        have l3 : FLe F1 F3 := l2.trans (t3.le E2.sub)
        have p4 : PostS G W M Ml mr F3 C ((g Γ3).bind fun fl => match fl with
          | .nx Γ2 => forL h g (ds.drop (i + 1)) Γ2
          | .ct Γ2 => forL h g (ds.drop (i + 1)) Γ2
          | .bk Γ2 => .ok (.nx Γ2)
          | .rt d => .ok (.rt d)) := p3
        revert p4
        cases g Γ3 with
        | bad => exact fun z => z
        | err c => exact fun z => z
        | ok fl =>
          cases fl with
          | nx Γ4 => exact fun z σ4 F4 H4 l4 E4 => ⟨F4, Γ4, E4, l3.trans l4, PostS.le l4 z⟩
          | ct Γ4 => exact fun z σ4 F4 H4 l4 E4 => ⟨F4, Γ4, E4, l3.trans l4, PostS.le l4 z⟩
          | bk Γ4 => exact fun z σ4 F4 H4 l4 E4 => z σ4 F4 H4 l4 E4
          | rt d => exact fun z => z
    · refine .inl ⟨S.stop i F2 H2 l2 E2.sub (by omega), ?_⟩
      rw [List.drop_eq_nil_of_le (by omega)] at p2
      exact p2 σ2 F2 H2 (.refl F2) E2

/-! ### while, with fuel -/
def whileL (t : BF) (body : SF) : Nat → SF
  | 0, _ => .bad
  | n + 1, Γ => (t Γ).bind fun b => if b = true then (body Γ).bind fun fl => match fl with
      | .nx Γ2 => whileL t body n Γ2
      | .ct Γ2 => whileL t body n Γ2
      | .bk Γ2 => .ok (.nx Γ2)
      | .rt d => .ok (.rt d)
    else .ok (.nx Γ)
def sWhile (fuel : List D → Nat) (t : BF) (body : SF) : SF := fun Γ => whileL t body (fuel Γ) Γ
theorem d_while {body : List Stmt} {t : BF} (fuel : List D → Nat) (hc : PTd X G W M c t) (hb : PSsd X G W M M M mr body g) (hp : PassesOwn (model X.prog X.w) X.A X.env X.xe) : PSd X G W M M Ml mr (.While c body [] pos) (sWhile fuel t g) := by
  refine PS.monoD (ps_while hp hc hb) fun C σ H ⟨F, Γ, E, p⟩ => ?_
  refine ⟨fun n σ' H' => ∃ F2 Γ2, EnvOk G M F2 H' σ' Γ2 ∧ PostS G W M Ml mr F2 C (whileL t g n Γ2), ⟨_, F, Γ, E, p⟩, fun n σ2 H2 ⟨F2, Γ2, E2, p2⟩ => ⟨F2, Γ2, E2, ?_⟩⟩
  cases n with
  | zero => exact p2.elim
  | succ n =>
    unfold whileL at p2
    refine post_sb E2 p2 fun b F3 H3 _ t3 p3 => ?_
    cases b with
    | true =>
      rw [if_pos rfl] at p3 ⊢
      refine ⟨fun σ' H' => ∃ F2 Γ2, EnvOk G M F2 H' σ' Γ2 ∧ PostS G W M Ml mr F2 C (whileL t g n Γ2), fun σ' H' hN => ⟨n, Nat.lt_succ_self n, hN⟩, F3, Γ2, E2.on t3, ?_⟩
      revert p3
      cases g Γ2 with
      | bad => exact fun z => z
      | err c => exact fun z => z
      | ok fl =>
        cases fl with
        | nx Γ4 => exact fun z σ4 F4 H4 l4 E4 => ⟨F4, Γ4, E4, PostS.le l4 z⟩
        | ct Γ4 => exact fun z σ4 F4 H4 l4 E4 => ⟨F4, Γ4, E4, PostS.le l4 z⟩
        | bk Γ4 => exact fun z σ4 F4 H4 l4 E4 => z σ4 F4 H4 l4 E4
        | rt d => exact fun z => z
    | false =>
      rw [if_neg Bool.false_ne_true] at p3 ⊢
      exact p3 σ2 F3 H3 (.refl F3) (E2.on t3)

/-! ### comprehensions -/
def lcL (body : D → R (Option D)) : List D → R (List D)
  | [] => .ok []
  | d :: ds => match body d with
    | .ok o => (lcL body ds).bind fun r => .ok (match o with
      | some x => x :: r
      | none => r)
    | _ => .bad
def lcBody (h : TF) (t : BF) (elt : EF) (Γ : List D) (d : D) : R (Option D) := (R.of (h d Γ)).bind fun Γ1 => (t Γ1).bind fun b => if b = true then (elt Γ1).bind fun x => .ok (some x) else .ok none
def eLc (src : AF) (h : TF) (t : BF) (elt : EF) : EF := fun Γ => (src Γ).bind fun ds => if ds.length ≤ 1000000 then
  match lcL (lcBody h t elt Γ) ds with
  | .ok r => .ok (.lst r)
  | _ => .bad
  else .bad
def bYes : BF := fun _ => .ok true
/-- the slots of the block's own names forgotten -/
def wipeM (M : List Md) : List Nat → List Md
  | [] => M
  | v :: vs => (wipeM M vs).set v .u
theorem wipe_get {σ : St} {vs : List Nat} {i : Nat} (h : i ∉ vs) : (wipe σ vs)[i]? = σ[i]? := wipe_out h
theorem wipeM_len : ∀ {M : List Md} {vs : List Nat}, (wipeM M vs).length = M.length
  | _, [] => rfl
  | M, v :: vs => by
    unfold wipeM
    rw [List.length_set, wipeM_len]
theorem wipeM_get : ∀ {M : List Md} {vs : List Nat} {i : Nat} {n : Md}, (wipeM M vs)[i]? = some n → (n = .u) ∨ (i ∉ vs ∧ M[i]? = some n)
  | M, [], i, n, h => .inr ⟨by simp, h⟩
  | M, v :: vs, i, n, h => by
    unfold wipeM at h
    rcases getSet h with ⟨_, e⟩ | ⟨ne, h⟩
    · exact .inl e
    · rcases wipeM_get h with e | ⟨h1, h2⟩
      · exact .inl e
      · exact .inr ⟨by simp only [List.mem_cons, not_or]; exact ⟨fun z => ne z.symm, h1⟩, h2⟩
theorem EnvOk.wipe {F : Fz} {H : Hp} {σ : St} {Γ : List D} {vs : List Nat} (E : EnvOk G M F H σ Γ) : EnvOk G (wipeM M vs) F H (wipe σ vs) Γ := by
  refine ⟨E.step, by rw [wipeM_len, wipe_length]; exact E.lenM, by rw [wipe_length]; exact E.lenG, fun i n d h1 h2 => ?_, fun i j n1 n2 a h1 h2 o1 o2 e1 e2 => ?_⟩
  · rcases wipeM_get h1 with rfl | ⟨hi, h1⟩
    · trivial
    · have := E.slot i n d h1 h2
      rw [List.getD_eq_getElem?_getD, wipe_get hi, ← List.getD_eq_getElem?_getD]
      exact this
  · rcases wipeM_get h1 with rfl | ⟨hi, h1⟩
    · cases o1
    · rcases wipeM_get h2 with rfl | ⟨hj, h2⟩
      · cases o2
      · rw [List.getD_eq_getElem?_getD, wipe_get hi, ← List.getD_eq_getElem?_getD] at e1
        rw [List.getD_eq_getElem?_getD, wipe_get hj, ← List.getD_eq_getElem?_getD] at e2
        exact E.disj i j n1 n2 a h1 h2 o1 o2 e1 e2
theorem wipe_same {σ σ' : St} {vs : List Nat} (hl : σ'.length = σ.length) (h : ∀ k, k ∉ vs → σ'[k]? = σ[k]?) : wipe σ' vs = wipe σ vs := by
  apply List.ext_getElem?
  intro i
  by_cases hi : i ∈ vs
  · have none_at : ∀ {τ : St} {vs : List Nat}, i ∈ vs → (wipe τ vs)[i]? = if i < τ.length then some none else none := fun {τ vs} => by
      induction vs with
      | nil => intro h; cases h
      | cons v vs ih =>
        intro hm
        unfold wipe
        rw [List.getElem?_set]
        by_cases e : v = i
        · subst e
          rw [if_pos rfl, wipe_length]
        · rw [if_neg e]
          exact ih ((List.mem_cons.mp hm).resolve_left fun z => e z.symm)
    rw [none_at hi, none_at hi, hl]
  · rw [wipe_get hi, wipe_get hi]
    exact h i hi
abbrev Wf : WX := fun _ _ _ _ => False
theorem lcL_ok {body : D → R (Option D)} {d : D} {ds r : List D} (h : lcL body (d :: ds) = .ok r) : ∃ o r', body d = .ok o ∧ lcL body ds = .ok r' ∧ r = (match o with
    | some x => x :: r'
    | none => r') := by
  unfold lcL at h
  split at h
  · rename_i o e
    cases z : lcL body ds with
    | bad => rw [z] at h; cases h
    | err c => rw [z] at h; cases h
    | ok r' =>
      rw [z] at h
      exact ⟨o, r', e, rfl, (R.ok.inj h).symm⟩
  · cases h
theorem lcL_len {body : D → R (Option D)} : ∀ {ds r : List D}, lcL body ds = .ok r → r.length ≤ ds.length
  | [], r, h => by
    cases h
    exact Nat.le_refl _
  | d :: ds, r, h => by
    obtain ⟨o, r', _, h2, rfl⟩ := lcL_ok h
    have := lcL_len h2
    cases o with
    | none => exact Nat.le_succ_of_le this
    | some x => exact Nat.succ_le_succ this
/-- the reading of a comprehension, out of its parts' -/
theorem lc_read {src : AF} {h : TF} {t : BF} {elt : EF} {own is : List Nat} (hi : ∀ x ∈ is, x ∈ own) {σ : St} {H : Hp} {Q : VK} {F : Fz} {Γ : List D} (E : EnvOk G M F H σ Γ)
    (p : match eLc src h t elt Γ with
      | .ok d => ∀ v F' H', Step S0 F H F' H' → VOk G.K .l F' H H' d v → Q v H'
      | .err c => ∀ F' H', Step S0 F H F' H' → W (.ref (G.cls c)) none σ H'
      | .bad => False) :
    tLc (rdI G W M src) (rdG G (wipeM M own) Mt is h) (rdB G Wf Mt t) (rdE G Wf Mt .s elt) own σ H Q := by
  refine ⟨F, Γ, E, ?_⟩
  unfold eLc at p
  cases z : src Γ with
  | bad => rw [z] at p; exact p
  | err c => rw [z] at p; exact fun F' H' t => p F' H' t
  | ok ds =>
    rw [z] at p
    intro J F1 H1 t1 S
    simp only [R.bind_ok] at p
    by_cases hd : ds.length ≤ 1000000
    · rw [if_pos hd] at p
      cases zl : lcL (lcBody h t elt Γ) ds with
      | bad => rw [zl] at p; exact p.elim
      | err c => rw [zl] at p; exact p.elim
      | ok r =>
        rw [zl] at p
        have p : ∀ v F' H', Step S0 F H F' H' → VOk G.K .l F' H H' (.lst r) v → Q v H' := p
        intro D0 hD0
        have hD1 : H D0 = none := by
          cases q : H D0 with
          | none => rfl
          | some o => exact absurd hD0 (t1.there D0 (by rw [q]; exact Option.some_ne_none _))
        have E1 := (E.on t1).wipe (vs := own)
        refine ⟨fun i n H' => n = ds.length - i ∧ i ≤ ds.length ∧ ∃ F2 acc vs, Step S0 F1 H1 F2 H' ∧ F2.ex D0 = none ∧ F2.iv D0 = none ∧ H' D0 = some (.lst vs) ∧ DenL G.K F2.ex acc vs ∧ acc.length ≤ i ∧ ∃ r', lcL (lcBody h t elt Γ) (ds.drop i) = .ok r' ∧ r = acc ++ r',
          ⟨ds.length, by omega, Nat.zero_le _, F1, [], [], Step.new t1.sub hD0, (t1.sub.nil_ hD0).1, (t1.sub.nil_ hD0).2, upd_same, .nil, Nat.zero_le _, r, zl, rfl⟩, fun i n H2 hw => ?_⟩
        obtain ⟨rfl, hii, F2, acc, vs, t2, x1, x2, hDv, dl, al, r', zr, er⟩ := hw
        have l2 : FLe F1 F2 := t2.le t1.sub
        by_cases hlt : i < ds.length
        · have e0 : ds[i]? = some ds[i] := List.getElem?_eq_getElem hlt
          obtain ⟨go, yld⟩ := S.go i ds[i] F2 H2 l2 t2.sub e0
          rw [List.drop_eq_getElem_cons hlt] at zr
          obtain ⟨o, r2, zb, zr2, rfl⟩ := lcL_ok zr
          refine .inr ⟨go, fun H' => ∃ F2 acc vs, Step S0 F1 H1 F2 H' ∧ F2.ex D0 = none ∧ F2.iv D0 = none ∧ H' D0 = some (.lst vs) ∧ DenL G.K F2.ex acc vs ∧ acc.length ≤ i + 1 ∧ ∃ r', lcL (lcBody h t elt Γ) (ds.drop (i + 1)) = .ok r' ∧ r = acc ++ r', fun H' hN => ⟨ds.length - (i + 1), by omega, rfl, hlt, hN⟩, fun x H' hy => ?_⟩
          obtain ⟨F3, t3, dx⟩ := yld x H' hy
          have nD2 : H2 D0 ≠ none := by rw [hDv]; exact Option.some_ne_none _
          unfold lcBody at zb
          cases zh : h ds[i] Γ with
          | none => rw [zh] at zb; cases zb
          | some Γ3 =>
            rw [zh] at zb
            have t13 := t2.trans t3
            refine ⟨F3, Γ, ds[i], Γ3, E1.on t13, dx, zh, fun σ3 l3 k3 E3 => ⟨?_, F3, Γ3, E3, ?_⟩⟩
            · rw [wipe_same (σ' := σ3) (σ := wipe σ own) (vs := own) l3 fun k hk => k3 k fun z => hk (hi k z)]
              apply wipe_same (wipe_length _ _)
              intro k hk
              exact wipe_get hk
            · have zb : (t Γ3).bind (fun b => if b = true then (elt Γ3).bind fun x => .ok (some x) else .ok none) = .ok o := zb
              revert zb
              cases t Γ3 with
              | bad => intro zb; cases zb
              | err c => intro zb; cases zb
              | ok b =>
                intro zb F4 H4 t4
                have zb : (if b = true then (elt Γ3).bind fun x => .ok (some x) else .ok none) = R.ok o := zb
                have hD3 : H' D0 = some (.lst vs) := t3.keep D0 _ hDv x2 fun z => z
                have hD4 : H4 D0 = some (.lst vs) := t4.keep D0 _ hD3 ((t3.iv D0 nD2).trans x2) fun z => z
                have nD3 : H' D0 ≠ none := by rw [hD3]; exact Option.some_ne_none _
                have nD4 : H4 D0 ≠ none := by rw [hD4]; exact Option.some_ne_none _
                have x14 : F4.ex D0 = none := (t4.ex D0 nD3).trans ((t3.ex D0 nD2).trans x1)
                have x24 : F4.iv D0 = none := (t4.iv D0 nD3).trans ((t3.iv D0 nD2).trans x2)
                have dl4 : DenL G.K F4.ex acc vs := (dl.ext (t3.le t2.sub).ex).ext (t4.le t3.sub).ex
                cases b with
                | false =>
                  rw [if_neg Bool.false_ne_true] at zb ⊢
                  cases zb
                  exact ⟨F4, acc, vs, t13.trans t4, x14, x24, hD4, dl4, by omega, r2, zr2, er⟩
                | true =>
                  rw [if_pos rfl] at zb ⊢
                  refine ⟨F4, Γ3, E3.on t4, ?_⟩
                  revert zb
                  cases elt Γ3 with
                  | bad => intro zb; cases zb
                  | err c => intro zb; cases zb
                  | ok y =>
                    intro zb v5 F5 H5 t5 o5
                    cases zb
                    have hD5 : H5 D0 = some (.lst vs) := t5.keep D0 _ hD4 x24 fun z => z
                    have x15 : F5.ex D0 = none := (t5.ex D0 nD4).trans x14
                    have x25 : F5.iv D0 = none := (t5.iv D0 nD4).trans x24
                    refine ⟨vs, hD5, by rw [dl.length]; exact lt_line (by omega), F5, acc ++ [y], vs ++ [v5], ((t13.trans t4).trans t5).write (.inl hD0) (by rw [hD5]; exact Option.some_ne_none _) x15 x25, x15, x25, upd_same, (dl4.ext (t5.le t4.sub).ex).append (.cons o5 .nil), by simp; omega, r2, zr2, ?_⟩
                    rw [er]
                    simp
        · refine .inl ⟨S.stop i F2 H2 l2 t2.sub (by omega), ?_⟩
          rw [List.drop_eq_nil_of_le (by omega)] at zr
          have e1 : r' = [] := by
            unfold lcL at zr
            exact (R.ok.inj zr).symm
          subst e1
          rw [List.append_nil] at er
          subst er
          exact p _ F2 H2 (t1.trans t2) ⟨D0, rfl, hD1, x1, x2, vs, r, rfl, hDv, dl⟩
    · rw [if_neg hd] at p
      exact p.elim
end
end L2.DL
set_option Elab.async false
set_option linter.all false
set_option maxRecDepth 100000
set_option autoImplicit false
/-! DH: comprehensions as rules; the calls of defs, their promises. -/
namespace L2.DL
open PySem PySem.Spec PyProof.Rows
section
variable {X : Cx} {G : Gx} {W : WX} {M M1 M2 Mt Ml : List Md} {m m1 m2 mr : Md} {e a b c tg : Expr} {f fa fb fi fv : EF} {g g1 g2 : SF} {pos tpos : Pos} {st : Stmt} {sts : List Stmt}
theorem CxOk.blk (cx : CxOk X G W) (s : Shared) (H : Hp) (scope : Scope) (cenv : Env) (fp : List Addr) : CxOk (X.blk s H scope cenv fp) G Wf := ⟨cx.calm, cx.K, cx.nd, cx.hd, cx.units, takes0⟩
theorem dts_nil : PTs X [] (rdB G Wf M bYes) := ⟨fun pins s σ H Q I ⟨F, Γ, E, p⟩ => pts_nil.run pins s σ H Q I (p F H (.refl E.sub))⟩
theorem dts_one {t : BF} (h : PTd X G Wf M c t) : PTs X [c] (rdB G Wf M t) := pts_one h
theorem d_lc {elt iter : Expr} {ifs : List Expr} {scope : Scope} {own : List (Str × Nat)} {src : AF} {h : TF} {t : BF} {fe : EF} {is : List Nat} (cx : CxOk X G W) (hi : PId X G W M tg iter src) (ok : BlkOk X.N X.env.scope scope own)
    (hg : ∀ (s : Shared) (H : Hp) (C : Addr) (cl : List (Str × Addr)) (fp : List Addr), PGd (X.blk s H scope (compEnvC scope cl C X.env) fp) G (wipeM M (own.map (·.2))) Mt is tg h)
    (ht : ∀ (s : Shared) (H : Hp) (C : Addr) (cl : List (Str × Addr)) (fp : List Addr), PTs (X.blk s H scope (compEnvC scope cl C X.env) fp) ifs (rdB G Wf Mt t))
    (he : ∀ (s : Shared) (H : Hp) (C : Addr) (cl : List (Str × Addr)) (fp : List Addr), CxOk (X.blk s H scope (compEnvC scope cl C X.env) fp) G Wf → PEd (X.blk s H scope (compEnvC scope cl C X.env) fp) G Wf Mt .s elt fe)
    (his : ∀ x ∈ is, x ∈ own.map (·.2) := by decide) (hs : ∀ x, foldedSetIterable iter X.env x = pure x := by intro _; rfl) : PEd X G W M .l (.ListComp elt [⟨tg, iter, ifs, 0⟩] scope pos) (eLc src h t fe) := by
  refine PE.monoD (pe_lc cx.calm cx.nd hi ok hg ht (fun s H C cl fp => he s H C cl fp (cx.blk s H scope _ fp)) hs) fun σ H Q ⟨F, Γ, E, p⟩ => ?_
  refine lc_read his E ?_
  cases z : eLc src h t fe Γ with
  | bad => rw [z] at p; exact p
  | err c => rw [z] at p; exact p
  | ok d => rw [z] at p; exact p
theorem eLc_lst {src : AF} {h : TF} {t : BF} {fe : EF} {Γ : List D} {d : D} (z : eLc src h t fe Γ = .ok d) : ∃ r, d = .lst r := by
  unfold eLc at z
  cases q : src Γ with
  | bad => rw [q] at z; cases z
  | err c => rw [q] at z; cases z
  | ok ds =>
    rw [q] at z
    simp only [R.bind_ok] at z
    split at z
    · split at z
      · exact ⟨_, (R.ok.inj z).symm⟩
      · cases z
    · cases z
/-- y = [..], both on one line -/
theorem d_asgLc {i : Nat} {y : Str} {py spos : Pos} {elt iter : Expr} {ifs : List Expr} {scope : Scope} {own : List (Str × Nat)} {src : AF} {h : TF} {t : BF} {fe : EF} {is : List Nat} (cx : CxOk X G W) (hi : PId X G W M tg iter src) (ok : BlkOk X.N X.env.scope scope own)
    (hg : ∀ (s : Shared) (H : Hp) (C : Addr) (cl : List (Str × Addr)) (fp : List Addr), PGd (X.blk s H scope (compEnvC scope cl C X.env) fp) G (wipeM M (own.map (·.2))) Mt is tg h)
    (ht : ∀ (s : Shared) (H : Hp) (C : Addr) (cl : List (Str × Addr)) (fp : List Addr), PTs (X.blk s H scope (compEnvC scope cl C X.env) fp) ifs (rdB G Wf Mt t))
    (he : ∀ (s : Shared) (H : Hp) (C : Addr) (cl : List (Str × Addr)) (fp : List Addr), CxOk (X.blk s H scope (compEnvC scope cl C X.env) fp) G Wf → PEd (X.blk s H scope (compEnvC scope cl C X.env) fp) G Wf Mt .s elt fe)
    (hM : M1 = M.set i .l := by rfl) (hy : X.N[i]? = some y := by rfl) (hyl : X.env.scope.names.lookup y = some .local := by rfl)
    (hsw : swapsWith (.ListComp elt [⟨tg, iter, ifs, 0⟩] scope pos) (some (.Name y py)) spos.line X.env = pure true := by exact sw_true rfl rfl rfl (by decide +kernel))
    (his : ∀ x ∈ is, x ∈ own.map (·.2) := by decide) (hs : ∀ x, foldedSetIterable iter X.env x = pure x := by intro _; rfl) : PSd X G W M M1 Ml mr (.Assign [.Name y py] (.ListComp elt [⟨tg, iter, ifs, 0⟩] scope pos) spos) (sAsg i (eLc src h t fe)) := by
  subst hM
  refine PS.monoD (ps_setLc cx.calm cx.nd hy hyl hsw hi ok hg ht (fun s H C cl fp => he s H C cl fp (cx.blk s H scope _ fp)) hs) fun C σ H ⟨F, Γ, E, p⟩ => ?_
  refine lc_read (W := W) his E ?_
  unfold sAsg at p
  have key := post_se (m := .l) (Q := fun x H1 => gName i x σ H1 C.nx) E p fun d v F1 H1 ez t o q => q _ F1 H1 (.refl F1) (E.set t o (.inr (.inl rfl)))
  cases z : eLc src h t fe Γ with
  | bad => rw [z] at key; exact key
  | err c => rw [z] at key; exact key
  | ok d => rw [z] at key; exact key

/-! ### calls of defs -/
inductive VOkM (K : PySem.W.Frag) (F : Fz) (H : Hp) : List Md → List D → List V → Prop
  | nil : VOkM K F H [] [] []
  | cons {m ms d ds v vs} : (m = .s ∨ m = .b) → VOk K m F H H d v → VOkM K F H ms ds vs → VOkM K F H (m :: ms) (d :: ds) (v :: vs)
theorem VOkM.step {K : PySem.W.Frag} {F F' : Fz} {H H' : Hp} (s : Sub F H) (t : Step S0 F H F' H') : ∀ {ms : List Md} {ds : List D} {vs : List V}, VOkM K F H ms ds vs → VOkM K F' H' ms ds vs
  | _, _, _, .nil => .nil
  | _, _, _, .cons hm h r => .cons hm (by
      rcases hm with rfl | rfl
      · exact h.step s t
      · exact h.step s t) (VOkM.step s t r)
theorem VOkM.length {K : PySem.W.Frag} {F : Fz} {H : Hp} : ∀ {ms : List Md} {ds : List D} {vs : List V}, VOkM K F H ms ds vs → ds.length = vs.length ∧ ms.length = vs.length
  | _, _, _, .nil => ⟨rfl, rfl⟩
  | _, _, _, .cons _ _ r => by simp [VOkM.length r]
def PostM (G : Gx) (W : WX) (ms : List Md) (F : Fz) (H : Hp) (σ : St) (Q : List V → Hp → Prop) : R (List D) → Prop
  | .ok ds => ∀ vs F' H', Step S0 F H F' H' → VOkM G.K F' H' ms ds vs → Q vs H'
  | .err c => ∀ F' H', Step S0 F H F' H' → W (.ref (G.cls c)) none σ H'
  | .bad => False
def rdM (G : Gx) (W : WX) (M ms : List Md) (f : AF) : TA := fun σ H Q => ∃ F Γ, EnvOk G M F H σ Γ ∧ PostM G W ms F H σ Q (f Γ)
abbrev PMd (X : Cx) (G : Gx) (W : WX) (M ms : List Md) (es : List Expr) (f : AF) : Prop := PA X es (rdM G W M ms f)
theorem dm_nil : PMd X G W M [] [] aNil := PA.monoD pa_nil fun σ H Q ⟨F, Γ, E, p⟩ => p [] F H (.refl E.sub) .nil
theorem VOk.same {K : PySem.W.Frag} {F : Fz} {Hs H H2 : Hp} {d : D} {v : V} (hm : m = .s ∨ m = .b) (h : VOk K m F Hs H d v) : VOk K m F H2 H d v := by
  rcases hm with rfl | rfl
  · exact h
  · exact h
theorem dm_cons {es : List Expr} {fr : AF} {ms : List Md} (h : PEd X G W M m e f) (r : PMd X G W M ms es fr) (hm : m = .s ∨ m = .b := by first | exact Or.inl rfl | exact Or.inr rfl) (hs : starEach (e :: es) X.env = (false, eval e X.env) :: starEach es X.env := by rfl) : PMd X G W M (m :: ms) (e :: es) (aCons f fr) := by
  refine PA.monoD (pa_cons h r hs) fun σ H Q ⟨F, Γ, E, p⟩ => ⟨F, Γ, E, ?_⟩
  unfold aCons at p
  revert p
  cases f Γ with
  | bad => exact fun z => z
  | err c => exact fun z => z
  | ok d =>
    intro p v F1 H1 t1 o1
    refine ⟨F1, Γ, E.on t1, ?_⟩
    have p' : PostM G W (m :: ms) F H σ Q ((fr Γ).bind fun xs => .ok (d :: xs)) := p
    revert p'
    cases fr Γ with
    | bad => exact fun z => z
    | err c => exact fun z F' H' t => z F' H' (t1.trans t)
    | ok ds => exact fun z vs F2 H2 t2 o2 => z _ F2 H2 (t1.trans t2) (.cons hm (VOk.same hm (o1.step t1.sub t2)) o2)
/-- what a def promises: pm the modes of its parameters, mr that of what it returns -/
def spD (K : PySem.W.Frag) (cls : Nat → Addr) (pm : List Md) (mr : Md) (mf : List D → R D) : Sp := fun vs H Q E => vs.length = pm.length ∧ ∃ F ds, Sub F H ∧ VOkM K F H pm ds vs ∧ match mf ds with
  | .ok d => ∀ v F' H', Step S0 F H F' H' → VOk K mr F' H H' d v → Q v H'
  | .err c => ∀ F' H', Step S0 F H F' H' → E (.ref (cls c)) none H'
  | .bad => False
def eCall (mf : List D → R D) (fr : AF) : EF := fun Γ => (fr Γ).bind mf
section
variable {k : Nat} {fA : Addr} {fd : FuncData} {ps : List Str} {pm : List Md} {mf : List D → R D} {fr : AF} {x : Str} {p : Pos} {es : List Expr}
theorem call_read {σ : St} {H : Hp} {Q : VK} (h : rdE G W M mr (eCall mf fr) σ H Q) : rdM G W M pm fr σ H fun vs H1 => spD G.K G.cls pm mr mf vs H1 Q (WE W σ) := by
  obtain ⟨F, Γ, E, q⟩ := h
  refine ⟨F, Γ, E, ?_⟩
  unfold eCall at q
  revert q
  cases fr Γ with
  | bad => exact fun z => z
  | err c => exact fun z => z
  | ok ds =>
    intro q vs F1 H1 t o
    refine ⟨o.length.2.symm, F1, ds, t.sub, o, ?_⟩
    have q' : PostE G W mr F H σ Q (mf ds) := q
    revert q'
    cases mf ds with
    | bad => exact fun z => z
    | err c => exact fun z F2 H2 t2 => z F2 H2 (t.trans t2)
    | ok d => exact fun z v F2 H2 t2 o2 => z v F2 H2 (t.trans t2) (o2.back t)
theorem d_call (Fn : FnOk X.prog X.w X.K X.mg X.base (L2.CX X.prog X.w) k fA fd ps (spD G.K G.cls pm mr mf)) (hr : Room k X.A) (cx : CxOk X G W) (hm : X.mg x = some (.ref fA)) (hk : PySem.W.keepIn X.K (.ref fA) = true) (hb : Binds X.K fd ps []) (ha : PMd X G W M pm (e :: es) fr) (hg : Gl X x := by rfl)
    (hdb : (x == ("__debug__" : Str)) = false := by decide) (he : starEach (e :: es) X.env = (false, eval e X.env) :: starEach es X.env := by rfl) (hpl : (backTo pos (starEach es X.env)).any (·.1) = false := by rfl) : PEd X G W M mr (.Call (.Name x p) (e :: es) [] pos) (eCall mf fr) :=
  PE.monoD (pe_callS Fn hr hg hm hk hb (fun σ => passAt cx.takes σ) ha hdb he hpl) fun σ H Q h => call_read h
theorem d_call0 (Fn : FnOk X.prog X.w X.K X.mg X.base (L2.CX X.prog X.w) k fA fd ps (spD G.K G.cls [] mr mf)) (hr : Room k X.A) (cx : CxOk X G W) (hm : X.mg x = some (.ref fA)) (hk : PySem.W.keepIn X.K (.ref fA) = true) (hb : Binds X.K fd ps []) (hg : Gl X x := by rfl)
    (hdb : (x == ("__debug__" : Str)) = false := by decide) : PEd X G W M mr (.Call (.Name x p) [] [] pos) (eCall mf aNil) := by
  refine ⟨fun pins s σ H Q I h => ?_⟩
  refine wpAny_Call_Name_kw (ld_glob I hg hm ?_ hdb)
  refine PySem.W.callWith_K0 I.kIn hk (run_fnS (us := []) Fn hr hb (passAt cx.takes σ) I .nil ?_)
  obtain ⟨F, Γ, E, q⟩ := call_read (pm := []) h
  exact q [] F H (.refl E.sub) .nil
end
/-- the mirror of a def, from its body's -/
def mOf (n k : Nat) (body : SF) : List D → R D := fun ds => if ds.length = n then
  match body (ds ++ List.replicate k .non) with
  | .ok (.rt d) => .ok d
  | .ok (.nx _) => .ok .non
  | .err c => .err c
  | _ => .bad
  else .bad
end
section
variable {P : Program} {w : World} {K : PySem.W.Frag} {mg : Str → Option Value} {base : Heap}
theorem VOkM.at {K : PySem.W.Frag} {F : Fz} {H : Hp} : ∀ {ms : List Md} {ds : List D} {vs : List V} {i : Nat} {m : Md} {d : D}, VOkM K F H ms ds vs → ms[i]? = some m → ds[i]? = some d → ∃ v, vs[i]? = some v ∧ (m = .s ∨ m = .b) ∧ VOk K m F H H d v
  | _, _, _, _, _, _, .nil, h, _ => by simp at h
  | _, _, _, 0, _, _, .cons hm h _, h1, h2 => by
    simp at h1 h2
    subst h1 h2
    exact ⟨_, rfl, hm, h⟩
  | _, _, _, i + 1, _, _, .cons _ _ r, h1, h2 => by
    obtain ⟨v, q⟩ := VOkM.at (i := i) r (by simpa using h1) (by simpa using h2)
    exact ⟨v, by simpa using q.1, q.2⟩
/-- the entry -/
theorem env_start {cls : Nat → Addr} {F : Fz} {H : Hp} {N : List Str} {pm : List Md} {ds : List D} {vs : List V} {k : Nat} (s : Sub F H) (o : VOkM K F H pm ds vs) (hk : N.length = pm.length + k) :
    EnvOk ⟨K, cls, F, H, S0, S0⟩ (pm ++ List.replicate k .u) F H (start N vs) (ds ++ List.replicate k .non) := by
  have l1 := o.length
  have e0 : start N vs = vs.map some ++ List.replicate k none := by
    unfold start
    rw [show N.length - vs.length = k by omega]
  rw [e0]
  have atM : ∀ {i n}, (pm ++ List.replicate k Md.u)[i]? = some n → (i < pm.length ∧ pm[i]? = some n) ∨ n = .u := fun {i n} h => by
    by_cases hi : i < pm.length
    · rw [List.getElem?_append_left hi] at h
      exact .inl ⟨hi, h⟩
    · rw [List.getElem?_append_right (Nat.le_of_not_lt hi)] at h
      exact .inr (List.eq_of_mem_replicate (List.mem_of_getElem? h))
  refine ⟨.refl s, by simp; omega, by simp; omega, fun i n d h1 h2 => ?_, fun i j n1 n2 a h1 h2 o1 o2 e1 e2 => ?_⟩
  · rcases atM h1 with ⟨hi, h1⟩ | rfl
    · rw [List.getElem?_append_left (by omega)] at h2
      obtain ⟨v, e, hm, q⟩ := o.at h1 h2
      have ev : (vs.map some ++ List.replicate k none).getD i none = some v := by
        rw [List.getD_eq_getElem?_getD, List.getElem?_append_left (by simp; omega), List.getElem?_map, e]
        rfl
      rw [ev]
      rcases hm with rfl | rfl
      · exact ⟨v, rfl, q⟩
      · refine ⟨v, rfl, ?_⟩
        rcases q with q | ⟨a, rfl, q⟩
        · exact .inl q
        · refine .inr ⟨a, rfl, ?_, fun z => z, q⟩
          show H a ≠ none
          rcases q with ⟨_, _, _, _, _, h, _⟩ | ⟨_, _, _, _, _, h, _⟩
          · rw [h]; exact Option.some_ne_none _
          · rw [h]; exact Option.some_ne_none _
    · trivial
  · rcases atM h1 with ⟨hi, h1⟩ | rfl
    · have hd : i < ds.length := by omega
      obtain ⟨_, _, hm, _⟩ := o.at h1 (List.getElem?_eq_getElem hd)
      rcases hm with rfl | rfl <;> cases o1
    · cases o1
/-- THE RULE for a def: its body's derivation, for every entry -/
theorem fn_d {x qual : Str} {st : Stmt} {f : Addr} {fd : FuncData} {N ps : List Str} {k nk : Nat} {cls : Nat → Addr} {pm M2 : List Md} {mr : Md} {body : SF} {mf : List D → R D} (Fn : Fun K x qual st f fd) (S : FnScope N ps (defScope st)) (hl : pm.length = ps.length) (hk : N.length = pm.length + nk) (hmf : mf = mOf pm.length nk body)
    (hnx : mr = .s ∨ (∀ Γ Γ', body Γ ≠ .ok (.nx Γ')))
    (hbody : ∀ (cdv : Value) (A : Around) (outer : List Env) (s : Shared) (H : Hp) (E : XK) (F : Fz), Room k (A.deeper (envOfC qual (defScope st) s.heap.objs.size f cdv)) →
      CxOk (cxOf (L2.CX P w) P w K mg base N qual (defScope st) f cdv A outer s H E) ⟨K, cls, F, H, S0, S0⟩ (fun c d _ H' => E c d H') →
      PassesOwn (model P w) (cxOf (L2.CX P w) P w K mg base N qual (defScope st) f cdv A outer s H E).A (cxOf (L2.CX P w) P w K mg base N qual (defScope st) f cdv A outer s H E).env (cxOf (L2.CX P w) P w K mg base N qual (defScope st) f cdv A outer s H E).xe →
      PSsd (cxOf (L2.CX P w) P w K mg base N qual (defScope st) f cdv A outer s H E) ⟨K, cls, F, H, S0, S0⟩ (fun c d _ H' => E c d H') (pm ++ List.replicate nk .u) M2 [] mr (defBody st) body) :
    FnOk P w K mg base (L2.CX P w) (k + 1) f fd ps (spD K cls pm mr mf) := by
  subst hmf
  refine Fn.okX S (fun vs H Q E h => h.1.trans hl) fun cdv A outer s H vs Q E hr h => ?_
  obtain ⟨hlen, F, ds, sub, o, q⟩ := h
  have cx : CxOk (cxOf (L2.CX P w) P w K mg base N qual (defScope st) f cdv A outer s H E) ⟨K, cls, F, H, S0, S0⟩ (fun c d _ H' => E c d H') :=
    ⟨rfl, rfl, S.nd, hr.hd, hr.units, takes_of rfl rfl rfl rfl⟩
  refine ⟨_, hbody cdv A outer s H E F hr cx (passes_of rfl), F, _, env_start (N := N) sub o hk, ?_⟩
  have ld : ds.length = pm.length := by
    have := o.length
    omega
  unfold mOf at q
  rw [if_pos ld] at q
  cases z : body (ds ++ List.replicate nk .non) with
  | bad => rw [z] at q; exact q
  | err c =>
    rw [z] at q
    exact fun σ' F' H' t => q F' H' t
  | ok fl =>
    rw [z] at q
    cases fl with
    | rt d => exact fun v F' H' t o => q v F' H' t o
    | nx Γ =>
      rcases hnx with rfl | hnx
      · intro σ' F' H' l E'
        exact q .non F' H' E'.step .non
      · exact (hnx _ _ z).elim
    | bk Γ => exact q.elim
    | ct Γ => exact q.elim
end
end L2.DL
set_option Elab.async false
set_option linter.all false
set_option maxRecDepth 100000
set_option autoImplicit false
/-! DI: the operators and built-ins, by data. -/
namespace L2.DL
open PySem PySem.Spec PyProof.Rows
section
variable {X : Cx} {G : Gx} {W : WX}
theorem OpR.monoD {f : Value → Value → Sem Value} {r r' : R2} (h : OpR X f r) (i : ∀ x y H Q, r' x y H Q → r x y H Q) : OpR X f r' := fun pins s σ H x y v u Q I rx ry q => h pins s σ H x y v u Q I rx ry (i x y H Q q)
theorem UnR.monoD {f : Value → Sem Value} {r r' : V → Hp → VK → Prop} (h : UnR X f r) (i : ∀ x H Q, r' x H Q → r x H Q) : UnR X f r' := fun pins s σ H x v Q I rx q => h pins s σ H x v Q I rx (i x H Q q)
theorem CallR.monoD {f : Value} {r r' : List V → Hp → VK → Prop} (h : CallR X f r) (i : ∀ x H Q, r' x H Q → r x H Q) : CallR X f r' := fun pins s σ H x v Q I rx q => h pins s σ H x v Q I rx (i x H Q q)
theorem IxR.monoD {r r' : R2} (h : IxR X r) (i : ∀ x y H Q, r' x y H Q → r x y H Q) : IxR X r' := fun va sl pins s σ H x y v u Q I rx ry q => h va sl pins s σ H x y v u Q I rx ry (i x y H Q q)
/-- a new object as an answer -/
theorem new_lst {K : PySem.W.Frag} {F : Fz} {H : Hp} {ds : List D} {vs : List V} {Q : VK} {p : Addr} (s : Sub F H) (d : DenL K F.ex ds vs) (hp : H p = none) (q : ∀ v F' H', Step S0 F H F' H' → VOk K .l F' H H' (.lst ds) v → Q v H') : Q (.ref p) (upd H p (.lst vs)) :=
  q _ F _ (Step.new s hp) ⟨p, rfl, hp, (s.nil_ hp).1, (s.nil_ hp).2, vs, ds, rfl, upd_same, d⟩
theorem new_tup {K : PySem.W.Frag} {F : Fz} {H : Hp} {ds : List D} {vs : List V} {Q : VK} {p : Addr} (s : Sub F H) (d : DenL K F.ex ds vs) (hp : H p = none) (q : ∀ v F' H', Step S0 F H F' H' → VOk K .s F' H H' (.tup ds) v → Q v H') : Q (.ref p) (upd H p (.tup vs)) :=
  q _ _ _ (den_new (K := K) s hp) (.tup (.of upd_same) (d.ext (ext_upd (s.nil_ hp).1)))
theorem ans {K : PySem.W.Frag} {F : Fz} {H : Hp} {d : D} {v : V} {Q : VK} (s : Sub F H) (dn : Den K F.ex d v) (q : ∀ v F' H', Step S0 F H F' H' → VOk K .s F' H H' d v → Q v H') : Q v H := q v F H (.refl s) dn
theorem Bor.tupD {K : PySem.W.Frag} {F : Fz} {H : Hp} {l : List D} {v : V} (b : Bor K F H (.tup l) v) : Den K F.ex (.tup l) v := by
  rcases b with h | ⟨_, _, ⟨_, _, _, _, e, _⟩ | ⟨_, _, _, _, e, _⟩⟩
  · exact h
  · cases e
  · cases e

/-! ### + - * // % -/
def addI : D → D → Option D
  | .int i, .int j => some (.int (i + j))
  | _, _ => none
def addL : D → D → Option D
  | .lst a, .lst b => if a.length + b.length ≤ 1000000 then some (.lst (a ++ b)) else none
  | _, _ => none
def addT : D → D → Option D
  | .tup a, .tup b => if a.length + b.length ≤ 1000000 then some (.tup (a ++ b)) else none
  | _, _ => none
def subI : D → D → Option D
  | .int i, .int j => some (.int (i - j))
  | _, _ => none
/-- products: one factor within 2^64 -/
def mulOk (i j : Int) : Bool := decide ((-(2 ^ 64) < i ∧ i < 2 ^ 64) ∨ (-(2 ^ 64) < j ∧ j < 2 ^ 64))
def mulI : D → D → Option D
  | .int i, .int j => if mulOk i j then some (.int (i * j)) else none
  | _, _ => none
def mulL : D → D → Option D
  | .lst a, .int k => if (-1000000 ≤ k ∧ k ≤ 1000000) ∧ a.length * k.toNat ≤ 1000000 then some (.lst (List.replicate k.toNat a).flatten) else none
  | _, _ => none
def fdivI : D → D → Option D
  | .int i, .int j => if 0 < j ∧ j < 1073741824 then some (.int (i / j)) else none
  | _, _ => none
def modI : D → D → Option D
  | .int i, .int j => if 0 < j then some (.int (i % j)) else none
  | _, _ => none
def powI : D → D → Option D
  | .int i, .int j => if 0 ≤ j ∧ j ≤ 1000 ∧ i.natAbs < 2 ^ 64 then some (.int (i ^ j.toNat)) else none
  | _, _ => none
theorem o_addI : OpR X (binaryOp .Add) (rd2 G.K .s addI) := OpR.monoD op_add fun x y H Q ⟨F, d, e, z, s, bx, b_y, ez, q⟩ => by
  unfold addI at ez
  split at ez
  · cases ez
    exact ⟨_, _, bx.int, b_y.int, ans s (.int _) q⟩
  · cases ez
theorem o_subI : OpR X (binaryOp .Sub) (rd2 G.K .s subI) := OpR.monoD op_sub fun x y H Q ⟨F, d, e, z, s, bx, b_y, ez, q⟩ => by
  unfold subI at ez
  split at ez
  · cases ez
    exact ⟨_, _, bx.int, b_y.int, ans s (.int _) q⟩
  · cases ez
theorem o_mulI : OpR X (binaryOp .Mult) (rd2 G.K .s mulI) := OpR.monoD op_mul fun x y H Q ⟨F, d, e, z, s, bx, b_y, ez, q⟩ => by
  unfold mulI at ez
  split at ez
  · split at ez
    · rename_i h
      cases ez
      have h2 := of_decide_eq_true h
      exact ⟨_, _, bx.int, b_y.int, h2, ans s (.int _) q⟩
    · cases ez
  · cases ez
theorem o_fdivI : OpR X (binaryOp .FloorDiv) (rd2 G.K .s fdivI) := OpR.monoD op_fdiv fun x y H Q ⟨F, d, e, z, s, bx, b_y, ez, q⟩ => by
  unfold fdivI at ez
  split at ez
  · split at ez
    · rename_i h
      cases ez
      exact ⟨_, _, bx.int, b_y.int, h, ans s (.int _) q⟩
    · cases ez
  · cases ez
theorem o_modI : OpR X (binaryOp .Mod) (rd2 G.K .s modI) := OpR.monoD op_mod fun x y H Q ⟨F, d, e, z, s, bx, b_y, ez, q⟩ => by
  unfold modI at ez
  split at ez
  · split at ez
    · rename_i h
      cases ez
      exact ⟨_, _, bx.int, b_y.int, h, ans s (.int _) q⟩
    · cases ez
  · cases ez
theorem o_powI : OpR X (binaryOp .Pow) (rd2 G.K .s powI) := OpR.monoD op_pow fun x y H Q ⟨F, d, e, z, s, bx, b_y, ez, q⟩ => by
  unfold powI at ez
  split at ez
  · split at ez
    · rename_i h
      cases ez
      exact ⟨_, _, bx.int, b_y.int, ⟨h.1, by omega, h.2.2⟩, ans s (.int _) q⟩
    · cases ez
  · cases ez
theorem o_addL : OpR X (binaryOp .Add) (rd2 G.K .l addL) := OpR.monoD op_cat fun x y H Q ⟨F, d, e, z, s, bx, b_y, ez, q⟩ => by
  unfold addL at ez
  split at ez
  · split at ez
    · rename_i h
      cases ez
      obtain ⟨a, vs, rfl, ha, da⟩ := bx.lst s
      obtain ⟨b, ws, rfl, hb, db⟩ := b_y.lst s
      exact ⟨a, b, vs, ws, rfl, rfl, ha, hb, by rw [da.length, db.length]; exact Nat.le_trans h (by decide), fun p hp => new_lst s (da.append db) hp q⟩
    · cases ez
  · cases ez
theorem o_addT (hK : X.K = G.K) : OpR X (binaryOp .Add) (rd2 G.K .s addT) := OpR.monoD op_catA fun x y H Q ⟨F, d, e, z, s, bx, b_y, ez, q⟩ => by
  unfold addT at ez
  split at ez
  · split at ez
    · rename_i h
      cases ez
      obtain ⟨a, vs, rfl, ha, da⟩ := bx.tup s
      obtain ⟨b, ws, rfl, hb, db⟩ := b_y.tup s
      have dy := b_y.tupD
      have dx := bx.tupD
      refine ⟨a, b, vs, ws, rfl, rfl, by rw [hK]; exact ha, by rw [hK]; exact hb, by rw [da.length, db.length]; exact Nat.le_trans h (by decide), fun e => ?_, fun e1 e2 => ?_, fun e1 e2 p hp => new_tup s (da.append db) hp q⟩
      · subst e
        cases da
        exact ans s dy q
      · subst e2
        cases db
        rw [List.append_nil] at q
        exact ans s dx q
    · cases ez
  · cases ez
theorem o_mulL : OpR X (binaryOp .Mult) (rd2 G.K .l mulL) := OpR.monoD op_rep fun x y H Q ⟨F, d, e, z, s, bx, b_y, ez, q⟩ => by
  unfold mulL at ez
  split at ez
  · split at ez
    · rename_i h
      cases ez
      obtain ⟨a, vs, rfl, ha, da⟩ := bx.lst s
      exact ⟨a, _, vs, rfl, b_y.int, ha, by omega, by omega, by rw [da.length]; exact Nat.le_trans h.2 (by decide), fun p hp => new_lst s (da.flat _) hp q⟩
    · cases ez
  · cases ez
theorem o_iaddI : OpR X (inplaceOp .Add) (rd2 G.K .s addI) := OpR.monoD iop_add fun x y H Q ⟨F, d, e, z, s, bx, b_y, ez, q⟩ => by
  unfold addI at ez
  split at ez
  · cases ez
    exact ⟨_, _, bx.int, b_y.int, ans s (.int _) q⟩
  · cases ez
theorem o_isubI : OpR X (inplaceOp .Sub) (rd2 G.K .s subI) := OpR.monoD iop_sub fun x y H Q ⟨F, d, e, z, s, bx, b_y, ez, q⟩ => by
  unfold subI at ez
  split at ez
  · cases ez
    exact ⟨_, _, bx.int, b_y.int, ans s (.int _) q⟩
  · cases ez
def negI : D → Option D
  | .int i => some (.int (-i))
  | _ => none
theorem o_neg : UnR X (unaryOp .USub) (rd1 G.K .s negI) := UnR.monoD un_neg fun x H Q ⟨F, d, z, s, bx, ez, q⟩ => by
  unfold negI at ez
  split at ez
  · cases ez
    exact ⟨_, bx.int, ans s (.int _) q⟩
  · cases ez

/-! ### comparisons -/
def cmpI (p : Int → Int → Bool) : D → D → Option D
  | .int i, .int j => some (.bl (p i j))
  | _, _ => none
abbrev ltI : D → D → Option D := cmpI fun i j => decide (i < j)
abbrev leI : D → D → Option D := cmpI fun i j => decide (i ≤ j)
abbrev gtI : D → D → Option D := cmpI fun i j => decide (j < i)
abbrev geI : D → D → Option D := cmpI fun i j => decide (j ≤ i)
theorem o_cmpI {op : CmpOp} {p : Int → Int → Bool} (h : OpR X (compareOp op) (rI0 fun i j => .bl (p i j))) : OpR X (compareOp op) (rd2 G.K .s (cmpI p)) := OpR.monoD h fun x y H Q ⟨F, d, e, z, s, bx, b_y, ez, q⟩ => by
  unfold cmpI at ez
  split at ez
  · cases ez
    exact ⟨_, _, bx.int, b_y.int, ans s (.bl _) q⟩
  · cases ez
theorem o_lt : OpR X (compareOp .Lt) (rd2 G.K .s ltI) := o_cmpI op_lt
theorem o_le : OpR X (compareOp .LtE) (rd2 G.K .s leI) := o_cmpI op_le
theorem o_gt : OpR X (compareOp .Gt) (rd2 G.K .s gtI) := o_cmpI op_gt
theorem o_ge : OpR X (compareOp .GtE) (rd2 G.K .s geI) := o_cmpI op_ge
/-! data as PyData, for == -/
mutual
def pyD : D → Option PyData
  | .non => some .none
  | .bl b => some (.bool b)
  | .int i => some (.int i)
  | .str x => some (.str x)
  | .tup l => (pyL l).map .tuple
  | .lst l => (pyL l).map .list
  | .scr l => (pyL l).map .list
  | .dct _ => none
def pyL : List D → Option (List PyData)
  | [] => some []
  | d :: ds => (pyD d).bind fun x => (pyL ds).map fun xs => x :: xs
end
section
variable {K : PySem.W.Frag} {X H : Hp} (e : Ext X H)
include e
theorem dp_both {d : D} {v : V} (h : Den K X d v) : ∀ p, pyD d = some p → Dp K H v p := by
  refine Den.rec (K := K) (X := X) (motive_1 := fun d v _ => ∀ p, pyD d = some p → Dp K H v p) (motive_2 := fun ds vs _ => ∀ p, pyL ds = some p → DpAll K H vs p) (motive_3 := fun _ _ _ => True) ?_ ?_ ?_ ?_ ?_ ?_ ?_ ?_ ?_ ?_ ?_ ?_ h
  · intro p hp
    simp only [pyD, Option.some.injEq] at hp
    subst hp
    exact .non
  · intro b p hp
    simp only [pyD, Option.some.injEq] at hp
    subst hp
    exact .bl b
  · intro b p hp
    simp only [pyD, Option.some.injEq] at hp
    subst hp
    exact .int b
  · intro b p hp
    simp only [pyD, Option.some.injEq] at hp
    subst hp
    exact .str b
  · intro a vs ds hs hd ih p hp
    simp only [pyD, Option.map_eq_some_iff] at hp
    obtain ⟨xs, q, rfl⟩ := hp
    exact .tup (sqT_ext e hs) (ih _ q)
  · intro a vs ds hs hd ih p hp
    simp only [pyD, Option.map_eq_some_iff] at hp
    obtain ⟨xs, q, rfl⟩ := hp
    exact .lst (.of (e _ _ hs)) (ih _ q)
  · intro a vs ds hs hd ih p hp
    simp only [pyD, Option.map_eq_some_iff] at hp
    obtain ⟨xs, q, rfl⟩ := hp
    exact .lst (sqL_ext e hs) (ih _ q)
  · intro a kvs ks hs hd ih p hp
    simp only [pyD] at hp
    cases hp
  · intro p hp
    simp only [pyL, Option.some.injEq] at hp
    subst hp
    exact .nil
  · intro d v ds vs h1 h2 i1 i2 p hp
    simp only [pyL, Option.bind_eq_some_iff, Option.map_eq_some_iff] at hp
    obtain ⟨x, q1, xs, q2, rfl⟩ := hp
    exact .cons (i1 _ q1) (i2 _ q2)
  · trivial
  · intros
    trivial
end
theorem dp_den {K : PySem.W.Frag} {X H : Hp} (e : Ext X H) {d : D} {v : V} {p : PyData} (h : Den K X d v) (hp : pyD d = some p) : Dp K H v p := dp_both e h p hp
theorem dp_denL {K : PySem.W.Frag} {X H : Hp} (e : Ext X H) : ∀ {d : List D} {v : List V} {p : List PyData}, DenL K X d v → pyL d = some p → DpAll K H v p
  | _, _, _, .nil, h => by
    simp only [pyL, Option.some.injEq] at h
    subst h
    exact .nil
  | d :: ds, _, p, .cons h1 h2, h => by
    simp only [pyL, Option.bind_eq_some_iff, Option.map_eq_some_iff] at h
    obtain ⟨x, q1, xs, q2, rfl⟩ := h
    exact .cons (dp_den e h1 q1) (dp_denL e h2 q2)
theorem dp_bor {K : PySem.W.Frag} {F : Fz} {H : Hp} {d : D} {v : V} {p : PyData} (s : Sub F H) (h : Bor K F H d v) (e : pyD d = some p) : Dp K H v p := by
  rcases h with h | ⟨a, rfl, h | h⟩
  · exact dp_den s.ex h e
  · obtain ⟨_, _, vs, ds, rfl, h3, h4⟩ := h
    unfold pyD at e
    cases q : pyL ds with
    | none => rw [q] at e; cases e
    | some xs =>
      rw [q] at e
      cases e
      exact .lst (.of h3) (dp_denL s.ex h4 q)
  · obtain ⟨_, _, vs, ds, rfl, h3, h4⟩ := h
    cases e
def eqD : D → D → Option D := fun d e => (pyD d).bind fun p => (pyD e).bind fun q => if SeqAt.shaped p && SeqAt.shaped q then some (.bl (PyData.eqv p q)) else none
def neD : D → D → Option D := fun d e => (pyD d).bind fun p => (pyD e).bind fun q => if SeqAt.shaped p && SeqAt.shaped q then some (.bl (!PyData.eqv p q)) else none
theorem o_eq (cx : CxOk X G W) : OpR X (compareOp .Eq) (rd2 G.K .s eqD) := OpR.monoD (op_eqD cx.units) fun x y H Q ⟨F, d, e, z, s, bx, b_y, ez, q⟩ => by
  unfold eqD at ez
  cases p1 : pyD d with
  | none => rw [p1] at ez; cases ez
  | some p =>
    cases p2 : pyD e with
    | none => rw [p1, p2] at ez; cases ez
    | some r =>
      rw [p1, p2] at ez
      have ez : (if SeqAt.shaped p && SeqAt.shaped r then some (D.bl (PyData.eqv p r)) else none) = some z := ez
      split at ez
      · rename_i h
        rw [Bool.and_eq_true] at h
        cases ez
        exact ⟨p, r, by rw [cx.K]; exact dp_bor s bx p1, by rw [cx.K]; exact dp_bor s b_y p2, h.1, h.2, ans s (.bl _) q⟩
      · cases ez
theorem o_ne (cx : CxOk X G W) : OpR X (compareOp .NotEq) (rd2 G.K .s neD) := OpR.monoD (op_neD cx.units) fun x y H Q ⟨F, d, e, z, s, bx, b_y, ez, q⟩ => by
  unfold neD at ez
  cases p1 : pyD d with
  | none => rw [p1] at ez; cases ez
  | some p =>
    cases p2 : pyD e with
    | none => rw [p1, p2] at ez; cases ez
    | some r =>
      rw [p1, p2] at ez
      have ez : (if SeqAt.shaped p && SeqAt.shaped r then some (D.bl (!PyData.eqv p r)) else none) = some z := ez
      split at ez
      · rename_i h
        rw [Bool.and_eq_true] at h
        cases ez
        exact ⟨p, r, by rw [cx.K]; exact dp_bor s bx p1, by rw [cx.K]; exact dp_bor s b_y p2, h.1, h.2, ans s (.bl _) q⟩
      · cases ez
def isND : D → D → Option D
  | .non, .non => some (.bl true)
  | _, .non => some (.bl false)
  | _, _ => none
def notND : D → D → Option D
  | .non, .non => some (.bl false)
  | _, .non => some (.bl true)
  | _, _ => none
theorem bor_non {K : PySem.W.Frag} {F : Fz} {H : Hp} {d : D} {x : V} (b : Bor K F H d x) : decide (x = .non) = (match d with
    | .non => true
    | _ => false) := by
  rcases b with b | ⟨a, rfl, b⟩
  · cases b <;> rfl
  · rcases b with ⟨_, _, _, _, rfl, _⟩ | ⟨_, _, _, _, rfl, _⟩ <;> rfl
theorem o_isN : OpR X (compareOp .Is) (rd2 G.K .s isND) := OpR.monoD op_isN fun x y H Q ⟨F, d, e, z, s, bx, b_y, ez, q⟩ => by
  cases e with
  | non =>
    refine ⟨b_y.non, ?_⟩
    rw [bor_non bx]
    cases d <;> (cases ez; exact ans s (.bl _) q)
  | _ => cases d <;> cases ez
theorem o_notN : OpR X (compareOp .IsNot) (rd2 G.K .s notND) := OpR.monoD op_notN fun x y H Q ⟨F, d, e, z, s, bx, b_y, ez, q⟩ => by
  cases e with
  | non =>
    refine ⟨b_y.non, ?_⟩
    rw [bor_non bx]
    cases d <;> (cases ez; exact ans s (.bl _) q)
  | _ => cases d <;> cases ez

/-! ### subscripts, slices -/
def ixD : D → D → Option D
  | .lst l, .int i => atI l i
  | .scr l, .int i => atI l i
  | .tup l, .int i => atI l i
  | .str z, .int i => if z.length ≤ 1000000 then (atI z.cps.toList i).map fun c => .str ⟨#[c]⟩ else none
  | _, _ => none
theorem den_at {K : PySem.W.Frag} {X : Hp} {ds : List D} {vs : List V} {i : Int} {d : D} (h : DenL K X ds vs) (e : atI ds i = some d) : ∃ v, atI vs i = some v ∧ Den K X d v := by
  unfold atI at e ⊢
  rw [h.length]
  cases q : ixN ds.length i with
  | none => rw [q] at e; cases e
  | some j =>
    rw [q] at e
    exact h.get e
theorem o_ix (cx : CxOk X G W) : IxR X (rd2 G.K .s ixD) := IxR.monoD ix_seq fun x y H Q ⟨F, d, e, z, s, bx, b_y, ez, q⟩ => by
  unfold ixD at ez
  split at ez
  · obtain ⟨a, vs, rfl, ha, da⟩ := bx.lst s
    obtain ⟨v, e1, e2⟩ := den_at da ez
    exact .inl ⟨a, vs, _, v, rfl, b_y.int, .of ha, e1, ans s e2 q⟩
  · obtain ⟨a, vs, rfl, ha, da⟩ := bx.scr s
    obtain ⟨v, e1, e2⟩ := den_at da ez
    exact .inl ⟨a, vs, _, v, rfl, b_y.int, by rw [cx.K]; exact ha, e1, ans s e2 q⟩
  · obtain ⟨a, vs, rfl, ha, da⟩ := bx.tup s
    obtain ⟨v, e1, e2⟩ := den_at da ez
    exact .inr (.inl ⟨a, vs, _, v, rfl, b_y.int, by rw [cx.K]; exact ha, e1, ans s e2 q⟩)
  · rename_i z i
    split at ez
    · rename_i hz
      cases qq : atI z.cps.toList i with
      | none => rw [qq] at ez; cases ez
      | some c =>
        rw [qq] at ez
        cases ez
        exact .inr (.inr ⟨z, i, c, bx.str, b_y.int, Nat.le_trans hz (by decide), qq, ans s (.str _) q⟩)
    · cases ez
  · cases ez
end
section
variable {X : Cx} {G : Gx} {W : WX} {M : List Md} {m m1 m2 : Md} {e a b c : Expr} {f fa fb fc : EF} {pos p2 : Pos}
/-- the bounds of a slice -/
def eCut (k : List D → Option Int → Option Int → Option D) (f : EF) (fl fh : List D → R (Option Int)) : EF := fun Γ => (f Γ).bind fun d => (fl Γ).bind fun lo => (fh Γ).bind fun hi => match seqD d with
  | some l => R.of (k l lo hi)
  | none => .bad
def oNo : List D → R (Option Int) := fun _ => .ok none
def oAt (f : EF) : List D → R (Option Int) := fun Γ => (f Γ).bind fun d => match d with
  | .int i => .ok (some i)
  | _ => .bad
def cutD (l : List D) (lo hi : Option Int) : List D := (l.drop (HT.sIx l.length 0 lo)).take (HT.sIx l.length l.length hi - HT.sIx l.length 0 lo)
def rdO (G : Gx) (W : WX) (M : List Md) (f : List D → R (Option Int)) : TO := fun σ H Q => ∃ F Γ, EnvOk G M F H σ Γ ∧ match f Γ with
  | .ok o => ∀ F' H', Step S0 F H F' H' → Q o H'
  | .err c => ∀ F' H', Step S0 F H F' H' → W (.ref (G.cls c)) none σ H'
  | .bad => False
theorem PO.monoD {e : Option Expr} {t t' : TO} (h : PO X e t) (i : ∀ σ H Q, t' σ H Q → t σ H Q) : PO X e t' := ⟨fun pins s σ H Q I q => h.run pins s σ H Q I (i σ H Q q)⟩
theorem do_none : PO X none (rdO G W M oNo) := PO.monoD po_none fun σ H Q ⟨F, Γ, E, p⟩ => p F H (.refl E.sub)
theorem do_some (h : PEd X G W M m e f) : PO X (some e) (rdO G W M (oAt f)) := PO.monoD (po_some h) fun σ H Q ⟨F, Γ, E, p⟩ => ⟨F, Γ, E, by
  unfold oAt at p
  revert p
  cases f Γ with
  | bad => exact fun z => z
  | err c => exact fun z => z
  | ok d =>
    intro p v F1 H1 t o
    cases d with
    | int i => exact ⟨i, o.bor.int, p F1 H1 t⟩
    | _ => exact (show False from p).elim⟩
/-- x[lo:hi] of a list: a new one -/
def cutL : D → Option Int → Option Int → Option D
  | .lst l, lo, hi => some (.lst (cutD l lo hi))
  | .scr l, lo, hi => some (.lst (cutD l lo hi))
  | _, _, _ => none
def cutT : D → Option Int → Option Int → Option D
  | .tup l, lo, hi => some (.tup (cutD l lo hi))
  | _, _, _ => none
def eSl (k : D → Option Int → Option Int → Option D) (f : EF) (fl fh : List D → R (Option Int)) : EF := fun Γ => (f Γ).bind fun d => (fl Γ).bind fun lo => (fh Γ).bind fun hi => R.of (k d lo hi)
theorem DenL.cut {K : PySem.W.Frag} {X : Hp} {ds : List D} {vs : List V} (h : DenL K X ds vs) (lo hi : Option Int) : DenL K X (cutD ds lo hi) (cutV vs lo hi) := by
  unfold cutD cutV
  rw [h.length]
  exact (h.drop _).take _
theorem sl_read {k : D → Option Int → Option Int → Option D} {r : V → Option Int → Option Int → Hp → VK → Prop} {fl fh : List D → R (Option Int)}
    (hr : ∀ (F : Fz) (H : Hp) (d z : D) (x : V) (lo hi : Option Int) (Q : VK), Sub F H → Bor G.K F H d x → k d lo hi = some z → (∀ v F' H', Step S0 F H F' H' → VOk G.K m F' H H' z v → Q v H') → r x lo hi H Q) {σ : St} {H : Hp} {Q : VK} (h : rdE G W M m (eSl k f fl fh) σ H Q) :
    tSl r (rdE G W M m1 f) (rdO G W M fl) (rdO G W M fh) σ H Q := by
  obtain ⟨F, Γ, E, p⟩ := h
  refine ⟨F, Γ, E, PostE.then (Q' := Q) p (fun d v F1 H1 _ t1 o1 p1 => ?_) E.sub⟩
  refine ⟨F1, Γ, E.on t1, ?_⟩
  revert p1
  cases fl Γ with
  | bad => exact fun z => z
  | err c => exact fun z => z
  | ok lo =>
    intro p1 F2 H2 t2
    refine ⟨F2, Γ, (E.on t1).on t2, ?_⟩
    have p1 : PostE G W m F1 H1 σ Q ((fh Γ).bind fun hi => R.of (k d lo hi)) := p1
    revert p1
    cases fh Γ with
    | bad => exact fun z => z
    | err c => exact fun z F' H' t => z F' H' (t2.trans t)
    | ok hi =>
      intro p1 F3 H3 t3
      obtain ⟨z, ez, q⟩ := post_of (show PostE G W m F1 H1 σ Q (R.of (k d lo hi)) from p1)
      have t13 := t2.trans t3
      exact hr F3 H3 d z v lo hi Q t3.sub (o1.step t1.sub t13).bor ez fun v F' H' t o => q v F' H' (t13.trans t) (o.back t13)
theorem d_slL {lo hi : Option Expr} {fl fh : List D → R (Option Int)} (cx : CxOk X G W) (h : PEd X G W M m1 e f) (hl : PO X lo (rdO G W M fl)) (hh : PO X hi (rdO G W M fh)) : PEd X G W M .l (.Subscript e (.Slice lo hi none p2) pos) (eSl cutL f fl fh) := by
  refine PE.monoD (pe_slice sl_list h hl hh) fun σ H Q hq => sl_read (m := .l) (fun F H d z x lo hi Q s b ez q => ?_) hq
  unfold cutL at ez
  split at ez
  · cases ez
    obtain ⟨a, vs, rfl, ha, da⟩ := b.lst s
    exact ⟨a, vs, rfl, .of ha, fun p hp => new_lst s (da.cut lo hi) hp q⟩
  · cases ez
    obtain ⟨a, vs, rfl, ha, da⟩ := b.scr s
    exact ⟨a, vs, rfl, by rw [cx.K]; exact ha, fun p hp => new_lst s (da.cut lo hi) hp q⟩
  · cases ez
theorem d_slT {lo hi : Option Expr} {fl fh : List D → R (Option Int)} (cx : CxOk X G W) (h : PEd X G W M m1 e f) (hl : PO X lo (rdO G W M fl)) (hh : PO X hi (rdO G W M fh)) : PEd X G W M .s (.Subscript e (.Slice lo hi none p2) pos) (eSl cutT f fl fh) := by
  refine PE.monoD (pe_slice sl_tupA h hl hh) fun σ H Q hq => sl_read (m := .s) (fun F H d z x lo hi Q s b ez q => ?_) hq
  unfold cutT at ez
  split at ez
  · cases ez
    rename_i l
    have db := b.tupD
    obtain ⟨a, vs, rfl, ha, da⟩ := b.tup s
    refine ⟨a, vs, rfl, by rw [cx.K]; exact ha, fun hw => ?_, fun _ p hp => new_tup s (da.cut lo hi) hp q⟩
    have e : cutD l lo hi = l := by
      unfold cutD
      rw [← da.length, hw.1, hw.2, List.drop_zero]
      exact List.take_of_length_le (by rw [da.length]; omega)
    rw [e] at q
    exact ans s db q
  · cases ez

/-! ### built-ins -/
def lenD : List D → Option D
  | [.lst l] => some (.int l.length)
  | [.scr l] => some (.int l.length)
  | [.tup l] => some (.int l.length)
  | _ => none
theorem BorL.one {K : PySem.W.Frag} {F : Fz} {H : Hp} {d : D} {xs : List V} (h : BorL K F H [d] xs) : ∃ v, xs = [v] ∧ Bor K F H d v := by
  cases h with
  | cons h r =>
    cases r
    exact ⟨_, rfl, h⟩
theorem BorL.two {K : PySem.W.Frag} {F : Fz} {H : Hp} {d e : D} {xs : List V} (h : BorL K F H [d, e] xs) : ∃ v u, xs = [v, u] ∧ Bor K F H d v ∧ Bor K F H e u := by
  cases h with
  | cons h r =>
    cases r with
    | cons h2 r2 =>
      cases r2
      exact ⟨_, _, rfl, h, h2⟩
theorem c_len (cx : CxOk X G W) : CallR X (.builtin "len") (rdN G.K .s lenD) := CallR.monoD call_len_seq fun xs H Q ⟨F, ds, z, s, b, ez, q⟩ => by
  unfold lenD at ez
  split at ez
  · cases ez
    obtain ⟨v, rfl, c⟩ := b.one
    obtain ⟨a, vs, rfl, ha, da⟩ := c.lst s
    exact ⟨a, vs, rfl, .inl (.of ha), by rw [da.length]; exact ans s (.int _) q⟩
  · cases ez
    obtain ⟨v, rfl, c⟩ := b.one
    obtain ⟨a, vs, rfl, ha, da⟩ := c.scr s
    exact ⟨a, vs, rfl, .inl (by rw [cx.K]; exact ha), by rw [da.length]; exact ans s (.int _) q⟩
  · cases ez
    obtain ⟨v, rfl, c⟩ := b.one
    obtain ⟨a, vs, rfl, ha, da⟩ := c.tup s
    exact ⟨a, vs, rfl, .inr (by rw [cx.K]; exact ha), by rw [da.length]; exact ans s (.int _) q⟩
  · cases ez
def absD : List D → Option D
  | [.int i] => some (.int (if i < 0 then -i else i))
  | _ => none
theorem c_abs : CallR X (.builtin "abs") (rdN G.K .s absD) := CallR.monoD call_abs fun xs H Q ⟨F, ds, z, s, b, ez, q⟩ => by
  unfold absD at ez
  split at ez
  · cases ez
    obtain ⟨v, rfl, c⟩ := b.one
    exact ⟨_, by rw [c.int], ans s (.int _) q⟩
  · cases ez
def max2D : List D → Option D
  | [.int i, .int j] => some (.int (if j > i then j else i))
  | _ => none
def min2D : List D → Option D
  | [.int i, .int j] => some (.int (if j < i then j else i))
  | _ => none
theorem c_max2 (cx : CxOk X G W) : CallR X (.builtin "max") (rdN G.K .s max2D) := CallR.monoD (call_max2 cx.calm) fun xs H Q ⟨F, ds, z, s, b, ez, q⟩ => by
  unfold max2D at ez
  split at ez
  · cases ez
    obtain ⟨v, u, rfl, c, c2⟩ := b.two
    exact ⟨_, _, by rw [c.int, c2.int], ans s (.int _) q⟩
  · cases ez
theorem c_min2 (cx : CxOk X G W) : CallR X (.builtin "min") (rdN G.K .s min2D) := CallR.monoD (call_min2 cx.calm) fun xs H Q ⟨F, ds, z, s, b, ez, q⟩ => by
  unfold min2D at ez
  split at ez
  · cases ez
    obtain ⟨v, u, rfl, c, c2⟩ := b.two
    exact ⟨_, _, by rw [c.int, c2.int], ans s (.int _) q⟩
  · cases ez
def int1D : List D → Option D
  | [.int i] => some (.int i)
  | [.bl b] => some (.int (if b then 1 else 0))
  | _ => none
theorem c_int : CallR X (.type "int") (rdN G.K .s int1D) := CallR.monoD call_int1 fun xs H Q ⟨F, ds, z, s, b, ez, q⟩ => by
  unfold int1D at ez
  split at ez
  · cases ez
    obtain ⟨v, rfl, c⟩ := b.one
    exact .inl ⟨_, by rw [c.int], ans s (.int _) q⟩
  · cases ez
    obtain ⟨v, rfl, c⟩ := b.one
    exact .inr ⟨_, by rw [c.bl], ans s (.int _) q⟩
  · cases ez
/-- all ints -/
def intsD : List D → Option (List Int)
  | [] => some []
  | .int i :: r => (intsD r).map (i :: ·)
  | _ => none
theorem intsD_eq : ∀ {l : List D} {ns : List Int}, intsD l = some ns → l = ns.map .int
  | [], ns, h => by
    cases h
    rfl
  | d :: r, ns, h => by
    cases d with
    | int i =>
      have h : (intsD r).map (i :: ·) = some ns := h
      cases q : intsD r with
      | none => rw [q] at h; cases h
      | some ms =>
        rw [q] at h
        cases h
        rw [intsD_eq q]
        rfl
    | _ => cases h
@[simp] theorem intsD_map : ∀ ns : List Int, intsD (ns.map .int) = some ns
  | [] => rfl
  | n :: ns => by
    show (intsD (ns.map .int)).map (n :: ·) = _
    rw [intsD_map ns]
    rfl
def sumD : List D → Option D
  | [.lst l] => (intsD l).map fun ns => .int ns.sum
  | _ => none
theorem c_sum (cx : CxOk X G W) : CallR X (.builtin "sum") (rdN G.K .s sumD) := CallR.monoD (cr_sum cx.calm) fun xs H Q ⟨F, ds, z, s, b, ez, q⟩ => by
  unfold sumD at ez
  split at ez
  · rename_i l
    cases e : intsD l with
    | none => rw [e] at ez; cases ez
    | some ns =>
      rw [e] at ez
      cases ez
      obtain ⟨v, rfl, c⟩ := b.one
      obtain ⟨a, vs, rfl, ha, da⟩ := c.lst s
      rw [intsD_eq e] at da
      rw [da.ints] at ha
      exact ⟨a, ns, rfl, .of ha, ans s (.int _) q⟩
  · cases ez
def blsD : List D → Option (List Bool)
  | [] => some []
  | .bl i :: r => (blsD r).map (i :: ·)
  | _ => none
theorem blsD_eq : ∀ {l : List D} {ns : List Bool}, blsD l = some ns → l = ns.map .bl
  | [], ns, h => by
    cases h
    rfl
  | d :: r, ns, h => by
    cases d with
    | bl i =>
      have h : (blsD r).map (i :: ·) = some ns := h
      cases q : blsD r with
      | none => rw [q] at h; cases h
      | some ms =>
        rw [q] at h
        cases h
        rw [blsD_eq q]
        rfl
    | _ => cases h
@[simp] theorem blsD_map : ∀ ns : List Bool, blsD (ns.map .bl) = some ns
  | [] => rfl
  | n :: ns => by
    show (blsD (ns.map .bl)).map (n :: ·) = _
    rw [blsD_map ns]
    rfl
def allD : List D → Option D
  | [.lst l] => (blsD l).map fun ns => .bl (ns.all id)
  | _ => none
def anyD : List D → Option D
  | [.lst l] => (blsD l).map fun ns => .bl (ns.any id)
  | _ => none
theorem c_all (cx : CxOk X G W) : CallR X (.builtin "all") (rdN G.K .s allD) := CallR.monoD (cr_all cx.calm) fun xs H Q ⟨F, ds, z, s, b, ez, q⟩ => by
  unfold allD at ez
  split at ez
  · rename_i l
    cases e : blsD l with
    | none => rw [e] at ez; cases ez
    | some ns =>
      rw [e] at ez
      cases ez
      obtain ⟨v, rfl, c⟩ := b.one
      obtain ⟨a, vs, rfl, ha, da⟩ := c.lst s
      rw [blsD_eq e] at da
      rw [da.bls] at ha
      exact ⟨a, ns, rfl, .of ha, ans s (.bl _) q⟩
  · cases ez
theorem c_any (cx : CxOk X G W) : CallR X (.builtin "any") (rdN G.K .s anyD) := CallR.monoD (cr_any cx.calm) fun xs H Q ⟨F, ds, z, s, b, ez, q⟩ => by
  unfold anyD at ez
  split at ez
  · rename_i l
    cases e : blsD l with
    | none => rw [e] at ez; cases ez
    | some ns =>
      rw [e] at ez
      cases ez
      obtain ⟨v, rfl, c⟩ := b.one
      obtain ⟨a, vs, rfl, ha, da⟩ := c.lst s
      rw [blsD_eq e] at da
      rw [da.bls] at ha
      exact ⟨a, ns, rfl, .of ha, ans s (.bl _) q⟩
  · cases ez
def listD : List D → Option D
  | [d] => (seqD d).map .lst
  | _ => none
theorem c_list (cx : CxOk X G W) : CallR X (.type "list") (rdN G.K .l listD) := CallR.monoD call_list_of fun xs H Q ⟨F, ds, z, s, b, ez, q⟩ => by
  unfold listD at ez
  split at ez
  · rename_i d
    obtain ⟨v, rfl, c⟩ := b.one
    cases d with
    | lst l =>
      cases ez
      obtain ⟨a, vs, rfl, ha, da⟩ := c.lst s
      exact ⟨a, vs, rfl, .inl (.of ha), fun p hp => new_lst s da hp q⟩
    | scr l =>
      cases ez
      obtain ⟨a, vs, rfl, ha, da⟩ := c.scr s
      exact ⟨a, vs, rfl, .inl (by rw [cx.K]; exact ha), fun p hp => new_lst s da hp q⟩
    | tup l =>
      cases ez
      obtain ⟨a, vs, rfl, ha, da⟩ := c.tup s
      exact ⟨a, vs, rfl, .inr (by rw [cx.K]; exact ha), fun p hp => new_lst s da hp q⟩
    | _ => cases ez
  · cases ez
def tupleD : List D → Option D
  | [d] => (seqD d).map .tup
  | _ => none
theorem c_tuple (cx : CxOk X G W) : CallR X (.type "tuple") (rdN G.K .s tupleD) := CallR.monoD call_tuple_of fun xs H Q ⟨F, ds, z, s, b, ez, q⟩ => by
  unfold tupleD at ez
  split at ez
  · rename_i d
    obtain ⟨v, rfl, c⟩ := b.one
    cases d with
    | lst l =>
      cases ez
      obtain ⟨a, vs, rfl, ha, da⟩ := c.lst s
      exact ⟨a, vs, rfl, .inl ⟨.of ha, fun p hp => new_tup s da hp q⟩⟩
    | scr l =>
      cases ez
      obtain ⟨a, vs, rfl, ha, da⟩ := c.scr s
      exact ⟨a, vs, rfl, .inl ⟨by rw [cx.K]; exact ha, fun p hp => new_tup s da hp q⟩⟩
    | tup l =>
      cases ez
      have db := c.tupD
      obtain ⟨a, vs, rfl, ha, da⟩ := c.tup s
      exact ⟨a, vs, rfl, .inr ⟨by rw [cx.K]; exact ha, ans s db q⟩⟩
    | _ => cases ez
  · cases ez
end
end L2.DL
set_option Elab.async false
set_option linter.all false
set_option maxRecDepth 100000
set_option autoImplicit false
/-! DJ: isinstance, raise, enumerate, zip, list(range(..)), x[i] op= e, extend, pop. -/
namespace L2.DL
open PySem PySem.Spec PyProof.Rows
section
variable {X : Cx} {G : Gx} {W : WX} {M M1 M2 Mt Ml : List Md} {m m1 m2 mr : Md} {e a b c tg : Expr} {f fa fb fi fv : EF} {g g1 g2 : SF} {pos tpos : Pos} {st : Stmt} {sts : List Stmt}

/-! ### isinstance -/
def tyD : D → String
  | .non => "NoneType"
  | .bl _ => "bool"
  | .int _ => "int"
  | .str _ => "str"
  | .tup _ => "tuple"
  | .lst _ => "list"
  | .scr _ => "list"
  | .dct _ => "dict"
theorem tyX_den {K : PySem.W.Frag} {Y H : Hp} (e : Ext Y H) {d : D} {v : V} (h : Den K Y d v) : TyX K H v (.type (tyD d)) := by
  cases h with
  | non => exact .base .non
  | bl b => exact .base (.bl b)
  | int b => exact .base (.int b)
  | str b => exact .base (.str b)
  | tup h r =>
    rcases h with (h | ⟨o, h⟩) | ⟨o, its, n, hk, hc, _⟩
    · exact .base (.tup (e _ _ h))
    · exact .fTuple (e _ _ h)
    · exact .kTuple hk hc
  | lst h r => exact .base (.lst (e _ _ h))
  | scr h r =>
    rcases h with (h | ⟨o, h⟩) | ⟨o, its, n, hk, hc, _⟩
    · exact .base (.lst (e _ _ h))
    · exact .base (.frz (e _ _ h))
    · exact .kList hk hc
  | dct h r =>
    rcases h with h | ⟨o, h⟩
    · exact .base (.dK (e _ _ h))
    · exact .fDict (e _ _ h)
theorem tyX_bor {K : PySem.W.Frag} {F : Fz} {H : Hp} (s : Sub F H) {d : D} {v : V} (h : Bor K F H d v) : TyX K H v (.type (tyD d)) := by
  rcases h with h | ⟨a, rfl, ⟨_, _, vs, ds, rfl, h, _⟩ | ⟨_, _, vs, ds, rfl, h, _⟩⟩
  · exact tyX_den s.ex h
  · exact .base (.lst h)
  · exact .base (.dK h)
def isiD (T : String) (d : D) : Option D := (kitB (tyD d) T).map .bl
def eIsi (T : String) (f : EF) : EF := fun Γ => (f Γ).bind fun d => R.of (isiD T d)
theorem d_isi {T : String} {p p2 : Pos} {x : Str} (cx : CxOk X G W) (h : PEd X G W M m e f) (hm : X.mg "isinstance" = none) (hmT : X.mg x = none) (hvT : bootBuiltins x = some (.type T) := by decide +kernel) (hg : Gl X "isinstance" := by rfl) (hgT : Gl X x := by rfl) (hnT : x ≠ "__name__" := by decide) (hdT : (x == ("__debug__" : Str)) = false := by decide)
    (hv : bootBuiltins "isinstance" = some (.builtin "isinstance") := by decide +kernel) (he : starEach [e, .Name x p2] X.env = (false, eval e X.env) :: starEach [.Name x p2] X.env := by rfl) (hpl : (backTo pos (starEach [.Name x p2] X.env)).any (·.1) = false := by rfl) (h2 : starEach [.Name x p2] X.env = (false, eval (.Name x p2) X.env) :: starEach [] X.env := by rfl) :
    PEd X G W M .s (.Call (.Name "isinstance" p) [e, .Name x p2] [] pos) (eIsi T f) := by
  refine PE.monoD (pe_callB call_isi hg hm hv (pa_cons h (pa_cons (pe_bltn (v := .ty T) hgT hmT hvT rfl hnT hdT) pa_nil h2) he) (by decide) (by decide) he hpl) fun σ H Q ⟨F, Γ, E, p⟩ => ⟨F, Γ, E, PostE.then (Q' := Q) p (fun d v F1 H1 _ t1 o1 p1 => ?_) E.sub⟩
  obtain ⟨z, ez, q⟩ := post_of p1
  unfold isiD at ez
  cases kb : kitB (tyD d) T with
  | none => rw [kb] at ez; cases ez
  | some r =>
    rw [kb] at ez
    cases ez
    exact ⟨v, .ty T, .type (tyD d), .type T, r, rfl, .ty T, by rw [cx.K]; exact tyX_bor t1.sub o1.bor, kit_ty kb, ans t1.sub (.bl _) q⟩

/-! ### raise -/
def sErr (c : Nat) : SF := fun _ => .err c
theorem d_raise {x msg : Str} {n : Nat} {j : Nat} {p p2 cpos : Pos} {bmB : List Value} {B newId initId : String} (cx : CxOk X G W) (Fa : ExcBaseFacts B newId initId bmB) (q : PySem.W.excIn X.K (G.cls n) bmB newId = true) (gC : X.mg x = some (.ref (G.cls n))) (kC : PySem.W.keepIn X.K (.ref (G.cls n)) = true) (r : Raises X (.ref (G.cls n))) (hg : Gl X x := by rfl)
    (hdb : (x == ("__debug__" : Str)) = false := by decide) : PSd X G W M M2 Ml mr (.Raise (some (.Call (.Name x p) [.Constant (.str msg) j p2] [] cpos)) none pos) (sErr n) :=
  PS.monoD (ps_raise cx.calm cx.takes (pmk_own Fa q gC kC r hg hdb)) fun C σ H ⟨F, Γ, E, p⟩ => p σ F H E.step

/-! ### enumerate, zip -/
def enumD : List D → Option (List D)
  | [d] => match d with
    | .lst l => some ((List.range l.length).zipWith (fun (i : Nat) x => .tup [.int i, x]) l)
    | .scr l => some ((List.range l.length).zipWith (fun (i : Nat) x => .tup [.int i, x]) l)
    | _ => none
  | _ => none
theorem src_enum {K : PySem.W.Frag} {F : Fz} {a : Addr} {vs : List V} {ds : List D} (h : SqL K F.ex a vs) (d : DenL K F.ex ds vs) : Src K (Ite K a) F ((List.range ds.length).zipWith (fun (i : Nat) x => .tup [.int i, x]) ds) := by
  refine ⟨fun i x F' H l s e => ?_, fun i F' H l s e => ⟨vs, sqL_ext (Ext.trans l.ex s.ex) h, by rw [d.length]; simpa using e⟩⟩
  rw [List.getElem?_zipWith] at e
  cases e2 : ds[i]? with
  | none => rw [e2] at e; cases q : (List.range ds.length)[i]? <;> rw [q] at e <;> cases e
  | some y =>
    have hi : i < ds.length := (List.getElem?_eq_some_iff.mp e2).1
    rw [e2, List.getElem?_range hi] at e
    cases e
    obtain ⟨u, e1, e3⟩ := d.get e2
    have hs := sqL_ext (Ext.trans l.ex s.ex) h
    refine ⟨⟨vs, u, hs, e1⟩, fun v H' ⟨T, w, q0, q1, q2, q3⟩ => ?_⟩
    subst q0 q2
    have := q3 vs hs
    rw [e1] at this
    cases this
    refine ⟨_, den_new (K := K) s q1, .tup (.of upd_same) (.cons (.int _) (.cons ((e3.ext l.ex).ext (ext_upd (s.nil_ q1).1)) .nil))⟩
theorem VOkL.one' {K : PySem.W.Frag} {F : Fz} {Hs H : Hp} {d : D} {xs : List V} (h : VOkL K m F Hs H [d] xs) : ∃ v, xs = [v] ∧ VOk K m F Hs H d v := by
  cases h with
  | cons h r =>
    cases r
    exact ⟨_, rfl, h⟩
theorem VOkL.two' {K : PySem.W.Frag} {F : Fz} {Hs H : Hp} {d d2 : D} {xs : List V} (h : VOkL K m F Hs H [d, d2] xs) : ∃ v u, xs = [v, u] ∧ VOk K m F Hs H d v ∧ VOk K m F Hs H d2 u := by
  cases h with
  | cons h r =>
    cases r with
    | cons h2 r2 =>
      cases r2
      exact ⟨_, _, rfl, h, h2⟩
theorem di_enum {p : Pos} {elts : List Expr} {kk : Nat} {fr : AF} (cx : CxOk X G W) (ha : PAd X G W M .s [a] fr) (hm : X.mg "enumerate" = none) (hg : Gl X "enumerate" := by rfl) (hs : starEach [a] X.env = [(false, eval a X.env)] := by rfl) : PId X G W M (.Tuple elts kk tpos) (.Call (.Name "enumerate" p) [a] [] pos) (iRng enumD fr) := by
  refine PI.monoD (pi_enum hg hm ha hs) fun σ H Q ⟨F, Γ, E, p⟩ => ⟨F, Γ, E, postI_args E p fun ds vs F1 H1 _ t o q => ?_⟩
  have q' : PostI G W F1 H1 σ Q (R.of (enumD ds)) := q
  unfold enumD at q'
  split at q'
  · split at q'
    · obtain ⟨v, rfl, o1⟩ := o.one'
      obtain ⟨A, ws, rfl, h, dl⟩ := Den.lst' o1
      refine ⟨A, ws, rfl, .of (t.sub.ex _ _ h), ?_⟩
      rw [cx.K]
      exact q' _ F1 H1 (.refl t.sub) (src_enum (.of h) dl)
    · obtain ⟨v, rfl, o1⟩ := o.one'
      obtain ⟨A, ws, rfl, h, dl⟩ := Den.scr' o1
      refine ⟨A, ws, rfl, by rw [cx.K]; exact sqL_ext t.sub.ex h, ?_⟩
      rw [cx.K]
      exact q' _ F1 H1 (.refl t.sub) (src_enum h dl)
    · exact q'.elim
  · exact q'.elim
def zipD : List D → Option (List D)
  | [.lst l, .lst r] => some (l.zipWith (fun x y => .tup [x, y]) r)
  | _ => none
theorem src_zip {K : PySem.W.Frag} {F : Fz} {a b : Addr} {vs ws : List V} {ds es : List D} (h : SqL K F.ex a vs) (d : DenL K F.ex ds vs) (h2 : SqL K F.ex b ws) (d2 : DenL K F.ex es ws) : Src K (Itz K a b) F (ds.zipWith (fun x y => .tup [x, y]) es) := by
  refine ⟨fun i x F' H l s e => ?_, fun i F' H l s e => ⟨vs, ws, sqL_ext (Ext.trans l.ex s.ex) h, sqL_ext (Ext.trans l.ex s.ex) h2, by
    rw [d.length, d2.length]
    simp at e
    omega⟩⟩
  rw [List.getElem?_zipWith] at e
  cases e1 : ds[i]? with
  | none => rw [e1] at e; cases e
  | some y =>
    cases e2 : es[i]? with
    | none => rw [e1, e2] at e; cases e
    | some z =>
      rw [e1, e2] at e
      cases e
      obtain ⟨u, p1, p2⟩ := d.get e1
      obtain ⟨u2, p3, p4⟩ := d2.get e2
      have hs := sqL_ext (Ext.trans l.ex s.ex) h
      have hs2 := sqL_ext (Ext.trans l.ex s.ex) h2
      refine ⟨⟨vs, ws, u, u2, hs, hs2, p1, p3⟩, fun v H' ⟨T, w1, w2, q0, q1, q2, q3, q4⟩ => ?_⟩
      subst q0 q2
      have r1 := q3 vs hs
      have r2 := q4 ws hs2
      rw [p1] at r1
      rw [p3] at r2
      cases r1
      cases r2
      have ex := ext_upd (o := HO.tup [u, u2]) (s.nil_ q1).1
      exact ⟨_, den_new (K := K) s q1, .tup (.of upd_same) (.cons ((p2.ext l.ex).ext ex) (.cons ((p4.ext l.ex).ext ex) .nil))⟩
theorem di_zip {p : Pos} {elts : List Expr} {kk : Nat} {fr : AF} (cx : CxOk X G W) (ha : PAd X G W M .s [a, b] fr) (hm : X.mg "zip" = none) (hg : Gl X "zip" := by rfl) (hs : starEach [a, b] X.env = (false, eval a X.env) :: starEach [b] X.env := by rfl) (hpl : (backTo pos (starEach [b] X.env)).any (·.1) = false := by rfl) : PId X G W M (.Tuple elts kk tpos) (.Call (.Name "zip" p) [a, b] [] pos) (iRng zipD fr) := by
  refine PI.monoD (pi_zip hg hm ha hs hpl) fun σ H Q ⟨F, Γ, E, p⟩ => ⟨F, Γ, E, postI_args E p fun ds vs F1 H1 _ t o q => ?_⟩
  have q' : PostI G W F1 H1 σ Q (R.of (zipD ds)) := q
  unfold zipD at q'
  split at q'
  · obtain ⟨v, u, rfl, o1, o2⟩ := o.two'
    obtain ⟨A, ws, rfl, h, dl⟩ := Den.lst' o1
    obtain ⟨B, us, rfl, h2, dl2⟩ := Den.lst' o2
    refine ⟨A, B, ws, us, rfl, .of (t.sub.ex _ _ h), .of (t.sub.ex _ _ h2), ?_⟩
    rw [cx.K]
    exact q' _ F1 H1 (.refl t.sub) (src_zip (.of h) dl (.of h2) dl2)
  · exact q'.elim

/-! ### list(range(..)), tuple(range(..)) -/
def rgD (i j : Int) : List D := (List.range (j - i).toNat).map fun (k : Nat) => .int (i + k)
def rdR (G : Gx) (W : WX) (M : List Md) (f : List D → R (Int × Int)) : St → Hp → (Int → Int → Hp → Prop) → Prop := fun σ H Q => ∃ F Γ, EnvOk G M F H σ Γ ∧ match f Γ with
  | .ok p => ∀ F' H', Step S0 F H F' H' → Q p.1 p.2 H'
  | .err c => ∀ F' H', Step S0 F H F' H' → W (.ref (G.cls c)) none σ H'
  | .bad => False
def rg1 (f : EF) : List D → R (Int × Int) := fun Γ => (f Γ).bind fun d => match d with
  | .int j => if -1000000 ≤ j ∧ j ≤ 1000000 then .ok (0, j) else .bad
  | _ => .bad
def rg2 (fa fb : EF) : List D → R (Int × Int) := fun Γ => (fa Γ).bind fun d => (fb Γ).bind fun e => match d, e with
  | .int i, .int j => if (-1000000 ≤ i ∧ i ≤ 1000000) ∧ -1000000 ≤ j ∧ j ≤ 1000000 then .ok (i, j) else .bad
  | _, _ => .bad
theorem prg_mono {e : Expr} {t t' : St → Hp → (Int → Int → Hp → Prop) → Prop} (h : PRg X e t) (i : ∀ σ H Q, t' σ H Q → t σ H Q) : PRg X e t' := fun pins s σ H Q I q => h pins s σ H Q I (i σ H Q q)
theorem dr_1 {p : Pos} (h : PEd X G W M m a f) (hm : X.mg "range" = none) (hg : Gl X "range" := by rfl) (na : starEach [a] X.env = (false, eval a X.env) :: starEach [] X.env := by rfl) : PRg X (.Call (.Name "range" p) [a] [] pos) (rdR G W M (rg1 f)) := by
  refine prg_mono (prg_1 hg hm h na) fun σ H Q ⟨F, Γ, E, p⟩ => ⟨F, Γ, E, ?_⟩
  unfold rg1 at p
  revert p
  cases f Γ with
  | bad => exact fun z => z
  | err c => exact fun z => z
  | ok d =>
    intro p v F1 H1 t o
    cases d with
    | int j =>
      refine ⟨j, o.bor.int, ?_⟩
      simp only [R.bind_ok] at p
      by_cases hj : -1000000 ≤ j ∧ j ≤ 1000000
      · rw [if_pos hj] at p
        exact p F1 H1 t
      · rw [if_neg hj] at p
        exact p.elim
    | _ => exact (show False from p).elim
theorem dr_2 {p : Pos} (h : PEd X G W M m1 a fa) (h2 : PEd X G W M m2 b fb) (hm : X.mg "range" = none) (hg : Gl X "range" := by rfl) (na : starEach [a, b] X.env = (false, eval a X.env) :: starEach [b] X.env := by rfl) (nb : starEach [b] X.env = (false, eval b X.env) :: starEach [] X.env := by rfl) (hpl : (backTo pos (starEach [b] X.env)).any (·.1) = false := by rfl) : PRg X (.Call (.Name "range" p) [a, b] [] pos) (rdR G W M (rg2 fa fb)) := by
  refine prg_mono (prg_2 hg hm h h2 na nb hpl) fun σ H Q ⟨F, Γ, E, p⟩ => ⟨F, Γ, E, ?_⟩
  unfold rg2 at p
  revert p
  cases fa Γ with
  | bad => exact fun z => z
  | err c => exact fun z => z
  | ok d =>
    intro p v F1 H1 t o
    refine ⟨F1, Γ, E.on t, ?_⟩
    simp only [R.bind_ok] at p
    revert p
    cases fb Γ with
    | bad => exact fun z => z
    | err c => exact fun z F2 H2 t2 => z F2 H2 (t.trans t2)
    | ok d2 =>
      intro p v2 F2 H2 t2 o2
      simp only [R.bind_ok] at p
      cases d with
      | int i =>
        cases d2 with
        | int j =>
          refine ⟨i, j, o.bor.int, o2.bor.int, ?_⟩
          have p : match (if (-1000000 ≤ i ∧ i ≤ 1000000) ∧ -1000000 ≤ j ∧ j ≤ 1000000 then R.ok (i, j) else R.bad) with
            | .ok p => ∀ F' H', Step S0 F H F' H' → Q p.1 p.2 H'
            | .err c => ∀ F' H', Step S0 F H F' H' → W (.ref (G.cls c)) none σ H'
            | .bad => False := p
          by_cases hj : (-1000000 ≤ i ∧ i ≤ 1000000) ∧ -1000000 ≤ j ∧ j ≤ 1000000
          · rw [if_pos hj] at p
            exact p F2 H2 (t.trans t2)
          · rw [if_neg hj] at p
            exact p.elim
        | _ => exact (show False from p).elim
      | _ => exact (show False from p).elim
def eLstRg (f : List D → R (Int × Int)) : EF := fun Γ => (f Γ).bind fun p => if (-1000000 ≤ p.1 ∧ p.1 ≤ 1000000) ∧ -1000000 ≤ p.2 ∧ p.2 ≤ 1000000 then .ok (.lst (rgD p.1 p.2)) else .bad
def eTupRg (f : List D → R (Int × Int)) : EF := fun Γ => (f Γ).bind fun p => if (-1000000 ≤ p.1 ∧ p.1 ≤ 1000000) ∧ -1000000 ≤ p.2 ∧ p.2 ≤ 1000000 then .ok (.tup (rgD p.1 p.2)) else .bad
theorem den_rg {K : PySem.W.Frag} {Y : Hp} (i j : Int) : DenL K Y (rgD i j) (rgV i j) := by
  unfold rgD rgV
  generalize (j - i).toNat = n
  have : ∀ l : List Nat, DenL K Y (l.map fun (k : Nat) => .int (i + k)) (l.map fun (k : Nat) => V.int (i + k)) := fun l => by
    induction l with
    | nil => exact .nil
    | cons x l ih => exact .cons (.int _) ih
  exact this _
theorem rgOk_of {i j : Int} (h : (-1000000 ≤ i ∧ i ≤ 1000000) ∧ -1000000 ≤ j ∧ j ≤ 1000000) : RgOk i j := ⟨by omega, by omega, by omega, by omega, by omega⟩
theorem d_listRg {p : Pos} {fr : List D → R (Int × Int)} (cx : CxOk X G W) (h : PRg X e (rdR G W M fr)) (hm : X.mg "list" = none) (hg : Gl X "list" := by rfl) (na : starEach [e] X.env = (false, eval e X.env) :: starEach [] X.env := by rfl) : PEd X G W M .l (.Call (.Name "list" p) [e] [] pos) (eLstRg fr) := by
  refine PE.monoD (pe_listRg cx.calm hg hm h na) fun σ H Q ⟨F, Γ, E, p⟩ => ⟨F, Γ, E, ?_⟩
  unfold eLstRg at p
  revert p
  cases fr Γ with
  | bad => exact fun z => z
  | err c => exact fun z => z
  | ok d =>
    intro p F1 H1 t
    simp only [R.bind_ok] at p
    by_cases hj : (-1000000 ≤ d.1 ∧ d.1 ≤ 1000000) ∧ -1000000 ≤ d.2 ∧ d.2 ≤ 1000000
    · rw [if_pos hj] at p
      exact ⟨rgOk_of hj, fun q hq => new_lst t.sub (den_rg _ _) hq fun v F' H' t2 o => p v F' H' (t.trans t2) (o.back t)⟩
    · rw [if_neg hj] at p
      exact p.elim
theorem d_tupRg {p : Pos} {fr : List D → R (Int × Int)} (cx : CxOk X G W) (h : PRg X e (rdR G W M fr)) (hm : X.mg "tuple" = none) (hg : Gl X "tuple" := by rfl) (na : starEach [e] X.env = (false, eval e X.env) :: starEach [] X.env := by rfl) : PEd X G W M .s (.Call (.Name "tuple" p) [e] [] pos) (eTupRg fr) := by
  refine PE.monoD (pe_tupRg cx.calm hg hm h na) fun σ H Q ⟨F, Γ, E, p⟩ => ⟨F, Γ, E, ?_⟩
  unfold eTupRg at p
  revert p
  cases fr Γ with
  | bad => exact fun z => z
  | err c => exact fun z => z
  | ok d =>
    intro p F1 H1 t
    simp only [R.bind_ok] at p
    by_cases hj : (-1000000 ≤ d.1 ∧ d.1 ≤ 1000000) ∧ -1000000 ≤ d.2 ∧ d.2 ≤ 1000000
    · rw [if_pos hj] at p
      exact ⟨rgOk_of hj, fun q hq => new_tup t.sub (den_rg _ _) hq fun v F' H' t2 o => p v F' H' (t.trans t2) (o.back t)⟩
    · rw [if_neg hj] at p
      exact p.elim

/-! ### x[i] op= e, x a list of the def's own -/
theorem get_list : PGet X (rIxL X.K) := by
  intro pins s σ H o i ov iv Q I ro ri h
  obtain ⟨p, xs, k, v, rfl, rfl, hS, hat, q⟩ := h
  cases ro
  obtain ⟨t, rfl⟩ := ri
  obtain ⟨its, rv, pl, hz⟩ := I.list hS
  obtain ⟨j, e1, e2, e3, e4, e5⟩ := atI_get hat
  obtain ⟨u, e6, e7⟩ := rv.get e2
  have hl := rv.length
  have hn := line63
  have fin : EP X pins σ Q u s := ⟨v, H, I, e7, q⟩
  by_cases h0 : 0 ≤ k
  · have hj : k.toNat = j := by
      rw [seqIndex_of h0 e5] at e1
      exact Option.some.inj e1
    exact wpAny_getItem_list pl.isList h0 (by omega) (by rw [hj]; simpa using e6) fin
  · have hj : (k + (its.toArray.size : Int)).toNat = j := by
      rw [seqIndex_neg (by omega) e4] at e1
      rw [List.size_toArray, ← hl]
      exact Option.some.inj e1
    exact wpAny_getItem_list_neg pl.isList (by omega) (by rw [List.size_toArray] <;> omega) (by omega) (by rw [hj]; simpa using e6) fin
/-- x[i] op= e -/
def sAugIx (i : Nat) (fi : EF) (gg : D → D → Option D) (fe : EF) : SF := fun Γ => (eVar i Γ).bind fun l => (fi Γ).bind fun k => match l, k with
  | .lst ds, .int k => match atI ds k with
    | some x => (fe Γ).bind fun y => (R.of (gg x y)).bind fun z => match ixN ds.length k with
      | some j => .ok (.nx (Γ.set i (.lst (ds.set j z))))
      | none => .bad
    | none => .bad
  | _, _ => .bad
theorem d_augix {i : Nat} {x : Str} {px : Pos} {n : Md} {op : Operator} {gg : D → D → Option D} (cx : CxOk X G W) (ho : OpR X (inplaceOp op) (rd2 G.K .s gg)) (hi : PEd X G W M m1 c fi) (hv : PEd X G W M m2 e fv) (hm : M[i]? = some n := by rfl) (hn : n = .l ∨ n = .i := by decide) (hN : X.N[i]? = some x := by rfl) (hvis : Vis X.env.scope x := by first | exact Or.inl rfl | exact Or.inr (Or.inl rfl) | exact Or.inr (Or.inr rfl)) (hd : (x == ("__debug__" : Str)) = false := by decide)
    (hcd : (x == ("__classdict__" : Str)) = false := by decide) (ha : ∀ ov iv new, augStore c ov iv new = (do holding [new, ov, iv] (setItem ov iv new); release [new, ov, iv] []; pure .next) := by intros; rfl) :
    PSd X G W M M Ml mr (.AugAssign (.Subscript (.Name x px) c tpos) op e pos) (sAugIx i fi gg fv) := by
  refine PS.monoD (ps_augS (pe_var hN hvis hd hcd) hi get_list hv (ip_of ho) set_list ha) fun C σ H ⟨F, Γ, E, p⟩ => ?_
  unfold sAugIx at p
  cases z : Γ[i]? with
  | none =>
    unfold eVar at p
    rw [z] at p
    exact p.elim
  | some l =>
    have ev : eVar i Γ = .ok l := by
      unfold eVar
      rw [z]
    rw [ev] at p
    obtain ⟨A, vs, ds, ea, rfl, hH, dl, x1, x2, back⟩ := own_lst E hm hn z
    refine ⟨.ref A, slot_get ea, F, Γ, E, post_se E p fun k kv F1 H1 _ t o q => ?_⟩
    cases k with
    | int k =>
      have q : PostS G W M Ml mr F1 C (match atI ds k with
        | some x => (fv Γ).bind fun y => (R.of (gg x y)).bind fun z => match ixN ds.length k with
          | some j => .ok (.nx (Γ.set i (.lst (ds.set j z))))
          | none => .bad
        | none => .bad) := q
      cases zz : atI ds k with
      | none => rw [zz] at q; exact q.elim
      | some d0 =>
        rw [zz] at q
        have hH1 : H1 A = some (.lst vs) := t.keep A _ hH x2 fun z => z
        have nn : H A ≠ none := by rw [hH]; exact Option.some_ne_none _
        have nn1 : H1 A ≠ none := by rw [hH1]; exact Option.some_ne_none _
        have E1 := E.on t
        have y1 := (t.ex A nn).trans x1
        have y2 := (t.iv A nn).trans x2
        have dl1 := dl.ext (t.le E.sub).ex
        obtain ⟨v0, e1, den0⟩ := den_at dl1 zz
        refine ⟨A, vs, k, v0, rfl, o.bor.int, .of hH1, e1, F1, Γ, E1, post_se E1 q fun y yv F2 H2 _ t2 o2 q2 => ?_⟩
        cases zg : gg d0 y with
        | none => rw [zg] at q2; exact q2.elim
        | some z0 =>
          rw [zg] at q2
          have hH2 : H2 A = some (.lst vs) := t2.keep A _ hH1 y2 fun z => z
          have nn2 : H2 A ≠ none := by rw [hH2]; exact Option.some_ne_none _
          have E2 := E1.on t2
          refine ⟨F2, d0, y, z0, t2.sub, .inl (den0.ext (t2.le t.sub).ex), o2.bor, zg, fun zv F3 H3 t3 o3 => ?_⟩
          have q3 : PostS G W M Ml mr F2 C (match ixN ds.length k with
            | some j => .ok (.nx (Γ.set i (.lst (ds.set j z0))))
            | none => .bad) := q2
          cases zj : ixN ds.length k with
          | none => rw [zj] at q3; exact q3.elim
          | some j =>
            rw [zj] at q3
            have w1 := (t2.ex A nn1).trans y1
            have w2 := (t2.iv A nn1).trans y2
            have hH3 : H3 A = some (.lst vs) := t3.keep A _ hH2 w2 fun z => z
            have E3 := E2.on t3
            refine ⟨A, vs, k, j, rfl, o.bor.int, hH3, by rw [dl.length]; exact zj, q3 σ F3 _ (t3.le t2.sub) ?_⟩
            have dl3 : DenL G.K F3.ex (ds.set j z0) (vs.set j zv) := ((dl1.ext (t2.le t.sub).ex).ext (t3.le t2.sub).ex).set j o3
            exact E3.write hm (by rcases hn with rfl | rfl <;> rfl) ea (by rw [z]; exact Option.some_ne_none _) fun H' hq => back F3 _ _ H' (((t.le E.sub).trans (t2.le t.sub)).trans (t3.le t2.sub)) ((t3.ex A nn2).trans w1) ((t3.iv A nn2).trans w2) dl3 hq
    | _ => exact (show False from q).elim
end
end L2.DL
set_option Elab.async false
set_option linter.all false
set_option maxRecDepth 100000
set_option autoImplicit false
/-! DK: operators whatever the data are; truth, chains, the module's constants. -/
namespace L2.DL
open PySem PySem.Spec PyProof.Rows
section
variable {X : Cx} {G : Gx} {W : WX} {M M1 M2 Mt Ml : List Md} {m m1 m2 m3 mr : Md} {e a b c tg : Expr} {f fa fb fc fi fv : EF} {g g1 g2 : SF} {pos tpos p2 : Pos} {st : Stmt} {sts : List Stmt}
/-- a new list, frozen at once -/
theorem new_lstS {K : PySem.W.Frag} {F : Fz} {H : Hp} {ds : List D} {vs : List V} {Q : VK} {p : Addr} (s : Sub F H) (d : DenL K F.ex ds vs) (hp : H p = none) (q : ∀ v F' H', Step S0 F H F' H' → VOk K .s F' H H' (.lst ds) v → Q v H') : Q (.ref p) (upd H p (.lst vs)) :=
  q _ _ _ (den_new (K := K) s hp) (.lst upd_same (d.ext (ext_upd (s.nil_ hp).1)))
theorem rd2_s {K : PySem.W.Frag} {g : D → D → Option D} {r : R2} (h : ∀ x y H Q, rd2 K .l g x y H Q → r x y H Q) : ∀ x y H Q, rd2 K .s g x y H Q → r x y H Q := fun x y H Q ⟨F, d, e, z, s, bx, b_y, ez, q⟩ => h x y H Q ⟨F, d, e, z, s, bx, b_y, ez, fun v F' H' t o => by
  obtain ⟨F2, t2, _, d2⟩ := VOk.freeze t (.inr (.inl rfl)) o
  exact q v F2 H' t2 d2⟩
theorem OpR.both {f : Value → Value → Sem Value} {K : PySem.W.Frag} {g1 g2 : D → D → Option D} (h1 : OpR X f (rd2 K m g1)) (h2 : OpR X f (rd2 K m g2)) : OpR X f (rd2 K m fun d e => match g1 d e with
    | some z => some z
    | none => g2 d e) := by
  intro pins s σ H x y v u Q I rx ry ⟨F, d, e, z, sb, bx, b_y, ez, q⟩
  have ez : (match g1 d e with
    | some z => some z
    | none => g2 d e) = some z := ez
  cases q1 : g1 d e with
  | some w =>
    rw [q1] at ez
    cases ez
    exact h1 pins s σ H x y v u Q I rx ry ⟨F, d, e, z, sb, bx, b_y, q1, q⟩
  | none =>
    rw [q1] at ez
    exact h2 pins s σ H x y v u Q I rx ry ⟨F, d, e, z, sb, bx, b_y, ez, q⟩
theorem OpR.eqg {f : Value → Value → Sem Value} {K : PySem.W.Frag} {g1 g2 : D → D → Option D} (h : OpR X f (rd2 K m g1)) (e : ∀ a b, g1 a b = g2 a b) : OpR X f (rd2 K m g2) := by
  have : g1 = g2 := funext fun a => funext fun b => e a b
  rw [← this]
  exact h
theorem OpR.toS {f : Value → Value → Sem Value} {K : PySem.W.Frag} {g : D → D → Option D} (h : OpR X f (rd2 K .l g)) : OpR X f (rd2 K .s g) := fun pins s σ H x y v u Q I rx ry ⟨F, d, e, z, sb, bx, b_y, ez, q⟩ => h pins s σ H x y v u Q I rx ry ⟨F, d, e, z, sb, bx, b_y, ez, fun v F' H' t o => by
  obtain ⟨F2, t2, _, d2⟩ := VOk.freeze t (.inr (.inl rfl)) o
  exact q v F2 H' t2 d2⟩
def addS : D → D → Option D
  | .str a, .str b => if a.length + b.length ≤ 1000000 then some (.str (a ++ b)) else none
  | _, _ => none
theorem o_addS : OpR X (binaryOp .Add) (rd2 G.K .s addS) := OpR.monoD op_add_str fun x y H Q ⟨F, d, e, z, s, bx, b_y, ez, q⟩ => by
  unfold addS at ez
  split at ez
  · split at ez
    · rename_i h
      cases ez
      exact ⟨_, _, bx.str, b_y.str, Nat.le_trans h (by decide), ans s (.str _) q⟩
    · cases ez
  · cases ez
/-- +, whatever is added -/
def addA : D → D → Option D
  | .int i, .int j => some (.int (i + j))
  | .lst a, .lst b => if a.length + b.length ≤ 1000000 then some (.lst (a ++ b)) else none
  | .tup a, .tup b => if a.length + b.length ≤ 1000000 then some (.tup (a ++ b)) else none
  | .str a, .str b => if a.length + b.length ≤ 1000000 then some (.str (a ++ b)) else none
  | _, _ => none
theorem o_addA (cx : CxOk X G W) : OpR X (binaryOp .Add) (rd2 G.K .s addA) := by
  refine OpR.eqg (OpR.both (OpR.both o_addI (OpR.toS o_addL)) (OpR.both (o_addT cx.K) o_addS)) fun d e => ?_
  cases d <;> cases e <;> first | rfl | skip
  all_goals (simp only [addI, addL, addT, addS, addA]; split <;> first | rfl | (split <;> first | rfl | simp_all))
def mulT : D → D → Option D
  | .tup a, .int k => if 2 ≤ k ∧ k ≤ 1000 ∧ a.length ≤ 1000 ∧ a ≠ [] then some (.tup (List.replicate k.toNat a).flatten) else none
  | _, _ => none
theorem o_mulT (hK : X.K = G.K) : OpR X (binaryOp .Mult) (rd2 G.K .s mulT) := OpR.monoD op_repT fun x y H Q ⟨F, d, e, z, s, bx, b_y, ez, q⟩ => by
  unfold mulT at ez
  split at ez
  · split at ez
    · rename_i h
      cases ez
      obtain ⟨a, vs, rfl, ha, da⟩ := bx.tup s
      refine ⟨a, _, vs, rfl, b_y.int, by rw [hK]; exact ha, fun e => ?_, h.1, h.2.1, by rw [da.length]; exact h.2.2.1, fun p hp => new_tup s (da.flat _) hp q⟩
      subst e
      cases da
      exact h.2.2.2 rfl
    · cases ez
  · cases ez
def mulA : D → D → Option D
  | .int i, .int j => if mulOk i j then some (.int (i * j)) else none
  | .lst a, .int k => if (-1000000 ≤ k ∧ k ≤ 1000000) ∧ a.length * k.toNat ≤ 1000000 then some (.lst (List.replicate k.toNat a).flatten) else none
  | .tup a, .int k => if 2 ≤ k ∧ k ≤ 1000 ∧ a.length ≤ 1000 ∧ a ≠ [] then some (.tup (List.replicate k.toNat a).flatten) else none
  | _, _ => none
theorem o_mulA (cx : CxOk X G W) : OpR X (binaryOp .Mult) (rd2 G.K .s mulA) := by
  refine OpR.eqg (OpR.both (OpR.both o_mulI (OpR.toS o_mulL)) (o_mulT cx.K)) fun d e => ?_
  cases d <;> cases e <;> first | rfl | skip
  all_goals (simp only [mulI, mulL, mulT, mulA]; split <;> first | rfl | (split <;> first | rfl | simp_all))

/-! ### slices, whatever is cut -/
def cutA : D → Option Int → Option Int → Option D
  | .lst l, lo, hi => some (.lst (cutD l lo hi))
  | .scr l, lo, hi => some (.lst (cutD l lo hi))
  | .tup l, lo, hi => some (.tup (cutD l lo hi))
  | _, _, _ => none
theorem d_slA {lo hi : Option Expr} {fl fh : List D → R (Option Int)} (cx : CxOk X G W) (h : PEd X G W M m1 e f) (hl : PO X lo (rdO G W M fl)) (hh : PO X hi (rdO G W M fh)) : PEd X G W M .s (.Subscript e (.Slice lo hi none p2) pos) (eSl cutA f fl fh) := by
  refine PE.monoD (pe_slice (sl_list.or sl_tupA) h hl hh) fun σ H Q hq => sl_read (m := .s) (fun F H d z x lo hi Q s b ez q => ?_) hq
  unfold cutA at ez
  split at ez
  · cases ez
    obtain ⟨a, vs, rfl, ha, da⟩ := b.lst s
    exact .inl ⟨a, vs, rfl, .of ha, fun p hp => new_lstS s (da.cut lo hi) hp q⟩
  · cases ez
    obtain ⟨a, vs, rfl, ha, da⟩ := b.scr s
    exact .inl ⟨a, vs, rfl, by rw [cx.K]; exact ha, fun p hp => new_lstS s (da.cut lo hi) hp q⟩
  · cases ez
    rename_i l
    have db := b.tupD
    obtain ⟨a, vs, rfl, ha, da⟩ := b.tup s
    refine .inr ⟨a, vs, rfl, by rw [cx.K]; exact ha, fun hw => ?_, fun _ p hp => new_tup s (da.cut lo hi) hp q⟩
    have e : cutD l lo hi = l := by
      unfold cutD
      rw [← da.length, hw.1, hw.2, List.drop_zero]
      exact List.take_of_length_le (by rw [da.length]; omega)
    rw [e] at q
    exact ans s db q
  · cases ez

/-! ### truth -/
theorem tru_den {K : PySem.W.Frag} {F : Fz} {H : Hp} {d : D} {v : V} {k : Bool} (s : Sub F H) (b : Bor K F H d v) (e : truD d = some k) : TruV K v H k := by
  cases d with
  | non =>
    rw [b.non]
    cases e
    rfl
  | bl x =>
    rw [b.bl]
    cases e
    rfl
  | int x =>
    rw [b.int]
    cases e
    rfl
  | str x => cases e
  | lst l =>
    obtain ⟨a, vs, rfl, ha, da⟩ := b.lst s
    cases e
    refine .inl ⟨vs, .of ha, ?_⟩
    cases da <;> rfl
  | scr l =>
    obtain ⟨a, vs, rfl, ha, da⟩ := b.scr s
    cases e
    refine .inl ⟨vs, ha, ?_⟩
    cases da <;> rfl
  | tup l =>
    obtain ⟨a, vs, rfl, ha, da⟩ := b.tup s
    cases e
    refine .inr (.inl ⟨vs, ha, ?_⟩)
    cases da <;> rfl
  | dct l => cases e
theorem dt_tru (cx : CxOk X G W) (h : PEd X G W M m e f) (he : ∀ whole, isTrue e X.env whole = (do let v ← whole; standAt e.pos; holding [v] (truthy v)) := by intro _; rfl) : PTd X G W M e (bTru f) := by
  refine PT.monoD (pt_truth h he) fun σ H Q ⟨F, Γ, E, p⟩ => ⟨F, Γ, E, ?_⟩
  unfold bTru at p
  revert p
  cases f Γ with
  | bad => exact fun z => z
  | err c => exact fun z => z
  | ok d =>
    intro p v F1 H1 t o
    have p : PostB G W F H σ Q (R.of (truD d)) := p
    cases z : truD d with
    | none => rw [z] at p; exact p.elim
    | some k =>
      rw [z] at p
      exact ⟨k, by rw [cx.K]; exact tru_den t.sub o.bor z, p F1 H1 t⟩

/-! ### a < b < c -/
def eChain (g1 g2 : D → D → Option D) (fa fb fc : EF) : EF := fun Γ => (fa Γ).bind fun x => (fb Γ).bind fun y => match g1 x y with
  | some (.bl true) => (fc Γ).bind fun z => R.of (g2 y z)
  | some (.bl false) => .ok (.bl false)
  | _ => .bad
theorem chain_read {gg1 gg2 : D → D → Option D} {σ : St} {H : Hp} {Q : VK} (h : rdE G W M .s (eChain gg1 gg2 fa fb fc) σ H Q) : tChain (rd2 G.K .s gg1) (rd2 G.K .s gg2) (rdE G W M m1 fa) (rdE G W M m2 fb) (rdE G W M m3 fc) σ H Q := by
  obtain ⟨F, Γ, E, p⟩ := h
  refine ⟨F, Γ, E, PostE.then (Q' := Q) p (fun x v F1 H1 _ t1 o1 p1 => ?_) E.sub⟩
  refine ⟨F1, Γ, E.on t1, PostE.then (Q' := Q) p1 (fun y u F2 H2 _ t2 o2 p2 => ?_) t1.sub⟩
  have p3 : PostE G W .s F2 H2 σ Q (match gg1 x y with
    | some (.bl true) => (fc Γ).bind fun z => R.of (gg2 y z)
    | some (.bl false) => .ok (.bl false)
    | _ => .bad) := p2
  have o1' := (o1.step t1.sub t2).bor
  cases zg : gg1 x y with
  | none => rw [zg] at p3; exact p3.elim
  | some d =>
    rw [zg] at p3
    cases d with
    | bl k =>
      refine ⟨F2, x, y, .bl k, t2.sub, o1', o2.bor, zg, fun z F3 H3 t3 o3 => ?_⟩
      cases o3
      refine ⟨k, rfl, ?_⟩
      have E3 := ((E.on t1).on t2).on t3
      cases k with
      | false =>
        rw [if_neg Bool.false_ne_true]
        exact p3 _ F3 H3 t3 (.bl false)
      | true =>
        rw [if_pos rfl]
        have p4 : PostE G W .s F3 H3 σ Q ((fc Γ).bind fun z => R.of (gg2 y z)) := by
          have p5 : PostE G W .s F2 H2 σ Q ((fc Γ).bind fun z => R.of (gg2 y z)) := p3
          revert p5
          generalize (fc Γ).bind (fun z => R.of (gg2 y z)) = r
          intro p5
          cases r with
          | bad => exact p5
          | err c => exact fun F4 H4 t4 => p5 F4 H4 (t3.trans t4)
          | ok d2 => exact fun w F4 H4 t4 o4 => p5 w F4 H4 (t3.trans t4) (o4.back t3)
        refine ⟨F3, Γ, E3, PostE.then (Q' := Q) p4 (fun z w F4 H4 _ t4 o4 p5 => ?_) t3.sub⟩
        obtain ⟨r, er, q⟩ := post_of p5
        exact ⟨F4, y, z, r, t4.sub, ((o2.step t2.sub t3).step t3.sub t4).bor, o4.bor, er, q⟩
    | _ => exact (show False from p3).elim
theorem d_chain {op op' : CmpOp} {gg1 gg2 : D → D → Option D} (ho : OpR X (compareOp op) (rd2 G.K .s gg1)) (ho' : OpR X (compareOp op') (rd2 G.K .s gg2)) (ha : PEd X G W M m1 a fa) (hb : PEd X G W M m2 b fb) (hc : PEd X G W M m3 c fc) (hm : lastMarks [op, op'] [b, c] = false := by with_unfolding_all rfl) :
    PEd X G W M .s (.Compare a [op, op'] [b, c] pos) (eChain gg1 gg2 fa fb fc) := PE.monoD (pe_chain ho ho' ha hb hc hm) fun σ H Q h => chain_read h
theorem dt_chain {op op' : CmpOp} {gg1 gg2 : D → D → Option D} (ho : OpR X (compareOp op) (rd2 G.K .s gg1)) (ho' : OpR X (compareOp op') (rd2 G.K .s gg2)) (ha : PEd X G W M m1 a fa) (hb : PEd X G W M m2 b fb) (hc : PEd X G W M m3 c fc) (hm : lastMarks [op, op'] [b, c] = false := by with_unfolding_all rfl) :
    PTd X G W M (.Compare a [op, op'] [b, c] pos) (bVal (eChain gg1 gg2 fa fb fc)) := by
  refine PT.monoD (pt_chain ho ho' ha hb hc hm) fun σ H Q ⟨F, Γ, E, p⟩ => ?_
  refine chain_read (M := M) (W := W) (G := G) (fa := fa) (fb := fb) (fc := fc) ⟨F, Γ, E, ?_⟩
  unfold bVal at p
  revert p
  cases eChain gg1 gg2 fa fb fc Γ with
  | bad => exact fun z => z
  | err c => exact fun z => z
  | ok d =>
    intro p v F1 H1 t1 o1
    cases d with
    | bl b =>
      have p' : PostB G W F H σ Q (.ok b) := p
      cases o1
      exact ⟨b, rfl, p' F1 H1 t1⟩
    | _ => exact (show False from p).elim

/-! ### the module's constants -/
theorem d_globI {x : Str} {i : Int} (h : ∃ t, X.mg x = some (.int i t)) (hg : Gl X x := by rfl) (hdb : (x == ("__debug__" : Str)) = false := by decide) : PEd X G W M .s (.Name x pos) (eC (.int i)) := by
  obtain ⟨t, h⟩ := h
  exact d_glob (.int i) h ⟨t, rfl⟩ hg hdb
theorem d_globS {x i : Str} (h : ∃ t, X.mg x = some (.str i t)) (hg : Gl X x := by rfl) (hdb : (x == ("__debug__" : Str)) = false := by decide) : PEd X G W M .s (.Name x pos) (eC (.str i)) := by
  obtain ⟨t, h⟩ := h
  exact d_glob (.str i) h ⟨t, rfl⟩ hg hdb
theorem d_globT {x : Str} {A : Addr} {d : D} (h : X.mg x = some (.ref A)) (hd : Den G.K (fun _ => none) d (.ref A)) (hg : Gl X x := by rfl) (hdb : (x == ("__debug__" : Str)) = false := by decide) : PEd X G W M .s (.Name x pos) (eC d) := d_glob hd h rfl hg hdb
end
end L2.DL
set_option Elab.async false
set_option linter.all false
set_option maxRecDepth 100000
set_option autoImplicit false
/-! DM: lists handed over between names; blocks that don't run through; recursion; a law's end. -/
namespace L2.DL
open PySem PySem.Spec PyProof.Rows
section
variable {X : Cx} {G : Gx} {W : WX} {M M1 M2 Mt Ml : List Md} {m m1 m2 m3 mr : Md} {e a b c tg : Expr} {f fa fb fc fi fv : EF} {g g1 g2 : SF} {pos tpos p2 : Pos} {st : Stmt} {sts : List Stmt}
/-- y = x, where x holds a list of the def's own that it gives up -/
theorem d_move {i j : Nat} {x y : Str} {px py : Pos} (cx : CxOk X G W) (hj : M[j]? = some m := by rfl) (hm : m = .l ∨ m = .k := by decide) (hM : M1 = (M.set i m).set j .u := by rfl) (hij : i ≠ j := by decide) (hi : X.N[i]? = some y := by rfl) (hy : Loc X.env.scope y := by first | exact .inl rfl | exact .inr rfl) (hN : X.N[j]? = some x := by rfl)
    (hv : Vis X.env.scope x := by first | exact Or.inl rfl | exact Or.inr (Or.inl rfl) | exact Or.inr (Or.inr rfl)) (hd : (x == ("__debug__" : Str)) = false := by decide) (hcd : (x == ("__classdict__" : Str)) = false := by decide)
    (hs : swapsWith (.Name x px) (some (.Name y py)) pos.line X.env = pure false := by rfl) (hf : X.fn y = true ∨ X.env.scope.names.lookup y = some .local := by first | exact .inl rfl | exact .inr rfl) : PSd X G W M M1 Ml mr (.Assign [.Name y py] (.Name x px) pos) (sMove i j) := by
  subst hM
  refine PS.monoD (ps_set cx.nd hi hy (pe_var hN hv hd hcd) hs hf) fun C σ H ⟨F, Γ, E, p⟩ => ?_
  unfold sMove at p
  cases z : Γ[j]? with
  | none => rw [z] at p; exact p.elim
  | some d =>
    rw [z] at p
    have so := E.slot j m d hj z
    have key : ∃ A, σ.getD j none = some (.ref A) ∧ m.own = true := by
      rcases hm with rfl | rfl
      · obtain ⟨A, ea, _⟩ := so
        exact ⟨A, ea, rfl⟩
      · obtain ⟨A, ea, _⟩ := so
        exact ⟨A, ea, rfl⟩
    obtain ⟨A, ea, ho⟩ := key
    refine ⟨.ref A, slot_get ea, p _ F H (.refl F) ?_⟩
    have jl : j < σ.length := by
      rw [← E.lenM]
      exact (List.getElem?_eq_some_iff.mp hj).1
    refine ⟨E.step, by simpa using E.lenM, by simpa using E.lenG, fun t n x h1 h2 => ?_, fun t1 t2 n1 n2 B h1 h2 o1 o2 e1 e2 => ?_⟩
    · rcases getSet h1 with ⟨_, rfl⟩ | ⟨ne, h1⟩
      · trivial
      · rw [getD_set]
        rcases getSet h1 with ⟨rfl, rfl⟩ | ⟨ne2, h1⟩
        · have il : i < σ.length := by
            rw [← E.lenM]
            have := (List.getElem?_eq_some_iff.mp h1).1
            simpa using this
          rw [if_pos ⟨rfl, il⟩]
          rcases getSet h2 with ⟨_, rfl⟩ | ⟨nn, _⟩
          · rw [← ea]
            exact so
          · exact absurd rfl nn
        · rw [if_neg fun z => ne2 z.1]
          rcases getSet h2 with ⟨zz, _⟩ | ⟨_, h2⟩
          · exact absurd zz ne2
          · exact E.slot t n x h1 h2
    · rw [getD_set] at e1 e2
      rcases getSet h1 with ⟨_, q⟩ | ⟨a1, k1⟩
      · rw [q] at o1; cases o1
      · rcases getSet h2 with ⟨_, q⟩ | ⟨a2, k2⟩
        · rw [q] at o2; cases o2
        · rcases getSet k1 with ⟨q1, w1⟩ | ⟨b1, k1⟩
          · rcases getSet k2 with ⟨q2, w2⟩ | ⟨b2, k2⟩
            · exact q1.symm.trans q2
            · rw [if_neg fun z => b2 z.1] at e2
              split at e1
              · have eB : A = B := V.ref.inj (Option.some.inj e1)
                subst eB
                exact absurd (E.disj j t2 m n2 A hj k2 ho o2 ea e2) a2
              · rename_i hh
                subst q1
                exact absurd (E.disj i t2 _ n2 B (by
                  have il : i < M.length := by
                    have := (List.getElem?_eq_some_iff.mp h1).1
                    simpa using this
                  exact absurd ⟨rfl, by rw [← E.lenM]; exact il⟩ hh) k2 o1 o2 e1 e2) b2
          · rw [if_neg fun z => b1 z.1] at e1
            rcases getSet k2 with ⟨q2, w2⟩ | ⟨b2, k2⟩
            · split at e2
              · have eB : A = B := V.ref.inj (Option.some.inj e2)
                subst eB
                exact absurd (E.disj j t1 m n1 A hj k1 ho o1 ea e1) a1
              · rename_i hh
                subst q2
                have il : i < M.length := by
                  have := (List.getElem?_eq_some_iff.mp h2).1
                  simpa using this
                exact absurd ⟨rfl, by rw [← E.lenM]; exact il⟩ hh
            · rw [if_neg fun z => b2 z.1] at e2
              exact E.disj t1 t2 n1 n2 B k1 k2 o1 o2 e1 e2
end
/-! ### a block that never runs through -/
def NoNx (g : SF) : Prop := ∀ Γ Γ', g Γ ≠ .ok (.nx Γ')
theorem nnx_ret {f : EF} : NoNx (sRet f) := fun Γ Γ' h => by
  unfold sRet at h
  cases z : f Γ with
  | bad => rw [z] at h; cases h
  | err c => rw [z] at h; cases h
  | ok d => rw [z] at h; cases h
theorem nnx_err {c : Nat} : NoNx (sErr c) := fun Γ Γ' h => by cases h
theorem nnx_if {t : BF} {g1 g2 : SF} (h1 : NoNx g1) (h2 : NoNx g2) : NoNx (sIf t g1 g2) := fun Γ Γ' h => by
  unfold sIf at h
  cases z : t Γ with
  | bad => rw [z] at h; cases h
  | err c => rw [z] at h; cases h
  | ok b =>
    rw [z] at h
    cases b with
    | true => exact h1 Γ Γ' h
    | false => exact h2 Γ Γ' h
theorem nnx_seq {g1 g2 : SF} (h2 : NoNx g2) : NoNx (sSeq g1 g2) := fun Γ Γ' h => by
  unfold sSeq at h
  cases z : g1 Γ with
  | bad => rw [z] at h; cases h
  | err c => rw [z] at h; cases h
  | ok fl =>
    rw [z] at h
    cases fl with
    | nx Γ1 => exact h2 Γ1 Γ' h
    | rt d => cases h
    | bk d => cases h
    | ct d => cases h
/-- nothing is promised -/
theorem fn_bad {P : Program} {w : World} {K : PySem.W.Frag} {mg : Str → Option Value} {base : Heap} {CX : CXT} {k : Nat} {f : Addr} {fd : FuncData} {ps : List Str} {cls : Nat → Addr} {pm : List Md} {mr : Md} : FnOk P w K mg base CX k f fd ps (spD K cls pm mr fun _ => .bad) :=
  ⟨fun vs H Q E h => by
    obtain ⟨_, F, ds, _, _, h⟩ := h
    exact h.elim, fun A outer s H args us vs Q E hr he hb hv h => by
    obtain ⟨_, F, ds, _, _, h⟩ := h
    exact h.elim⟩
/-! ### a law's end -/
theorem cx_end {P : Program} {w : World} {H : Hp} {s : Shared} {e : Value} {s' : Shared} (z : L2.CX P w [] H s (fun _ _ _ => False) e s') : False := by
  obtain ⟨_, _, _, _, _, _, _, _, _, _, _, _, z⟩ := z
  exact z
/-- as the layer's walk_ofE, where the exceptions' frame hangs on the world -/
theorem walk_ofW {l : PySem.W.OpenLaw} {n k : Nat} {q : Program} {loose : List Str} {XP : (Str → Option Value) → Heap → Prop} {YP : World → Heap → Prop} {d : DefRec} {CX : World → CXT} {x : Str}
    (hn : l.most = some n) (hn2 : n ≤ sizeLine) (hdf : d.params.defaults = []) (hr : Room k callerA)
    (F : ∀ (w : World) (mg : Str → Option Value) (fa : Addr) (h : Heap), YP w h → h.Ns mainGlobals mg → mg d.name = some (.ref fa) →
      ∃ (K : PySem.W.Frag) (fd : FuncData) (sp : Sp), K.In h ∧ (∀ (s : Shared) (u : Value), BindsTo s fd ⟨[u], []⟩ [(x, u)]) ∧
        (∀ (H : Hp) (a : Addr) (ns : List Int), ns.length ≤ n → Only H → SqL K H a (ns.map V.int) → sp [.ref a] H (fun v _ => v = .bl true) fun _ _ _ => False) ∧
        ∀ base : Heap, K.In base → base.Ns mainGlobals mg → FnOk l.prog w K mg base (CX w) k fa fd [x] sp)
    (hCX : ∀ (w : World) (H : Hp) (s : Shared) (e : Value) (s' : Shared), CX w [] H s (fun _ _ _ => False) e s' → False) :
    PySem.W.WalkO q loose XP YP l.row.toRowW d [] (fun f vs => PySem.call f vs) := by
  refine Att.attach_call hn hdf fun w s₀ s₁ mg mb fa o pm cd doc a vs ns G Y ho hd hcd hmg hobj hints hlen hg => ?_
  obtain ⟨K, fd, sp, KX, hb, hsp, hF⟩ := F w mg fa _ Y G.T.g hmg
  exact law_call KX G.T.g G.T.b G.T.builtins G.T.nolimit hg hobj hints (Nat.le_trans hlen hn2) hr hF hb (fun H hO hS => hsp H a ns hlen hO hS) fun H e s' => hCX w H s₁ e s'
theorem law_end {K : PySem.W.Frag} {cls : Nat → Addr} {H : Hp} {a : Addr} {ns : List Int} {mf : List D → R D} (hS : SqL K H a (ns.map V.int)) (h : mf [.scr (ns.map .int)] = .ok (.bl true)) : spD K cls [.s] .s mf [.ref a] H (fun v _ => v = .bl true) fun _ _ _ => False := by
  refine ⟨rfl, ⟨H, fun _ => none, fun _ _ h => by cases h⟩, [.scr (ns.map .int)], ⟨fun _ _ h => h, fun _ _ h => by cases h⟩, .cons (.inl rfl) (.scr hS (denL_ints ns)) .nil, ?_⟩
  rw [h]
  intro v F' H' t o
  cases o
  rfl
end L2.DL
set_option Elab.async false
set_option linter.all false
set_option maxRecDepth 100000
set_option autoImplicit false
/-! DN: a list of lists of its own, filled row by row through a second name. -/
namespace L2.DL
open PySem PySem.Spec PyProof.Rows
/-- the lists at bs are the program's own, new since Hs, each apart from the others -/
structure Rows (K : PySem.W.Frag) (F : Fz) (Hs H : Hp) (rs : List D) (bs : List Addr) : Prop where
  nd : bs.Nodup
  len : bs.length = rs.length
  own : ∀ (i : Nat) (b : Addr) (r : D), bs[i]? = some b → rs[i]? = some r → Hs b = none ∧ OwnL K F H r b
section
variable {K : PySem.W.Frag} {F F' : Fz} {Hs H H' : Hp} {rs : List D} {bs : List Addr}
theorem Rows.get (h : Rows K F Hs H rs bs) {i : Nat} {b : Addr} (e : bs[i]? = some b) : ∃ r, rs[i]? = some r ∧ Hs b = none ∧ OwnL K F H r b := by
  have hi := (List.getElem?_eq_some_iff.mp e).1
  have hi2 : i < rs.length := by rw [← h.len]; exact hi
  have e2 : rs[i]? = some rs[i] := List.getElem?_eq_getElem hi2
  exact ⟨_, e2, h.own i b _ e e2⟩
theorem Rows.alloc (h : Rows K F Hs H rs bs) {b : Addr} (hb : b ∈ bs) : Hs b = none ∧ H b ≠ none ∧ F.ex b = none ∧ F.iv b = none := by
  obtain ⟨i, e⟩ := List.getElem?_of_mem hb
  obtain ⟨r, _, h0, x1, x2, vs, ds, _, h3, _⟩ := h.get e
  exact ⟨h0, by rw [h3]; exact Option.some_ne_none _, x1, x2⟩
theorem Rows.step (h : Rows K F Hs H rs bs) (s : Sub F H) (t : Step S0 F H F' H') : Rows K F' Hs H' rs bs :=
  ⟨h.nd, h.len, fun i b r e1 e2 => ⟨(h.own i b r e1 e2).1, (h.own i b r e1 e2).2.step s t fun z => z⟩⟩
theorem Rows.upd (h : Rows K F Hs H rs bs) {p : Addr} {o : HO} (hp : p ∉ bs) : Rows K F Hs (upd H p o) rs bs :=
  ⟨h.nd, h.len, fun i b r e1 e2 => by
    obtain ⟨h0, x1, x2, vs, ds, e, h3, h4⟩ := h.own i b r e1 e2
    exact ⟨h0, x1, x2, vs, ds, e, by rw [upd_ne fun z => hp (by rw [← z]; exact List.mem_of_getElem? e1)]; exact h3, h4⟩⟩
theorem Rows.snoc (h : Rows K F Hs H rs bs) {b : Addr} {r : D} (hb : b ∉ bs) (h0 : Hs b = none) (o : OwnL K F H r b) : Rows K F Hs H (rs ++ [r]) (bs ++ [b]) := by
  refine ⟨?_, by simp [h.len], fun i c q e1 e2 => ?_⟩
  · rw [List.nodup_append]
    refine ⟨h.nd, by simp, fun x hx y hy => ?_⟩
    rw [List.mem_singleton.1 hy]
    exact fun e => hb (e ▸ hx)
  · by_cases hi : i < bs.length
    · rw [List.getElem?_append_left hi] at e1
      rw [List.getElem?_append_left (by rw [← h.len]; exact hi)] at e2
      exact h.own i c q e1 e2
    · rw [List.getElem?_append_right (by omega)] at e1
      rw [List.getElem?_append_right (by rw [← h.len]; omega), ← h.len] at e2
      have hz : i - bs.length = 0 := by
        have := (List.getElem?_eq_some_iff.mp e1).1
        simp at this
        omega
      rw [hz] at e1 e2
      simp at e1 e2
      subst e1; subst e2
      exact ⟨h0, o⟩
end
theorem there_none {S : Addr → Prop} {F F' : Fz} {H H' : Hp} (t : Step S F H F' H') {a : Addr} (h : H' a = none) : H a = none := by
  cases q : H a with
  | none => rfl
  | some o => exact absurd h (t.there a (by rw [q]; exact Option.some_ne_none _))
section
variable {X : Cx} {G : Gx} {W : WX} {M M1 M2 Mt Ml : List Md} {m m1 m2 mr : Md} {e a b c tg : Expr} {f fa fb fi fv : EF} {g g1 g2 : SF} {pos tpos : Pos} {st : Stmt} {sts : List Stmt}
/-- a comprehension of new lists, kept as the program's own -/
theorem lc_own {src : AF} {h : TF} {elt : EF} {own is : List Nat} (hi : ∀ x ∈ is, x ∈ own) {σ : St} {H : Hp} {Q : VK} {F : Fz} {Γ : List D} (E : EnvOk G M F H σ Γ) {ds r : List D} (z : src Γ = .ok ds) (hd : ds.length ≤ 1000000) (zl : lcL (lcBody h bYes elt Γ) ds = .ok r)
    (p : ∀ (a : Addr) (bs : List Addr) (F' : Fz) (H' : Hp), Step S0 F H F' H' → H a = none → F'.ex a = none → F'.iv a = none → H' a = some (.lst (bs.map .ref)) → a ∉ bs → Rows G.K F' H H' r bs → Q (.ref a) H') :
    tLc (rdI G W M src) (rdG G (wipeM M own) Mt is h) (rdB G Wf Mt bYes) (rdE G Wf Mt .l elt) own σ H Q := by
  refine ⟨F, Γ, E, ?_⟩
  rw [z]
  intro J F1 H1 t1 S D0 hD0
  have hD1 : H D0 = none := there_none t1 hD0
  have E1 := (E.on t1).wipe (vs := own)
  refine ⟨fun i n H' => n = ds.length - i ∧ i ≤ ds.length ∧ ∃ F2 acc bs, Step S0 F1 H1 F2 H' ∧ F2.ex D0 = none ∧ F2.iv D0 = none ∧ H' D0 = some (.lst (bs.map .ref)) ∧ D0 ∉ bs ∧ Rows G.K F2 H H' acc bs ∧ acc.length ≤ i ∧ ∃ r', lcL (lcBody h bYes elt Γ) (ds.drop i) = .ok r' ∧ r = acc ++ r',
    ⟨ds.length, by omega, Nat.zero_le _, F1, [], [], Step.new t1.sub hD0, (t1.sub.nil_ hD0).1, (t1.sub.nil_ hD0).2, upd_same, by simp, ⟨by simp, rfl, fun i b r e _ => by simp at e⟩, Nat.zero_le _, r, zl, rfl⟩, fun i n H2 hw => ?_⟩
  obtain ⟨rfl, hii, F2, acc, bs, t2, x1, x2, hDv, nDb, rw2, al, r', zr, er⟩ := hw
  have l2 : FLe F1 F2 := t2.le t1.sub
  by_cases hlt : i < ds.length
  · have e0 : ds[i]? = some ds[i] := List.getElem?_eq_getElem hlt
    obtain ⟨go, yld⟩ := S.go i ds[i] F2 H2 l2 t2.sub e0
    rw [List.drop_eq_getElem_cons hlt] at zr
    obtain ⟨o, r2, zb, zr2, rfl⟩ := lcL_ok zr
    refine .inr ⟨go, fun H' => ∃ F2 acc bs, Step S0 F1 H1 F2 H' ∧ F2.ex D0 = none ∧ F2.iv D0 = none ∧ H' D0 = some (.lst (bs.map .ref)) ∧ D0 ∉ bs ∧ Rows G.K F2 H H' acc bs ∧ acc.length ≤ i + 1 ∧ ∃ r', lcL (lcBody h bYes elt Γ) (ds.drop (i + 1)) = .ok r' ∧ r = acc ++ r', fun H' hN => ⟨ds.length - (i + 1), by omega, rfl, hlt, hN⟩, fun x H' hy => ?_⟩
    obtain ⟨F3, t3, dx⟩ := yld x H' hy
    have nD2 : H2 D0 ≠ none := by rw [hDv]; exact Option.some_ne_none _
    unfold lcBody at zb
    cases zh : h ds[i] Γ with
    | none => rw [zh] at zb; cases zb
    | some Γ3 =>
      rw [zh] at zb
      have t13 := t2.trans t3
      refine ⟨F3, Γ, ds[i], Γ3, E1.on t13, dx, zh, fun σ3 l3 k3 E3 => ⟨?_, F3, Γ3, E3, ?_⟩⟩
      · rw [wipe_same (σ' := σ3) (σ := wipe σ own) (vs := own) l3 fun k hk => k3 k fun z => hk (hi k z)]
        apply wipe_same (wipe_length _ _)
        intro k hk
        exact wipe_get hk
      · have zb : ((elt Γ3).bind fun x => R.ok (some x)) = .ok o := zb
        intro F4 H4 t4
        have hD3 : H' D0 = some (.lst (bs.map .ref)) := t3.keep D0 _ hDv x2 fun z => z
        have hD4 : H4 D0 = some (.lst (bs.map .ref)) := t4.keep D0 _ hD3 ((t3.iv D0 nD2).trans x2) fun z => z
        have nD3 : H' D0 ≠ none := by rw [hD3]; exact Option.some_ne_none _
        have nD4 : H4 D0 ≠ none := by rw [hD4]; exact Option.some_ne_none _
        have x14 : F4.ex D0 = none := (t4.ex D0 nD3).trans ((t3.ex D0 nD2).trans x1)
        have x24 : F4.iv D0 = none := (t4.iv D0 nD3).trans ((t3.iv D0 nD2).trans x2)
        have rw4 : Rows G.K F4 H H4 acc bs := (rw2.step t2.sub t3).step t3.sub t4
        rw [if_pos rfl]
        refine ⟨F4, Γ3, E3.on t4, ?_⟩
        revert zb
        cases elt Γ3 with
        | bad => intro zb; cases zb
        | err c => intro zb; cases zb
        | ok y =>
          intro zb v5 F5 H5 t5 o5
          cases zb
          obtain ⟨b, rfl, hb0, ob⟩ := o5
          have hD5 : H5 D0 = some (.lst (bs.map .ref)) := t5.keep D0 _ hD4 x24 fun z => z
          have x15 : F5.ex D0 = none := (t5.ex D0 nD4).trans x14
          have x25 : F5.iv D0 = none := (t5.iv D0 nD4).trans x24
          have rw5 : Rows G.K F5 H H5 acc bs := rw4.step t4.sub t5
          have nb : b ∉ bs := fun hb => (rw4.alloc hb).2.1 hb0
          have nbD : b ≠ D0 := fun z => nD4 (z ▸ hb0)
          have hHb : H b = none := there_none t1 (there_none (t13.trans t4) hb0)
          have hlen := rw5.len
          refine ⟨bs.map .ref, hD5, by rw [List.length_map, hlen]; exact lt_line (by omega), F5, acc ++ [y], bs ++ [b], ((t13.trans t4).trans t5).write (.inl hD0) (by rw [hD5]; exact Option.some_ne_none _) x15 x25, x15, x25, by rw [upd_same, List.map_append]; rfl, ?_, (rw5.snoc nb hHb ob).upd ?_, by simp; omega, r2, zr2, ?_⟩
          · rw [List.mem_append, List.mem_singleton, not_or]
            exact ⟨nDb, fun z => nbD z.symm⟩
          · rw [List.mem_append, List.mem_singleton, not_or]
            exact ⟨nDb, fun z => nbD z.symm⟩
          · rw [er]
            simp
  · refine .inl ⟨S.stop i F2 H2 l2 t2.sub (by omega), ?_⟩
    rw [List.drop_eq_nil_of_le (by omega)] at zr
    have e1 : r' = [] := by
      unfold lcL at zr
      exact (R.ok.inj zr).symm
    subst e1
    rw [List.append_nil] at er
    subst er
    exact p D0 bs F2 H2 (t1.trans t2) hD1 x1 x2 hDv nDb rw2

/-! ### modes: frozen or unknown -/
theorem su_of {M : List Md} (h : M.all (fun m => m == .s || m == .u) = true) : ∀ (i : Nat) (m : Md), M[i]? = some m → m = .s ∨ m = .u := by
  intro i m e
  have := List.all_eq_true.1 h m (List.mem_of_getElem? e)
  simpa using this
def SU (M : List Md) : Prop := ∀ (i : Nat) (m : Md), M[i]? = some m → m = .s ∨ m = .u
theorem EnvOk.putU {F : Fz} {H : Hp} {σ : St} {Γ : List D} {i : Nat} {o : Option V} {d : D} (E : EnvOk G M F H σ Γ) (hi : M[i]? = some .u) : EnvOk G M F H (σ.set i o) (Γ.set i d) := by
  refine ⟨E.step, by rw [List.length_set]; exact E.lenM, by rw [List.length_set, List.length_set]; exact E.lenG, fun j n x h1 h2 => ?_, fun j1 j2 n1 n2 a h1 h2 o1 o2 e1 e2 => ?_⟩
  · by_cases e : i = j
    · subst e
      rw [hi] at h1
      cases h1
      trivial
    · rw [List.getElem?_set_ne e] at h2
      rw [List.getD_eq_getElem?_getD, List.getElem?_set_ne e, ← List.getD_eq_getElem?_getD]
      exact E.slot j n x h1 h2
  · have ne : ∀ {j n}, M[j]? = some n → n.own = true → i ≠ j := fun {j n} h o z => by
      subst z
      rw [hi] at h
      cases h
      cases o
    rw [List.getD_eq_getElem?_getD, List.getElem?_set_ne (ne h1 o1), ← List.getD_eq_getElem?_getD] at e1
    rw [List.getD_eq_getElem?_getD, List.getElem?_set_ne (ne h2 o2), ← List.getD_eq_getElem?_getD] at e2
    exact E.disj j1 j2 n1 n2 a h1 h2 o1 o2 e1 e2
theorem SU.disj (h : SU M) {σ : St} : ∀ i j m n a, M[i]? = some m → M[j]? = some n → m.own = true → n.own = true → σ.getD i none = some (.ref a) → σ.getD j none = some (.ref a) → i = j := by
  intro i j m n a h1 _ o1
  rcases h i m h1 with rfl | rfl <;> cases o1
/-- one more own list freezes, or the objects in S change: slots of frozen data stand -/
theorem EnvOk.su {F F' : Fz} {H H' : Hp} {σ : St} {Γ : List D} (su : SU M) (E : EnvOk G M F H σ Γ) (st : Step G.io G.F0 G.H0 F' H') (l : Ext F.ex F'.ex) : EnvOk G M F' H' σ Γ := by
  refine ⟨st, E.lenM, E.lenG, fun j n x h1 h2 => ?_, su.disj⟩
  have so := E.slot j n x h1 h2
  rcases su j n h1 with rfl | rfl
  · obtain ⟨v, e, q⟩ := so
    exact ⟨v, e, q.ext l⟩
  · trivial
theorem step_in {S S' : Addr → Prop} {F0 F F' : Fz} {H0 H H' : Hp} (a : Step S F0 H0 F H) (b : Step S' F H F' H') (h : ∀ x, S' x → H0 x = none) : Step S F0 H0 F' H' :=
  ⟨fun c n => (b.ex c (a.there c n)).trans (a.ex c n), fun c n => (b.iv c (a.there c n)).trans (a.iv c n), b.sub,
    fun c o e i n => b.keep c o (a.keep c o e i n) (by rw [a.iv c (by rw [e]; exact Option.some_ne_none _)]; exact i) (fun z => by rw [h c z] at e; cases e), fun c n => b.there c (a.there c n)⟩
/-- the run's frame while one row is filled -/
abbrev Gx.row (G : Gx) (F : Fz) (H : Hp) (a b : Addr) : Gx := ⟨G.K, G.cls, F, H, fun x => x = b, fun x => x = a⟩
/-- the modes while a row is filled: iM the turn, iR the row's second name, iL the list of rows -/
def rowM (M : List Md) (iM iR iL : Nat) : List Md := ((M.set iM .s).set iR .i).set iL .p
theorem EnvOk.rowIn {F : Fz} {H : Hp} {σ : St} {Γ : List D} {iM iR iL : Nat} {a b : Addr} {z : D} (su : SU M) (E : EnvOk G M F H σ Γ) (hM : iM < M.length) (hR : iR < M.length) (n1 : iM ≠ iR) (n2 : iL ≠ iM) (n3 : iL ≠ iR) (eM : ∃ v, σ.getD iM none = some v ∧ ∃ d, Γ[iM]? = some d ∧ Den G.K F.ex d v) (eR : σ.getD iR none = some (.ref b)) (eL : σ.getD iL none = some (.ref a)) (zR : Γ[iR]? = some z) (o : OwnL G.K F H z b) :
    EnvOk (G.row F H a b) (rowM M iM iR iL) F H σ Γ := by
  have own : ∀ {j n}, (rowM M iM iR iL)[j]? = some n → n.own = true → j = iR := by
    intro j n h o
    unfold rowM at h
    rcases getSet h with ⟨rfl, rfl⟩ | ⟨_, h⟩
    · cases o
    · rcases getSet h with ⟨rfl, rfl⟩ | ⟨_, h⟩
      · rfl
      · rcases getSet h with ⟨rfl, rfl⟩ | ⟨_, h⟩
        · cases o
        · rcases su _ _ h with rfl | rfl <;> cases o
  refine ⟨.refl E.sub, by simp only [rowM, List.length_set]; exact E.lenM, E.lenG, fun j n x h1 h2 => ?_, fun j1 j2 n1 n2 c h1 h2 o1 o2 _ _ => (own h1 o1).trans (own h2 o2).symm⟩
  unfold rowM at h1
  rcases getSet h1 with ⟨rfl, rfl⟩ | ⟨_, h1⟩
  · exact ⟨a, eL, rfl⟩
  · rcases getSet h1 with ⟨rfl, rfl⟩ | ⟨_, h1⟩
    · rw [zR] at h2
      cases h2
      exact ⟨b, eR, rfl, o⟩
    · rcases getSet h1 with ⟨rfl, rfl⟩ | ⟨_, h1⟩
      · obtain ⟨v, e, d, q, dn⟩ := eM
        rw [q] at h2
        cases h2
        exact ⟨v, e, dn⟩
      · have so := E.slot j n x h1 h2
        rcases su _ _ h1 with rfl | rfl
        · exact so
        · trivial
theorem EnvOk.rowOut {F F1 : Fz} {H H1 : Hp} {σ σ1 : St} {Γ Γ1 : List D} {iM iR iL : Nat} {a b : Addr} (su : SU M) (E : EnvOk G M F H σ Γ) (E1 : EnvOk (G.row F H a b) (rowM M iM iR iL) F1 H1 σ1 Γ1) (hM : M[iM]? = some .u) (hR : M[iR]? = some .u) (hL : M[iL]? = some .u) (n1 : iM ≠ iR) (n2 : iL ≠ iM) (n3 : iL ≠ iR) (hb : G.H0 b = none) :
    EnvOk G M F1 H1 σ1 Γ1 ∧ σ1.getD iL none = some (.ref a) ∧ ∃ z, Γ1[iR]? = some z ∧ OwnL G.K F1 H1 z b := by
  have lM : (rowM M iM iR iL).length = M.length := by simp only [rowM, List.length_set]
  have lt : ∀ {i}, M[i]? = some .u → i < M.length := fun h => (List.getElem?_eq_some_iff.mp h).1
  have hl1 : Γ1.length = M.length := by rw [E1.lenG, ← E1.lenM, lM]
  have mL : (rowM M iM iR iL)[iL]? = some .p := by
    unfold rowM
    rw [List.getElem?_set_self (by simp only [List.length_set]; exact lt hL)]
  have mR : (rowM M iM iR iL)[iR]? = some .i := by
    unfold rowM
    rw [List.getElem?_set_ne n3, List.getElem?_set_self (by simp only [List.length_set]; exact lt hR)]
  have mo : ∀ j, j ≠ iM → j ≠ iR → j ≠ iL → (rowM M iM iR iL)[j]? = M[j]? := fun j h1 h2 h3 => by
    unfold rowM
    rw [List.getElem?_set_ne (fun z => h3 z.symm), List.getElem?_set_ne (fun z => h2 z.symm), List.getElem?_set_ne (fun z => h1 z.symm)]
  refine ⟨⟨step_in E.step E1.step fun x hx => by rw [show x = b from hx]; exact hb, lM.symm.trans E1.lenM, E1.lenG, fun j n x h1 h2 => ?_, su.disj⟩, ?_, ?_⟩
  · rcases su j n h1 with rfl | rfl
    · have so := E1.slot j .s x (by
        rw [mo j (fun z => ?_) (fun z => ?_) (fun z => ?_)]
        · exact h1
        · rw [z, hM] at h1; cases h1
        · rw [z, hR] at h1; cases h1
        · rw [z, hL] at h1; cases h1) h2
      exact so
    · trivial
  · have so := E1.slot iL .p _ mL (List.getElem?_eq_getElem (by rw [hl1]; exact lt hL))
    obtain ⟨c, e, h⟩ := so
    rw [e, show c = a from h]
  · have e := List.getElem?_eq_getElem (l := Γ1) (i := iR) (by rw [hl1]; exact lt hR)
    have so := E1.slot iR .i _ mR e
    obtain ⟨c, _, h, o⟩ := so
    rw [show c = b from h] at o
    exact ⟨_, e, o⟩
/-! ### the rule -/
/-- row by row: what inner makes of each -/
def rowsR (iM iR : Nat) (inner : SF) : Nat → List D → List D → R (List D × List D)
  | _, [], Γ => .ok ([], Γ)
  | i, z :: zs, Γ => match inner ((Γ.set iM (.int i)).set iR z) with
    | .ok (.nx Γ') => match Γ'[iR]? with
      | some r => (rowsR iM iR inner (i + 1) zs Γ').bind fun p => .ok (r :: p.1, p.2)
      | none => .bad
    | _ => .bad
/-- x = [e for ..]; for iM in range(..): iR = x[iM]; inner; then iT = x -/
def sRows (iT iM iR : Nat) (src : AF) (h : TF) (elt : EF) (fr : AF) (inner : SF) : SF := fun Γ => match src Γ with
  | .ok ds => if ds.length ≤ 1000000 then match lcL (lcBody h bYes elt Γ) ds with
      | .ok zs => match iRng rng1D fr Γ with
        | .ok es => if es.length = zs.length then match rowsR iM iR inner 0 zs Γ with
            | .ok p => .ok (.nx (p.2.set iT (.lst p.1)))
            | _ => .bad
          else .bad
        | _ => .bad
      | _ => .bad
    else .bad
  | _ => .bad
theorem ps_ex {P : Gx → Prop} {inner : SF} {Mi Mx : List Md} (h : ∀ G', P G' → PSd X G' W Mi Mi Mx mr st inner) : PS X st (fun C σ H => ∃ G', P G' ∧ rdS G' W Mi Mi Mx mr inner C σ H) :=
  ⟨fun pins s σ H C I ⟨G', hP, q⟩ => (h G' hP).run pins s σ H C I q⟩
theorem rowsR_len {iM iR : Nat} {inner : SF} : ∀ {zs : List D} {i : Nat} {Γ : List D} {p : List D × List D}, rowsR iM iR inner i zs Γ = .ok p → p.1.length = zs.length
  | [], _, _, _, h => by cases h; rfl
  | z :: zs, i, Γ, p, h => by
    unfold rowsR at h
    split at h
    · split at h
      · rename_i r _
        cases q : rowsR iM iR inner (i + 1) zs _ with
        | bad => rw [q] at h; cases h
        | err c => rw [q] at h; cases h
        | ok p2 =>
          rw [q] at h
          cases h
          simp [rowsR_len q]
      · cases h
    · cases h
theorem denL_of {K : PySem.W.Frag} {Y : Hp} : ∀ {rs : List D} {vs : List V}, rs.length = vs.length → (∀ (i : Nat) (r : D) (v : V), rs[i]? = some r → vs[i]? = some v → Den K Y r v) → DenL K Y rs vs
  | [], [], _, _ => .nil
  | [], _ :: _, h, _ => by cases h
  | _ :: _, [], h, _ => by cases h
  | r :: rs, v :: vs, h, k => .cons (k 0 r v rfl rfl) (denL_of (by simpa using h) fun i r v e1 e2 => k (i + 1) r v (by simpa using e1) (by simpa using e2))
theorem getD_self {σ : St} {i : Nat} {o : Option V} (h : i < σ.length) : (σ.set i o).getD i none = o := by
  rw [List.getD_eq_getElem?_getD, List.getElem?_set_self h]; rfl
theorem getD_ne {σ : St} {i j : Nat} {o : Option V} (h : i ≠ j) : (σ.set i o).getD j none = σ.getD j none := by
  rw [List.getD_eq_getElem?_getD, List.getElem?_set_ne h, ← List.getD_eq_getElem?_getD]
theorem d_rows {iT iM iR iL : Nat} {xT xM xR xL : Str} {pT pM pR pL q1 q2 q3 q4 q5 q6 spos fpos : Pos} {elt iter iter2 : Expr} {scope : Scope} {own : List (Str × Nat)} {src fr : AF} {h : TF} {fe : EF} {is : List Nat} {Mx : List Md} {inner : Stmt} {body : SF} (cx : CxOk X G W) (hp : PassesOwn (model X.prog X.w) X.A X.env X.xe)
    (hi : PId X G W M tg iter src) (ok : BlkOk X.N X.env.scope scope own)
    (hg : ∀ (s : Shared) (H : Hp) (C : Addr) (cl : List (Str × Addr)) (fp : List Addr), PGd (X.blk s H scope (compEnvC scope cl C X.env) fp) G (wipeM M (own.map (·.2))) Mt is tg h)
    (he : ∀ (s : Shared) (H : Hp) (C : Addr) (cl : List (Str × Addr)) (fp : List Addr), CxOk (X.blk s H scope (compEnvC scope cl C X.env) fp) G Wf → PEd (X.blk s H scope (compEnvC scope cl C X.env) fp) G Wf Mt .l elt fe)
    (hi2 : PId X G W M (.Name xM pM) iter2 (iRng rng1D fr))
    (hin : ∀ (F : Fz) (H : Hp) (a b : Addr), CxOk X (G.row F H a b) W → PSd X (G.row F H a b) W (rowM M iM iR iL) (rowM M iM iR iL) Mx mr inner body)
    (su : SU M) (mM : M[iM]? = some .u) (mR : M[iR]? = some .u) (mL : M[iL]? = some .u) (mT : M[iT]? = some .s) (n1 : iM ≠ iR) (n2 : iL ≠ iM) (n3 : iL ≠ iR)
    (NT : X.N[iT]? = some xT) (NM : X.N[iM]? = some xM) (NR : X.N[iR]? = some xR) (NL : X.N[iL]? = some xL)
    (lT : Loc X.env.scope xT) (lM : Loc X.env.scope xM) (lR : Loc X.env.scope xR)
    (kT : X.env.scope.names.lookup xT = some .local) (kM : X.env.scope.names.lookup xM = some .local) (kR : X.env.scope.names.lookup xR = some .local) (kL : X.env.scope.names.lookup xL = some .local)
    (vM : Vis X.env.scope xM) (vL : Vis X.env.scope xL) (dM : (xM == ("__debug__" : Str)) = false) (dL : (xL == ("__debug__" : Str)) = false) (cM : (xM == ("__classdict__" : Str)) = false) (cL : (xL == ("__classdict__" : Str)) = false)
    (hsw : swapsWith (.ListComp elt [⟨tg, iter, [], 0⟩] scope pos) (some (.Name xL pL)) spos.line X.env = pure true)
    (hsR : swapsWith (.Subscript (.Name xL q1) (.Name xM q2) q3) (some (.Name xR pR)) q4.line X.env = pure false) (hsT : swapsWith (.Name xL q5) (some (.Name xT pT)) q6.line X.env = pure false)
    (his : ∀ x ∈ is, x ∈ own.map (·.2)) (hs : ∀ x, foldedSetIterable iter X.env x = pure x) (hs2 : ∀ x, foldedSetIterable iter2 X.env x = pure x) (hpx : PlainIx (.Name xM q2)) :
    PSsd X G W M M Ml mr [.Assign [.Name xL pL] (.ListComp elt [⟨tg, iter, [], 0⟩] scope pos) spos, .For (.Name xM pM) iter2 [.Assign [.Name xR pR] (.Subscript (.Name xL q1) (.Name xM q2) q3) q4, inner] [] fpos, .Assign [.Name xT pT] (.Name xL q5) q6] (sRows iT iM iR src h fe fr body) := by
  have hcx : ∀ G' : Gx, G'.K = G.K ∧ G'.cls = G.cls → CxOk X G' W := fun G' h => ⟨cx.calm, cx.K.trans h.1.symm, cx.nd, cx.hd, cx.units, cx.takes⟩
  refine PSs.monoD (pss_cons (ps_setLc cx.calm cx.nd NL kL hsw hi ok hg (fun s H C cl fp => dts_nil (G := G) (M := Mt)) (fun s H C cl fp => he s H C cl fp (cx.blk s H scope _ fp)) hs)
    (pss_cons (ps_for hp cx.calm hi2 (pg_name cx.nd NM lM (.inr kM)) (pss_cons (ps_set cx.nd NR lR (pe_ix ix_list (pe_var NL vL dL cL) (pe_var NM vM dM cM) hpx) hsR (.inr kR)) (pss_cons (ps_ex (P := fun G' => ∃ F H a b, G' = G.row F H a b) fun G' ⟨F, H, a, b, h⟩ => by rw [h]; exact hin F H a b (hcx _ ⟨rfl, rfl⟩)) pss_nil)) hs2)
      (pss_cons (ps_set cx.nd NT lT (pe_var NL vL dL cL) hsT (.inr kT)) pss_nil))) fun C σ H ⟨F, Γ, E, p⟩ => ?_
  have lt : ∀ {i : Nat} {m : Md}, M[i]? = some m → i < σ.length := fun h => by rw [← E.lenM]; exact (List.getElem?_eq_some_iff.mp h).1
  -- what the mirror says
  unfold sRows at p
  cases z : src Γ with
  | bad => rw [z] at p; exact p.elim
  | err c => rw [z] at p; exact p.elim
  | ok ds =>
  rw [z] at p
  simp only at p
  by_cases hd : ds.length ≤ 1000000
  case neg => rw [if_neg hd] at p; exact p.elim
  rw [if_pos hd] at p
  cases zl : lcL (lcBody h bYes fe Γ) ds with
  | bad => rw [zl] at p; exact p.elim
  | err c => rw [zl] at p; exact p.elim
  | ok zs =>
  rw [zl] at p
  simp only at p
  cases ze : iRng rng1D fr Γ with
  | bad => rw [ze] at p; exact p.elim
  | err c => rw [ze] at p; exact p.elim
  | ok es =>
  rw [ze] at p
  simp only at p
  by_cases hlen : es.length = zs.length
  case neg => rw [if_neg hlen] at p; exact p.elim
  rw [if_pos hlen] at p
  cases zr : rowsR iM iR body 0 zs Γ with
  | bad => rw [zr] at p; exact p.elim
  | err c => rw [zr] at p; exact p.elim
  | ok pr =>
  rw [zr] at p
  have p : ∀ σ' F' H', FLe F F' → EnvOk G M F' H' σ' (pr.2.set iT (.lst pr.1)) → C.nx σ' H' := p
  have es_int : ∀ (i : Nat) (d : D), es[i]? = some d → d = .int i := by
    intro i d e
    unfold iRng at ze
    cases q : fr Γ with
    | bad => rw [q] at ze; cases ze
    | err c => rw [q] at ze; cases ze
    | ok l =>
      rw [q] at ze
      have ze : R.of (rng1D l) = .ok es := ze
      unfold rng1D at ze
      split at ze
      · split at ze
        · cases ze
          rw [List.getElem?_map] at e
          cases q2 : (List.range _)[i]? with
          | none => rw [q2] at e; cases e
          | some k =>
            rw [q2] at e
            have := List.getElem?_eq_some_iff.mp q2
            obtain ⟨h1, h2⟩ := this
            rw [List.getElem_range] at h2
            subst h2
            exact (Option.some.inj e).symm
        · cases ze
      · cases ze
  unfold tSeq tAsg
  refine lc_own his E z hd zl fun a bs F1 H1 t1 ha0 xa1 xa2 hDa nab rows => ?_
  have sz1 : iL < Γ.length := by rw [E.lenG]; exact lt mL
  have E1 : EnvOk G M F1 H1 (σ.set iL (some (.ref a))) Γ := by
    have := (E.on t1).putU (i := iL) (o := some (.ref a)) (d := Γ[iL]) mL
    rwa [set_same (List.getElem?_eq_getElem sz1)] at this
  have hG0 : ∀ b ∈ bs, G.H0 b = none := fun b hb => there_none E.step (rows.alloc hb).1
  -- the loop
  refine ⟨F1, Γ, E1, ?_⟩
  rw [ze]
  intro J F2 H2 t2 S
  refine ⟨fun i n σ' H' => n = es.length - i ∧ i ≤ es.length ∧ ∃ F3 Γ3 done zs', EnvOk G M F3 H' σ' Γ3 ∧ FLe F2 F3 ∧ σ'.getD iL none = some (.ref a) ∧ F3.ex a = none ∧ F3.iv a = none ∧ H' a = some (.lst (bs.map .ref)) ∧ Rows G.K F3 H H' (done ++ zs') bs ∧ done.length = i ∧ ∃ r, rowsR iM iR body i zs' Γ3 = .ok r ∧ pr.1 = done ++ r.1 ∧ pr.2 = r.2,
    ⟨es.length, by omega, Nat.zero_le _, F2, Γ, [], zs, E1.on t2, .refl F2, by rw [getD_self (lt mL)], ?_, ?_, t2.keep a _ hDa xa2 fun z => z, rows.step t1.sub t2, rfl, pr, zr, rfl, rfl⟩, fun i n σ3 H3 hw => ?_⟩
  · exact (t2.ex a (by rw [hDa]; exact Option.some_ne_none _)).trans xa1
  · exact (t2.iv a (by rw [hDa]; exact Option.some_ne_none _)).trans xa2
  obtain ⟨rfl, hii, F3, Γ3, done, zs', E3, l3, sL, x1, x2, hD3, rw3, hdl, r, zrr, e1, e2⟩ := hw
  have blen : bs.length = done.length + zs'.length := by rw [rw3.len, List.length_append]
  have slen : σ3.length = σ.length := by rw [← E3.lenM, E.lenM]
  have lt3 : ∀ {i : Nat} {m : Md}, M[i]? = some m → i < σ3.length := fun h => by rw [slen]; exact lt h
  by_cases hlt : i < es.length
  · have e0 : es[i]? = some es[i] := List.getElem?_eq_getElem hlt
    obtain ⟨go, yld⟩ := S.go i es[i] F3 H3 l3 E3.sub e0
    cases zs' with
    | nil =>
      exfalso
      have h1 := rows.len
      simp at blen
      omega
    | cons zz zt =>
    refine .inr ⟨go, fun σ' H' => ∃ F3 Γ3 done zs', EnvOk G M F3 H' σ' Γ3 ∧ FLe F2 F3 ∧ σ'.getD iL none = some (.ref a) ∧ F3.ex a = none ∧ F3.iv a = none ∧ H' a = some (.lst (bs.map .ref)) ∧ Rows G.K F3 H H' (done ++ zs') bs ∧ done.length = i + 1 ∧ ∃ r, rowsR iM iR body (i + 1) zs' Γ3 = .ok r ∧ pr.1 = done ++ r.1 ∧ pr.2 = r.2, fun σ' H' hN => ⟨es.length - (i + 1), by omega, rfl, hlt, hN⟩, fun x H4 hy => ?_⟩
    obtain ⟨F4, t4, dx⟩ := yld x H4 hy
    have ei := es_int i es[i] e0
    rw [ei] at dx
    cases dx
    have na3 : H3 a ≠ none := by rw [hD3]; exact Option.some_ne_none _
    have y1 : F4.ex a = none := (t4.ex a na3).trans x1
    have y2 : F4.iv a = none := (t4.iv a na3).trans x2
    have hD4 : H4 a = some (.lst (bs.map .ref)) := t4.keep a _ hD3 x2 fun z => z
    have rw4 := rw3.step E3.sub t4
    have E4 := E3.on t4
    have hib : i < bs.length := by rw [blen, hdl]; simp
    have eb : bs[i]? = some bs[i] := List.getElem?_eq_getElem hib
    generalize hb : bs[i] = b at eb
    have ez : (done ++ zz :: zt)[i]? = some zz := by rw [List.getElem?_append_right (by omega), hdl, Nat.sub_self]; rfl
    obtain ⟨hb0, ob⟩ := rw4.own i b zz eb ez
    have hbm : b ∈ bs := List.mem_of_getElem? eb
    have nab2 : a ≠ b := fun z => nab (z ▸ hbm)
    -- the row's second name
    show ∃ v, (σ3.set iM (some (.int i)))[iL]? = some (some v) ∧ _
    refine ⟨.ref a, ?_, .int i, ?_, ?_⟩
    · rw [List.getElem?_set_ne (fun z => n2 z.symm)]; exact slot_get sL
    · rw [List.getElem?_set_self (lt3 mM)]
    refine ⟨a, bs.map .ref, i, .ref b, rfl, rfl, .inl (.inl hD4), ?_, ?_⟩
    · unfold atI
      rw [List.length_map]
      unfold ixN
      rw [if_pos (by omega), if_pos (by omega)]
      show (bs.map V.ref)[(i : Int).toNat]? = _
      rw [Int.toNat_natCast, List.getElem?_map, eb]; rfl
    -- the row is filled
    show ∃ G', (∃ F H a b, G' = G.row F H a b) ∧ rdS G' W (rowM M iM iR iL) (rowM M iM iR iL) Mx mr body _ ((σ3.set iM (some (.int i))).set iR (some (.ref b))) H4
    have E5 : EnvOk G M F4 H4 ((σ3.set iM (some (.int i))).set iR (some (.ref b))) ((Γ3.set iM (.int i)).set iR zz) := (E4.putU mM).putU mR
    have g3 : Γ3.length = σ3.length := E3.lenG
    have mr5 : ((Γ3.set iM (D.int i)).set iR zz)[iR]? = some zz := List.getElem?_set_self (by rw [List.length_set, g3]; exact lt3 mR)
    have EI : EnvOk (G.row F4 H4 a b) (rowM M iM iR iL) F4 H4 ((σ3.set iM (some (.int i))).set iR (some (.ref b))) ((Γ3.set iM (.int i)).set iR zz) :=
      EnvOk.rowIn su E5 (List.getElem?_eq_some_iff.mp mM).1 (List.getElem?_eq_some_iff.mp mR).1 n1 n2 n3
        ⟨.int i, by rw [getD_ne (fun z => n1 z.symm), getD_self (lt3 mM)], .int i, by rw [List.getElem?_set_ne (fun z => n1 z.symm), List.getElem?_set_self (by rw [g3]; exact lt3 mM)], .int i⟩
        (getD_self (by rw [List.length_set]; exact lt3 mR)) (by rw [getD_ne (fun z => n3 z.symm), getD_ne (fun z => n2 z.symm)]; exact sL) mr5 ob
    refine ⟨G.row F4 H4 a b, ⟨F4, H4, a, b, rfl⟩, F4, _, EI, ?_⟩
    unfold rowsR at zrr
    cases zi : body ((Γ3.set iM (D.int i)).set iR zz) with
    | bad => rw [zi] at zrr; cases zrr
    | err c => rw [zi] at zrr; cases zrr
    | ok fl =>
    cases fl with
    | rt d => rw [zi] at zrr; cases zrr
    | bk d => rw [zi] at zrr; cases zrr
    | ct d => rw [zi] at zrr; cases zrr
    | nx Γ6 =>
    rw [zi] at zrr
    simp only at zrr
    cases zq : Γ6[iR]? with
    | none => rw [zq] at zrr; cases zrr
    | some rr =>
    rw [zq] at zrr
    simp only at zrr
    cases zn : rowsR iM iR body (i + 1) zt Γ6 with
    | bad => rw [zn] at zrr; cases zrr
    | err c => rw [zn] at zrr; cases zrr
    | ok r2 =>
    rw [zn] at zrr
    have zrr := R.ok.inj zrr
    intro σ6 F6 H6 l6 E6
    obtain ⟨E7, sL7, zz7, ez7, o7⟩ := E5.rowOut su E6 mM mR mL n1 n2 n3 (hG0 b hbm)
    rw [zq] at ez7
    cases ez7
    have na4 : H4 a ≠ none := by rw [hD4]; exact Option.some_ne_none _
    refine ⟨F6, Γ6, done ++ [rr], zt, E7, l3.trans ((t4.le E3.sub).trans l6), sL7, (E6.step.ex a na4).trans y1, (E6.step.iv a na4).trans y2, E6.step.keep a _ hD4 y2 nab2, ⟨rw4.nd, ?_, fun j c q f1 f2 => ?_⟩, by simp [hdl], r2, zn, ?_, ?_⟩
    · rw [rw4.len]; simp
    · by_cases hj : j = i
      · subst hj
        rw [eb] at f1
        cases f1
        rw [List.append_assoc, List.getElem?_append_right (by omega), hdl, Nat.sub_self] at f2
        simp at f2
        subst f2
        exact ⟨hb0, o7⟩
      · have f2' : (done ++ zz :: zt)[j]? = some q := by
          rw [List.append_assoc] at f2
          by_cases hj2 : j < done.length
          · rw [List.getElem?_append_left hj2] at f2 ⊢; exact f2
          · rw [List.getElem?_append_right (by omega)] at f2 ⊢
            obtain ⟨k, hk⟩ : ∃ k, j - done.length = k + 1 := ⟨j - done.length - 1, by omega⟩
            rw [hk] at f2 ⊢
            simpa using f2
        obtain ⟨g0, g1⟩ := rw4.own j c q f1 f2'
        refine ⟨g0, g1.step E4.sub E6.step fun z => ?_⟩
        have z : c = b := z
        subst z
        have h1 := (List.getElem?_eq_some_iff.mp f1).1
        have h2 := (List.getElem?_eq_some_iff.mp f1).2
        have h3 := (List.getElem?_eq_some_iff.mp eb).2
        exact hj ((List.getElem_inj (h₀ := h1) (h₁ := hib) rw4.nd).1 (h2.trans h3.symm))
    · rw [e1, ← zrr]; simp
    · rw [e2, ← zrr]
  · -- the end
    refine .inl ⟨S.stop i F3 H3 l3 E3.sub (by omega), ?_⟩
    have hz : zs' = [] := by
      have h1 := rows.len
      cases zs' with
      | nil => rfl
      | cons _ _ => simp at blen; omega
    subst hz
    unfold rowsR at zrr
    cases zrr
    rw [List.append_nil] at rw3
    simp only [List.append_nil] at e1
    show ∃ v, σ3[iL]? = some (some v) ∧ _
    refine ⟨.ref a, slot_get sL, ?_⟩
    show C.nx (σ3.set iT (some (.ref a))) H3
    have hT : ∀ c, (c = a ∨ c ∈ bs) → F3.ex c = none := fun c hc => hc.elim (fun z => by rw [z]; exact x1) fun z => (rw3.alloc z).2.2.1
    have hT0 : ∀ c, (c = a ∨ c ∈ bs) → G.H0 c = none := fun c hc => hc.elim (fun z => by rw [z]; exact there_none E.step ha0) fun z => hG0 c z
    have E8 : EnvOk G M (F3.more H3 (fun c => c = a ∨ c ∈ bs) hT) H3 σ3 Γ3 := EnvOk.su su E3 (E3.step.more hT0) le_more.ex
    have dn : Den G.K (F3.more H3 (fun c => c = a ∨ c ∈ bs) hT).ex (.lst done) (.ref a) := by
      refine .lst (vs := bs.map .ref) (by rw [more_in (.inl rfl)]; exact hD3) (denL_of (by rw [List.length_map, rw3.len]) fun j r v f1 f2 => ?_)
      rw [List.getElem?_map] at f2
      cases q : bs[j]? with
      | none => rw [q] at f2; cases f2
      | some c =>
        rw [q] at f2
        cases f2
        obtain ⟨_, _, _, vs, ds, rfl, h3, h4⟩ := rw3.own j c r q f1
        exact .lst (by rw [more_in (.inr (List.mem_of_getElem? q))]; exact h3) (h4.ext le_more.ex)
    have E9 := E8.set (.refl E8.sub) (m := .s) (i := iT) (v := .ref a) (d := .lst done) dn (.inl rfl)
    rw [set_same mT] at E9
    rw [e1, e2] at p
    exact p _ _ _ (((t1.le E.sub).trans ((t2.le t1.sub).trans l3)).trans le_more) E9
end
end L2.DL
set_option Elab.async false
set_option linter.all false
set_option maxRecDepth 100000
set_option autoImplicit false
/-! DT: reading mirrors forward: weakest preconditions for the combinators, typed lists. -/
namespace L2.DL
open PySem PySem.Spec PyProof.Rows

def wR {α : Type} (r : R α) (Q : α → Prop) : Prop := ∃ a, r = .ok a ∧ Q a
def wO {α : Type} (o : Option α) (Q : α → Prop) : Prop := ∃ a, o = some a ∧ Q a
theorem wR_ok {α : Type} {a : α} {Q : α → Prop} : wR (.ok a) Q ↔ Q a := ⟨fun ⟨_, e, q⟩ => by cases e; exact q, fun q => ⟨_, rfl, q⟩⟩
theorem wO_some {α : Type} {a : α} {Q : α → Prop} : wO (some a) Q ↔ Q a := ⟨fun ⟨_, e, q⟩ => by cases e; exact q, fun q => ⟨_, rfl, q⟩⟩
theorem wO_map {α β : Type} {o : Option α} {f : α → β} {Q : β → Prop} : wO (o.map f) Q ↔ wO o fun a => Q (f a) := by
  cases o with
  | none => exact ⟨fun ⟨_, e, _⟩ => (by cases e), fun ⟨_, e, _⟩ => (by cases e)⟩
  | some a => exact ⟨fun ⟨_, e, q⟩ => (by cases e; exact wO_some.2 q), fun ⟨_, e, q⟩ => (by cases e; exact wO_some.2 q)⟩
theorem wO_bind {α β : Type} {o : Option α} {f : α → Option β} {Q : β → Prop} : wO (o.bind f) Q ↔ wO o fun a => wO (f a) Q := by
  cases o with
  | none => exact ⟨fun ⟨_, e, _⟩ => (by cases e), fun ⟨_, e, _⟩ => (by cases e)⟩
  | some a => exact ⟨fun q => ⟨a, rfl, q⟩, fun ⟨_, e, q⟩ => (by cases e; exact q)⟩
theorem wO_if {α : Type} {c : Prop} [Decidable c] {a : α} {Q : α → Prop} : wO (if c then some a else none) Q ↔ c ∧ Q a := by
  by_cases h : c
  · rw [if_pos h, wO_some]; exact ⟨fun q => ⟨h, q⟩, fun q => q.2⟩
  · rw [if_neg h]; exact ⟨fun ⟨_, e, _⟩ => (by cases e), fun q => absurd q.1 h⟩
theorem wR_bind {α β : Type} {r : R α} {f : α → R β} {Q : β → Prop} : wR (r.bind f) Q ↔ wR r fun a => wR (f a) Q := by
  cases r with
  | ok a => exact ⟨fun q => ⟨a, rfl, q⟩, fun ⟨_, e, q⟩ => (by cases e; exact q)⟩
  | err c => exact ⟨fun ⟨_, e, _⟩ => (by cases e), fun ⟨_, e, _⟩ => (by cases e)⟩
  | bad => exact ⟨fun ⟨_, e, _⟩ => (by cases e), fun ⟨_, e, _⟩ => (by cases e)⟩
theorem wR_of {α : Type} {o : Option α} {Q : α → Prop} : wR (R.of o) Q ↔ wO o Q := by
  cases o with
  | none => exact ⟨fun ⟨_, e, _⟩ => (by cases e), fun ⟨_, e, _⟩ => (by cases e)⟩
  | some a => exact wR_ok.trans wO_some.symm
theorem wR_if {α : Type} {c : Prop} [Decidable c] {r : R α} {Q : α → Prop} : wR (if c then r else .bad) Q ↔ c ∧ wR r Q := by
  by_cases h : c
  · rw [if_pos h]; exact ⟨fun q => ⟨h, q⟩, fun q => q.2⟩
  · rw [if_neg h]; exact ⟨fun ⟨_, e, _⟩ => (by cases e), fun q => absurd q.1 h⟩
theorem wR_ite {α : Type} {c : Prop} [Decidable c] {r s : R α} {Q : α → Prop} : wR (if c then r else s) Q ↔ if c then wR r Q else wR s Q := by
  by_cases h : c
  · rw [if_pos h, if_pos h]
  · rw [if_neg h, if_neg h]
theorem wR_mono {α : Type} {r : R α} {Q Q' : α → Prop} (h : wR r Q) (i : ∀ a, Q a → Q' a) : wR r Q' := by
  obtain ⟨a, e, q⟩ := h
  exact ⟨a, e, i a q⟩
theorem wR_eq {α : Type} {r : R α} {a : α} (h : wR r fun b => b = a) : r = .ok a := by
  obtain ⟨b, e, rfl⟩ := h
  exact e
theorem wR_cg {α β : Type} {r : R α} {f : α → R β} {Q : β → Prop} {q : α → Prop} (h : ∀ a, wR (f a) Q ↔ q a) : wR (r.bind f) Q ↔ wR r q := wR_bind.trans ⟨fun ⟨x, e, z⟩ => ⟨x, e, (h x).1 z⟩, fun ⟨x, e, z⟩ => ⟨x, e, (h x).2 z⟩⟩
theorem wR_ok' {α : Type} {a : α} {p : Prop} {Q : α → Prop} (h : Q a ↔ p) : wR (.ok a) Q ↔ p := wR_ok.trans h
theorem wR_bad {α : Type} {Q : α → Prop} : wR (.bad : R α) Q ↔ False := ⟨fun ⟨_, e, _⟩ => (by cases e), False.elim⟩
theorem wO_none {α : Type} {Q : α → Prop} : wO (none : Option α) Q ↔ False := ⟨fun ⟨_, e, _⟩ => (by cases e), False.elim⟩
def wE (f : EF) (Γ : List D) (Q : D → Prop) : Prop := wR (f Γ) Q
def wB (f : BF) (Γ : List D) (Q : Bool → Prop) : Prop := wR (f Γ) Q
def wA (f : AF) (Γ : List D) (Q : List D → Prop) : Prop := wR (f Γ) Q
def wS (g : SF) (Γ : List D) (Q : Fl → Prop) : Prop := wR (g Γ) Q
section
variable {Γ : List D} {Q : D → Prop} {QB : Bool → Prop} {QA : List D → Prop} {QS : Fl → Prop} {f fa fb fc fi fv : EF} {t t2 : BF} {fr : AF} {g1 g2 body : SF} {i j n k : Nat} {d : D} {h : TF} {hs : TFs}
theorem wE_var : wE (eVar i) Γ Q ↔ wO (Γ[i]?) Q := by
  unfold wE eVar
  cases Γ[i]? with
  | none => exact ⟨fun ⟨_, e, _⟩ => (by cases e), fun ⟨_, e, _⟩ => (by cases e)⟩
  | some a => exact wR_ok.trans wO_some.symm
theorem wE_c : wE (eC d) Γ Q ↔ Q d := wR_ok
theorem wE_bin {g : D → D → Option D} : wE (eBin g fa fb) Γ Q ↔ wE fa Γ fun x => wE fb Γ fun y => wO (g x y) Q := by simp only [wE, eBin, wR_bind, wR_of]
theorem wE_un {g : D → Option D} : wE (eUn g fa) Γ Q ↔ wE fa Γ fun x => wO (g x) Q := by simp only [wE, eUn, wR_bind, wR_of]
theorem wA_nil : wA aNil Γ QA ↔ QA [] := wR_ok
theorem wA_cons : wA (aCons f fr) Γ QA ↔ wE f Γ fun x => wA fr Γ fun xs => QA (x :: xs) := by simp only [wE, wA, aCons, wR_bind, wR_ok]
theorem wE_app {g : List D → Option D} : wE (eApp g fr) Γ Q ↔ wA fr Γ fun xs => wO (g xs) Q := by simp only [wE, wA, eApp, wR_bind, wR_of]
theorem wE_call {mf : List D → R D} : wE (eCall mf fr) Γ Q ↔ wA fr Γ fun xs => wR (mf xs) Q := by simp only [wE, wA, eCall, wR_bind]
theorem wE_tup : wE (eTup fr) Γ Q ↔ wA fr Γ fun xs => xs.length ≤ 1000 ∧ Q (.tup xs) := by simp only [wE, wA, eTup, wR_bind, wR_if, wR_ok]
theorem wE_lst : wE (eLst fr) Γ Q ↔ wA fr Γ fun xs => xs.length ≤ 1000 ∧ Q (.lst xs) := by simp only [wE, wA, eLst, wR_bind, wR_if, wR_ok]
theorem wE_if : wE (eIf t fa fb) Γ Q ↔ wB t Γ fun b => if b = true then wE fa Γ Q else wE fb Γ Q := by simp only [wE, wB, eIf, wR_bind, wR_ite]
theorem wE_isi {T : String} : wE (eIsi T f) Γ Q ↔ wE f Γ fun d => wO (isiD T d) Q := by simp only [wE, eIsi, wR_bind, wR_of]
theorem wE_sl {kk : D → Option Int → Option Int → Option D} {fl fh : List D → R (Option Int)} : wE (eSl kk f fl fh) Γ Q ↔ wE f Γ fun d => wR (fl Γ) fun lo => wR (fh Γ) fun hi => wO (kk d lo hi) Q := by simp only [wE, eSl, wR_bind, wR_of]
theorem wR_oNo {QO : Option Int → Prop} : wR (oNo Γ) QO ↔ QO none := wR_ok
theorem wR_oAt {QO : Option Int → Prop} : wR (oAt f Γ) QO ↔ wE f Γ fun d => ∃ i, d = .int i ∧ QO (some i) := by
  refine wR_cg ?_
  have e : ∀ d : D, wR (match d with
    | .int i => R.ok (some i)
    | _ => .bad) QO ↔ ∃ i, d = .int i ∧ QO (some i) := by
    intro d
    cases d <;> first | exact wR_ok.trans ⟨fun q => ⟨_, rfl, q⟩, fun ⟨_, e, q⟩ => by cases e; exact q⟩ | exact ⟨fun ⟨_, e, _⟩ => (by cases e), fun ⟨_, e, _⟩ => (by cases e)⟩
  exact e
theorem ex_int {QI : Int → Prop} {a : Int} : (∃ i, D.int a = .int i ∧ QI i) ↔ QI a := ⟨fun ⟨_, e, q⟩ => by cases e; exact q, fun q => ⟨_, rfl, q⟩⟩
theorem ex_bl {QI : Bool → Prop} {a : Bool} : (∃ i, D.bl a = .bl i ∧ QI i) ↔ QI a := ⟨fun ⟨_, e, q⟩ => by cases e; exact q, fun q => ⟨_, rfl, q⟩⟩
theorem ex_lst {QI : List D → Prop} {a : List D} : (∃ i, D.lst a = .lst i ∧ QI i) ↔ QI a := ⟨fun ⟨_, e, q⟩ => by cases e; exact q, fun q => ⟨_, rfl, q⟩⟩
theorem wB_val : wB (bVal f) Γ QB ↔ wE f Γ fun d => ∃ b, d = .bl b ∧ QB b := by
  refine wR_cg ?_
  have e : ∀ d : D, wR (match d with
    | .bl b => R.ok b
    | _ => .bad) QB ↔ ∃ b, d = .bl b ∧ QB b := by
    intro d
    cases d <;> first | exact wR_ok.trans ⟨fun q => ⟨_, rfl, q⟩, fun ⟨_, e, q⟩ => by cases e; exact q⟩ | exact ⟨fun ⟨_, e, _⟩ => (by cases e), fun ⟨_, e, _⟩ => (by cases e)⟩
  exact e
theorem wB_tru : wB (bTru f) Γ QB ↔ wE f Γ fun d => wO (truD d) QB := by simp only [wE, wB, bTru, wR_bind, wR_of]
theorem wB_not : wB (bNot t) Γ QB ↔ wB t Γ fun b => QB (!b) := by simp only [wB, bNot, wR_bind, wR_ok]
theorem wB_and : wB (bAnd t t2) Γ QB ↔ wB t Γ fun b => if b = true then wB t2 Γ QB else QB false := by simp only [wB, bAnd, wR_bind, wR_ite, wR_ok]
theorem wB_or : wB (bOr t t2) Γ QB ↔ wB t Γ fun b => if b = true then QB true else wB t2 Γ QB := by simp only [wB, bOr, wR_bind, wR_ite, wR_ok]
theorem wB_yes : wB bYes Γ QB ↔ QB true := wR_ok
theorem wE_and : wE (eAnd fa fb) Γ Q ↔ wE fa Γ fun d => ∃ b, d = .bl b ∧ if b = true then wE fb Γ Q else Q (.bl false) := by
  refine wR_cg ?_
  have e : ∀ d : D, wR (match d with
    | .bl true => fb Γ
    | .bl false => .ok (.bl false)
    | _ => .bad) Q ↔ ∃ b, d = .bl b ∧ if b = true then wR (fb Γ) Q else Q (.bl false) := by
    intro d
    cases d with
    | bl b => cases b <;> (rw [ex_bl]; first | exact wR_ok | exact Iff.rfl)
    | _ => exact ⟨fun ⟨_, e, _⟩ => (by cases e), fun ⟨_, e, _⟩ => (by cases e)⟩
  exact e
theorem wE_or : wE (eOr fa fb) Γ Q ↔ wE fa Γ fun d => ∃ b, d = .bl b ∧ if b = true then Q (.bl true) else wE fb Γ Q := by
  refine wR_cg ?_
  have e : ∀ d : D, wR (match d with
    | .bl true => .ok (.bl true)
    | .bl false => fb Γ
    | _ => .bad) Q ↔ ∃ b, d = .bl b ∧ if b = true then Q (.bl true) else wR (fb Γ) Q := by
    intro d
    cases d with
    | bl b => cases b <;> (rw [ex_bl]; first | exact wR_ok | exact Iff.rfl)
    | _ => exact ⟨fun ⟨_, e, _⟩ => (by cases e), fun ⟨_, e, _⟩ => (by cases e)⟩
  exact e
theorem wE_not : wE (eNot fa) Γ Q ↔ wE fa Γ fun d => ∃ b, d = .bl b ∧ Q (.bl (!b)) := by
  refine wR_cg ?_
  have e : ∀ d : D, wR (match d with
    | .bl b => .ok (.bl (!b))
    | _ => .bad) Q ↔ ∃ b, d = .bl b ∧ Q (.bl (!b)) := by
    intro d
    cases d <;> first | exact wR_ok.trans ⟨fun q => ⟨_, rfl, q⟩, fun ⟨_, e, q⟩ => by cases e; exact q⟩ | exact ⟨fun ⟨_, e, _⟩ => (by cases e), fun ⟨_, e, _⟩ => (by cases e)⟩
  exact e
/-! statements -/
def nxQ (g : SF) (Q : Fl → Prop) : Fl → Prop
  | .nx Γ => wS g Γ Q
  | fl => Q fl
theorem nxQ_nx {Γ : List D} : nxQ body QS (.nx Γ) ↔ wS body Γ QS := Iff.rfl
theorem nxQ_rt : nxQ body QS (.rt d) ↔ QS (.rt d) := Iff.rfl
theorem nxQ_ct {Γ : List D} : nxQ body QS (.ct Γ) ↔ QS (.ct Γ) := Iff.rfl
theorem nxQ_bk {Γ : List D} : nxQ body QS (.bk Γ) ↔ QS (.bk Γ) := Iff.rfl
theorem wS_nil : wS sNil Γ QS ↔ QS (.nx Γ) := wR_ok
theorem wS_seq : wS (sSeq g1 g2) Γ QS ↔ wS g1 Γ (nxQ g2 QS) := by
  refine wR_cg ?_
  intro fl
  cases fl <;> first | exact Iff.rfl | exact wR_ok
theorem wS_bk : wS sBk Γ QS ↔ QS (.bk Γ) := wR_ok
theorem wS_ct : wS sCt Γ QS ↔ QS (.ct Γ) := wR_ok
theorem wS_exp : wS (sExp f) Γ QS ↔ wE f Γ fun _ => QS (.nx Γ) := by simp only [wS, wE, sExp, wR_bind, wR_ok]
theorem wS_asg : wS (sAsg i f) Γ QS ↔ wE f Γ fun d => QS (.nx (Γ.set i d)) := by simp only [wS, wE, sAsg, wR_bind, wR_ok]
theorem wS_ret : wS (sRet f) Γ QS ↔ wE f Γ fun d => QS (.rt d) := by simp only [wS, wE, sRet, wR_bind, wR_ok]
theorem wS_if : wS (sIf t g1 g2) Γ QS ↔ wB t Γ fun b => if b = true then wS g1 Γ QS else wS g2 Γ QS := by simp only [wS, wB, sIf, wR_bind, wR_ite]
theorem wS_aug {g : D → D → Option D} : wS (sAug i g f) Γ QS ↔ wE (eVar i) Γ fun x => wE f Γ fun y => wO (g x y) fun z => QS (.nx (Γ.set i z)) := by simp only [wS, wE, sAug, wR_bind, wR_of, wR_ok]
theorem wS_asgG : wS (sAsgG h f) Γ QS ↔ wE f Γ fun d => wO (h d Γ) fun Γ' => QS (.nx Γ') := by simp only [wS, wE, sAsgG, wR_bind, wR_of, wR_ok]
theorem wS_par : wS (sPar i j fr) Γ QS ↔ wA fr Γ fun ds => ∃ x y, ds = [x, y] ∧ QS (.nx ((Γ.set i x).set j y)) := by
  refine wR_cg ?_
  have e : ∀ ds : List D, wR (match ds with
    | [a, b] => R.ok (.nx ((Γ.set i a).set j b))
    | _ => .bad) QS ↔ ∃ x y, ds = [x, y] ∧ QS (.nx ((Γ.set i x).set j y)) := by
    intro ds
    match ds with
    | [a, b] => exact wR_ok.trans ⟨fun q => ⟨_, _, rfl, q⟩, fun ⟨_, _, e, q⟩ => by cases e; exact q⟩
    | [] => exact ⟨fun ⟨_, e, _⟩ => (by cases e), fun ⟨_, _, e, _⟩ => (by cases e)⟩
    | [_] => exact ⟨fun ⟨_, e, _⟩ => (by cases e), fun ⟨_, _, e, _⟩ => (by cases e)⟩
    | _ :: _ :: _ :: _ => exact ⟨fun ⟨_, e, _⟩ => (by cases e), fun ⟨_, _, e, _⟩ => (by cases e)⟩
  exact e
theorem ex_par {QI : D → D → Prop} {a b : D} : (∃ x y, [a, b] = [x, y] ∧ QI x y) ↔ QI a b := ⟨fun ⟨_, _, e, q⟩ => by cases e; exact q, fun q => ⟨_, _, rfl, q⟩⟩
theorem wS_app : wS (sApp i fv) Γ QS ↔ wE (eVar i) Γ fun l => wE fv Γ fun v => ∃ ds, l = .lst ds ∧ ds.length < 1000000 ∧ QS (.nx (Γ.set i (.lst (ds ++ [v])))) := by
  refine wR_cg fun l => wR_cg fun v => ?_
  revert l v
  have e : ∀ l v : D, wR (match l with
    | .lst ds => if ds.length < 1000000 then R.ok (.nx (Γ.set i (.lst (ds ++ [v])))) else .bad
    | _ => .bad) QS ↔ ∃ ds, l = .lst ds ∧ ds.length < 1000000 ∧ QS (.nx (Γ.set i (.lst (ds ++ [v])))) := by
    intro l v
    cases l with
    | lst ds => rw [ex_lst]; exact wR_if.trans (and_congr_right fun _ => wR_ok)
    | _ => exact ⟨fun ⟨_, e, _⟩ => (by cases e), fun ⟨_, e, _⟩ => (by cases e)⟩
  exact e
theorem wS_setix : wS (sSetIx i fi fv) Γ QS ↔ wE fv Γ fun v => wE (eVar i) Γ fun l => wE fi Γ fun k => ∃ ds, l = .lst ds ∧ ∃ z, k = .int z ∧ wO (ixN ds.length z) fun j => QS (.nx (Γ.set i (.lst (ds.set j v)))) := by
  refine wR_cg fun v => wR_cg fun l => wR_cg fun k => ?_
  revert v l k
  have e : ∀ v l k : D, wR (match l, k with
    | .lst ds, .int k => match ixN ds.length k with
      | some j => R.ok (.nx (Γ.set i (.lst (ds.set j v))))
      | none => .bad
    | _, _ => .bad) QS ↔ ∃ ds, l = .lst ds ∧ ∃ z, k = .int z ∧ wO (ixN ds.length z) fun j => QS (.nx (Γ.set i (.lst (ds.set j v)))) := by
    intro v l k
    cases l with
    | lst ds =>
      rw [ex_lst]
      cases k with
      | int z =>
        rw [ex_int]
        cases hz : ixN ds.length z with
        | none => exact ⟨fun ⟨_, e, _⟩ => (by simp only [hz] at e; cases e), fun ⟨_, e, _⟩ => (by cases e)⟩
        | some j => simp only [hz]; exact wR_ok.trans (wO_some (Q := fun j => QS (.nx (Γ.set i (.lst (ds.set j v)))))).symm
      | _ => exact ⟨fun ⟨_, e, _⟩ => (by cases e), fun ⟨_, e, _⟩ => (by cases e)⟩
    | _ => exact ⟨fun ⟨_, e, _⟩ => (by cases e), fun ⟨_, e, _⟩ => (by cases e)⟩
  exact e
theorem wS_augix {gg : D → D → Option D} : wS (sAugIx i fi gg f) Γ QS ↔ wE (eVar i) Γ fun l => wE fi Γ fun k => ∃ ds, l = .lst ds ∧ ∃ z, k = .int z ∧ wO (atI ds z) fun x => wE f Γ fun y => wO (gg x y) fun v => wO (ixN ds.length z) fun j => QS (.nx (Γ.set i (.lst (ds.set j v)))) := by
  refine wR_cg fun l => wR_cg fun k => ?_
  revert l k
  have e : ∀ l k : D, wR (match l, k with
    | .lst ds, .int k => match atI ds k with
      | some x => (f Γ).bind fun y => (R.of (gg x y)).bind fun z => match ixN ds.length k with
        | some j => R.ok (.nx (Γ.set i (.lst (ds.set j z))))
        | none => .bad
      | none => .bad
    | _, _ => .bad) QS ↔ ∃ ds, l = .lst ds ∧ ∃ z, k = .int z ∧ wO (atI ds z) fun x => wR (f Γ) fun y => wO (gg x y) fun v => wO (ixN ds.length z) fun j => QS (.nx (Γ.set i (.lst (ds.set j v)))) := by
    intro l k
    cases l with
    | lst ds =>
      rw [ex_lst]
      cases k with
      | int z =>
        rw [ex_int]
        cases hx : atI ds z with
        | none => exact ⟨fun ⟨_, e, _⟩ => (by simp only [hx] at e; cases e), fun ⟨_, e, _⟩ => (by cases e)⟩
        | some x =>
          simp only [hx, wR_bind, wR_of, wO_some]
          cases hz : ixN ds.length z with
          | none =>
            simp only [hz]
            have e0 : ∀ Q : Nat → Prop, wO (none : Option Nat) Q ↔ False := fun Q => ⟨fun ⟨_, e, _⟩ => (by cases e), False.elim⟩
            have e1 : ∀ Q : Fl → Prop, wR (R.bad : R Fl) Q ↔ False := fun Q => ⟨fun ⟨_, e, _⟩ => (by cases e), False.elim⟩
            simp only [e0, e1]
          | some j => simp only [hz, wR_ok, wO_some]
      | _ => exact ⟨fun ⟨_, e, _⟩ => (by cases e), fun ⟨_, e, _⟩ => (by cases e)⟩
    | _ => exact ⟨fun ⟨_, e, _⟩ => (by cases e), fun ⟨_, e, _⟩ => (by cases e)⟩
  exact e
/-! defs -/
theorem m_ok {ds : List D} (hl : ds.length = n) (h : wS body (ds ++ List.replicate k .non) fun fl => fl = .rt d) : mOf n k body ds = .ok d := by
  obtain ⟨fl, e, rfl⟩ := h
  unfold mOf
  rw [if_pos hl, e]
theorem m_okN {ds : List D} (hl : ds.length = n) (h : wS body (ds ++ List.replicate k .non) fun fl => ∃ Γ, fl = .nx Γ) : mOf n k body ds = .ok .non := by
  obtain ⟨fl, e, Γ, rfl⟩ := h
  unfold mOf
  rw [if_pos hl, e]
/-! loops -/
def wF (h : TF) (body : SF) (ds : List D) (Γ : List D) (Q : Fl → Prop) : Prop := wR (forL h body ds Γ) Q
theorem wS_for {src : AF} : wS (sFor src h body) Γ QS ↔ wA src Γ fun ds => wF h body ds Γ QS := by simp only [wS, wA, wF, sFor, wR_bind]
theorem wF_nil : wF h body [] Γ QS ↔ QS (.nx Γ) := wR_ok
def lpQ (I : List D → Prop) : Fl → Prop
  | .nx Γ => I Γ
  | .ct Γ => I Γ
  | _ => False
theorem lpQ_nx {I : List D → Prop} : lpQ I (.nx Γ) ↔ I Γ := Iff.rfl
theorem lpQ_ct {I : List D → Prop} : lpQ I (.ct Γ) ↔ I Γ := Iff.rfl
theorem wF_ind (I : Nat → List D → Prop) {ds : List D} (h0 : I 0 Γ) (hs : ∀ i d Γ, ds[i]? = some d → I i Γ → wO (h d Γ) fun Γ1 => wS body Γ1 (lpQ (I (i + 1)))) (hq : ∀ Γ', I ds.length Γ' → QS (.nx Γ')) : wF h body ds Γ QS := by
  induction ds generalizing Γ I with
  | nil => exact wF_nil.2 (hq _ h0)
  | cons d ds ih =>
    obtain ⟨Γ1, e1, fl, e2, q⟩ := hs 0 d Γ rfl h0
    have k : ∀ Γ2, I 1 Γ2 → wF h body ds Γ2 QS := fun Γ2 i2 => ih (fun i => I (i + 1)) i2 (fun i d' Γ' e => hs (i + 1) d' Γ' e) hq
    unfold wF forL
    rw [e1]
    simp only [R.of_some, R.bind_ok, e2]
    cases fl with
    | nx Γ2 => exact k Γ2 q
    | ct Γ2 => exact k Γ2 q
    | bk Γ2 => exact q.elim
    | rt d => exact q.elim
theorem wF_rng {g : Nat → D} {m : Nat} (I : Nat → List D → Prop) (h0 : I 0 Γ) (hs : ∀ i Γ, i < m → I i Γ → wO (h (g i) Γ) fun Γ1 => wS body Γ1 (lpQ (I (i + 1)))) (hq : ∀ Γ', I m Γ' → QS (.nx Γ')) : wF h body ((List.range m).map g) Γ QS := by
  refine wF_ind I h0 (fun i d Γ e => ?_) (fun Γ' => by simpa using hq Γ')
  rw [List.getElem?_map] at e
  by_cases hi : i < m
  · rw [List.getElem?_range hi] at e
    cases e
    exact hs i Γ hi
  · rw [List.getElem?_eq_none (by simpa using hi)] at e
    cases e
theorem wE_lc {src : AF} : wE (eLc src h t f) Γ Q ↔ wA src Γ fun ds => ds.length ≤ 1000000 ∧ wR (lcL (lcBody h t f Γ) ds) fun r => Q (.lst r) := by
  refine wR_cg fun ds => wR_if.trans (and_congr_right fun _ => ?_)
  generalize lcL (lcBody h t f Γ) ds = r
  revert r
  have e : ∀ r : R (List D), wR (match r with
    | .ok r => R.ok (.lst r)
    | _ => .bad) Q ↔ wR r fun r => Q (.lst r) := by
    intro r
    cases r with
    | ok r => exact wR_ok.trans (wR_ok (Q := fun r => Q (.lst r))).symm
    | _ => exact ⟨fun ⟨_, e, _⟩ => (by cases e), fun ⟨_, e, _⟩ => (by cases e)⟩
  exact e
theorem lc_map {val : D → D} : ∀ {ds : List D} {QL : List D → Prop} (hv : ∀ d ∈ ds, wO (h d Γ) fun Γ1 => wE f Γ1 fun e => e = val d) (q : QL (ds.map val)), wR (lcL (lcBody h bYes f Γ) ds) QL
  | [], _, _, q => wR_ok.2 q
  | d :: ds, QL, hv, q => by
    obtain ⟨Γ1, e1, e, e2, rfl⟩ := hv d (by simp)
    have := lc_map (QL := fun r => r = ds.map val) (fun x hx => hv x (by simp [hx])) rfl
    obtain ⟨r, e3, rfl⟩ := this
    have eb : lcBody h bYes f Γ d = .ok (some (val d)) := by
      unfold lcBody
      rw [e1]
      simp only [R.of_some, R.bind_ok, bYes, if_true]
      rw [e2]
      rfl
    unfold lcL
    rw [eb, e3]
    exact wR_ok.2 q
end
/-! ### typed lists -/
/-- the list of the g i, i below n -/
def tl (n : Nat) (g : Int → D) : List D := (List.range n).map fun (i : Nat) => g (i : Int)
theorem tl_len {n : Nat} {g : Int → D} : (tl n g).length = n := by simp [tl]
theorem tl_get {n : Nat} {g : Int → D} {i : Nat} (h : i < n) : (tl n g)[i]? = some (g (i : Int)) := by simp [tl, h]
theorem tl_ext {n : Nat} {l : List D} {g : Int → D} (h1 : l.length = n) (h2 : ∀ i : Nat, i < n → l[i]? = some (g (i : Int))) : l = tl n g := by
  apply List.ext_getElem?
  intro i
  by_cases hi : i < n
  · rw [h2 i hi, tl_get hi]
  · rw [List.getElem?_eq_none (by omega), List.getElem?_eq_none (by rw [tl_len]; omega)]
theorem tl_congr {n : Nat} {g g' : Int → D} (h : ∀ i : Int, 0 ≤ i → i < n → g i = g' i) : tl n g = tl n g' := tl_ext tl_len fun i hi => by rw [tl_get hi, h i (by omega) (by omega)]
theorem tl_map {n : Nat} {g : Int → D} {f : D → D} : (tl n g).map f = tl n fun i => f (g i) := by simp [tl, Function.comp_def]
theorem tl_zero {g : Int → D} : tl 0 g = [] := rfl
theorem ixN_nn {n : Nat} {k : Int} (h0 : 0 ≤ k) (h : k < n) : ixN n k = some k.toNat := by
  unfold ixN
  rw [if_pos h0, if_pos h]
theorem ixN_ng {n : Nat} {k : Int} (h0 : k < 0) (h : -(n : Int) ≤ k) : ixN n k = some (k + n).toNat := by
  unfold ixN
  rw [if_neg (by omega), if_pos h]
end L2.DL
set_option Elab.async false
set_option linter.all false
set_option maxRecDepth 100000
set_option autoImplicit false
/-! DU: the operators, forward. -/
namespace L2.DL
open PySem PySem.Spec PyProof.Rows
section
variable {Q : D → Prop} {QL : List D → Prop} {QB : Bool → Prop} {a b c : Int} {x y : List D} {p q : Bool} {d : D} {n : Nat} {g : Int → D} {s t : Str}
theorem o_add_ii : wO (addA (.int a) (.int b)) Q ↔ Q (.int (a + b)) := wO_some
theorem o_add_ll : wO (addA (.lst x) (.lst y)) Q ↔ x.length + y.length ≤ 1000000 ∧ Q (.lst (x ++ y)) := wO_if
theorem o_add_tt : wO (addA (.tup x) (.tup y)) Q ↔ x.length + y.length ≤ 1000000 ∧ Q (.tup (x ++ y)) := wO_if
theorem o_addI_ii : wO (addI (.int a) (.int b)) Q ↔ Q (.int (a + b)) := wO_some
theorem o_subI_ii : wO (subI (.int a) (.int b)) Q ↔ Q (.int (a - b)) := wO_some
/-- one factor within 2^64 -/
def mOk (a b : Int) : Prop := (-(2 ^ 64) < a ∧ a < 2 ^ 64) ∨ (-(2 ^ 64) < b ∧ b < 2 ^ 64)
theorem mOk_iff : mulOk a b = true ↔ mOk a b := by unfold mulOk mOk; exact decide_eq_true_iff
theorem o_mul_ii : wO (mulA (.int a) (.int b)) Q ↔ mOk a b ∧ Q (.int (a * b)) := by
  rw [← mOk_iff]; exact wO_if
theorem o_mulI_ii : wO (mulI (.int a) (.int b)) Q ↔ mOk a b ∧ Q (.int (a * b)) := by
  rw [← mOk_iff]; exact wO_if
theorem rep_flat {d : D} {k : Nat} : (List.replicate k [d]).flatten = List.replicate k d := by
  induction k with
  | zero => rfl
  | succ k ih => rw [List.replicate_succ, List.flatten_cons, ih, List.replicate_succ]; rfl
theorem o_mul_li : wO (mulA (.lst [d]) (.int b)) Q ↔ (-1000000 ≤ b ∧ b ≤ 1000000) ∧ Q (.lst (tl b.toNat fun _ => d)) := by
  have e : tl b.toNat (fun _ => d) = List.replicate b.toNat d := by
    unfold tl; rw [List.map_const']; simp
  refine wO_if.trans ?_
  rw [rep_flat, e]
  simp only [List.length_cons, List.length_nil, Nat.zero_add, Nat.one_mul]
  constructor
  · intro h; exact ⟨h.1.1, h.2⟩
  · intro h; exact ⟨⟨h.1, by omega⟩, h.2⟩
theorem o_mulL_li : wO (mulL (.lst [d]) (.int b)) Q ↔ (-1000000 ≤ b ∧ b ≤ 1000000) ∧ Q (.lst (tl b.toNat fun _ => d)) := o_mul_li
theorem o_fdiv_ii : wO (fdivI (.int a) (.int b)) Q ↔ (0 < b ∧ b < 1073741824) ∧ Q (.int (a / b)) := wO_if
theorem o_mod_ii : wO (modI (.int a) (.int b)) Q ↔ 0 < b ∧ Q (.int (a % b)) := wO_if
theorem o_pow_ii : wO (powI (.int a) (.int b)) Q ↔ (0 ≤ b ∧ b ≤ 1000 ∧ a.natAbs < 2 ^ 64) ∧ Q (.int (a ^ b.toNat)) := wO_if
theorem o_neg_i : wO (negI (.int a)) Q ↔ Q (.int (-a)) := wO_some
theorem o_cmp_ii {pp : Int → Int → Bool} : wO (cmpI pp (.int a) (.int b)) Q ↔ Q (.bl (pp a b)) := wO_some
theorem eqD_ii : eqD (.int a) (.int b) = some (.bl (decide (a = b))) := by
  simp only [eqD, pyD, Option.bind_some, SeqAt.shaped, PyData.canLay0, PyData.depth, PyData.eqv]
  rfl
theorem neD_ii : neD (.int a) (.int b) = some (.bl (decide (a ≠ b))) := by
  simp only [neD, pyD, Option.bind_some, SeqAt.shaped, PyData.canLay0, PyData.depth, PyData.eqv]
  by_cases h : a = b
  · subst h; simp
  · simp [h]
theorem o_eq_ii : wO (eqD (.int a) (.int b)) Q ↔ Q (.bl (decide (a = b))) := by rw [eqD_ii, wO_some]
theorem o_ne_ii : wO (neD (.int a) (.int b)) Q ↔ Q (.bl (decide (a ≠ b))) := by rw [neD_ii, wO_some]
theorem eqD_ss : eqD (.str s) (.str t) = if PyData.strOk s && PyData.strOk t then some (.bl (s == t)) else none := by
  simp only [eqD, pyD, Option.bind_some, SeqAt.shaped, PyData.canLay0, PyData.depth, PyData.eqv]
  simp
theorem neD_ss : neD (.str s) (.str t) = if PyData.strOk s && PyData.strOk t then some (.bl (!(s == t))) else none := by
  simp only [neD, pyD, Option.bind_some, SeqAt.shaped, PyData.canLay0, PyData.depth, PyData.eqv]
  simp
theorem o_eq_ss : wO (eqD (.str s) (.str t)) Q ↔ (PyData.strOk s && PyData.strOk t) = true ∧ Q (.bl (s == t)) := by rw [eqD_ss]; exact wO_if
theorem o_ne_ss : wO (neD (.str s) (.str t)) Q ↔ (PyData.strOk s && PyData.strOk t) = true ∧ Q (.bl (!(s == t))) := by rw [neD_ss]; exact wO_if
/-! equality of a datum with itself -/
mutual
theorem eqv_self : ∀ p : PyData, p.canLay0 = true → PyData.eqv p p = true
  | .none, _ => by simp only [PyData.eqv]
  | .bool _, _ => by simp [PyData.eqv]
  | .int _, _ => by simp [PyData.eqv]
  | .str _, _ => by simp [PyData.eqv]
  | .list xs, h => by
    rw [PyData.canLay0] at h
    rw [PyData.eqv]
    exact eqvAll_self xs h
  | .tuple xs, h => by
    rw [PyData.canLay0] at h
    rw [PyData.eqv]
    exact eqvAll_self xs h
  | .dict _, h => by simp [PyData.canLay0] at h
theorem eqvAll_self : ∀ xs : List PyData, PyData.canLayAll0 xs = true → PyData.eqvAll xs xs = true
  | [], _ => by simp only [PyData.eqvAll]
  | x :: xs, h => by
    rw [PyData.canLayAll0, Bool.and_eq_true] at h
    rw [PyData.eqvAll, eqv_self x h.1, eqvAll_self xs h.2]
    rfl
end
/-- data that == can look at -/
def eqOk (d : D) : Prop := ∃ p, pyD d = some p ∧ SeqAt.shaped p = true
theorem eqD_self (h : eqOk d) : eqD d d = some (.bl true) := by
  obtain ⟨p, e, s⟩ := h
  have e2 := eqv_self p (SeqAt.canLay_of_shaped s)
  simp only [eqD, e, Option.bind_some, s, Bool.and_self, if_true, e2]
theorem neD_self (h : eqOk d) : neD d d = some (.bl false) := by
  obtain ⟨p, e, s⟩ := h
  have e2 := eqv_self p (SeqAt.canLay_of_shaped s)
  simp only [neD, e, Option.bind_some, s, Bool.and_self, if_true, e2, Bool.not_true]
/-- data of a depth, that == can look at -/
inductive EqK : Nat → D → Prop
  | non {k} : EqK k .non
  | bl {k} (b) : EqK k (.bl b)
  | int {k} (i) : EqK k (.int i)
  | str {k} {x} : PyData.strOk x = true → EqK k (.str x)
  | tup {k l} : (∀ d ∈ l, EqK k d) → EqK (k + 1) (.tup l)
  | lst {k l} : (∀ d ∈ l, EqK k d) → EqK (k + 1) (.lst l)
  | scr {k l} : (∀ d ∈ l, EqK k d) → EqK (k + 1) (.scr l)
theorem eqK_py {k : Nat} {d : D} (h : EqK k d) : ∃ p, pyD d = some p ∧ p.canLay0 = true ∧ p.depth ≤ k := by
  have hl : ∀ {k : Nat} {l : List D}, (∀ d ∈ l, ∃ p, pyD d = some p ∧ p.canLay0 = true ∧ p.depth ≤ k) → ∃ ps, pyL l = some ps ∧ PyData.canLayAll0 ps = true ∧ PyData.depthAll ps ≤ k := by
    intro k l h
    induction l with
    | nil => exact ⟨[], by rw [pyL], by rw [PyData.canLayAll0], by rw [PyData.depthAll]; exact Nat.zero_le _⟩
    | cons d l ih =>
      obtain ⟨p, e1, e2, e3⟩ := h d (by simp)
      obtain ⟨ps, f1, f2, f3⟩ := ih fun d hd => h d (by simp [hd])
      refine ⟨p :: ps, by rw [pyL, e1, f1]; rfl, by rw [PyData.canLayAll0, e2, f2]; rfl, ?_⟩
      rw [PyData.depthAll]
      omega
  induction h with
  | non => exact ⟨_, by rw [pyD], by rw [PyData.canLay0], by rw [PyData.depth]; omega⟩
  | bl b => exact ⟨_, by rw [pyD], by rw [PyData.canLay0], by rw [PyData.depth]; omega⟩
  | int b => exact ⟨_, by rw [pyD], by rw [PyData.canLay0], by rw [PyData.depth]; omega⟩
  | str hs => exact ⟨_, by rw [pyD], by rw [PyData.canLay0]; exact hs, by rw [PyData.depth]; omega⟩
  | tup _ ih =>
    obtain ⟨ps, f1, f2, f3⟩ := hl ih
    exact ⟨.tuple ps, by rw [pyD, f1]; rfl, by rw [PyData.canLay0, f2], by rw [PyData.depth]; omega⟩
  | lst _ ih =>
    obtain ⟨ps, f1, f2, f3⟩ := hl ih
    exact ⟨.list ps, by rw [pyD, f1]; rfl, by rw [PyData.canLay0, f2], by rw [PyData.depth]; omega⟩
  | scr _ ih =>
    obtain ⟨ps, f1, f2, f3⟩ := hl ih
    exact ⟨.list ps, by rw [pyD, f1]; rfl, by rw [PyData.canLay0, f2], by rw [PyData.depth]; omega⟩
theorem EqK.ok {k : Nat} (h : EqK k d) (hk : k ≤ 64) : eqOk d := by
  obtain ⟨p, e1, e2, e3⟩ := eqK_py h
  exact ⟨p, e1, by unfold SeqAt.shaped; rw [e2]; exact decide_eq_true (by omega)⟩
theorem eqk_ints {f : Int → Int} : EqK 1 (.lst (tl n fun i => .int (f i))) := by
  refine .lst fun d hd => ?_
  simp only [tl, List.mem_map] at hd
  obtain ⟨i, _, rfl⟩ := hd
  exact .int _
theorem o_eq_same (h : eqOk d) : wO (eqD d d) Q ↔ Q (.bl true) := by rw [eqD_self h, wO_some]
theorem o_ne_same (h : eqOk d) : wO (neD d d) Q ↔ Q (.bl false) := by rw [neD_self h, wO_some]
theorem o_is_nn : wO (isND .non .non) Q ↔ Q (.bl true) := wO_some
theorem o_is_in : wO (isND (.int a) .non) Q ↔ Q (.bl false) := wO_some
theorem o_not_nn : wO (notND .non .non) Q ↔ Q (.bl false) := wO_some
theorem o_not_in : wO (notND (.int a) .non) Q ↔ Q (.bl true) := wO_some
/-! subscripts -/
theorem atI_nn {l : List D} (h0 : 0 ≤ a) (h : a < l.length) : wO (atI l a) Q ↔ ∃ d, l[a.toNat]? = some d ∧ Q d := by
  unfold atI
  rw [ixN_nn h0 h]
  rfl
theorem atI_tl (h : 0 ≤ a ∧ a < n) : atI (tl n g) a = some (g a) := by
  unfold atI
  rw [tl_len, ixN_nn h.1 h.2]
  show (tl n g)[a.toNat]? = _
  rw [tl_get (by omega)]
  congr 2
  omega
theorem atI_tl_neg (h : a < 0 ∧ -(n : Int) ≤ a) : atI (tl n g) a = some (g (n + a)) := by
  unfold atI
  rw [tl_len, ixN_ng h.1 h.2]
  show (tl n g)[(a + n).toNat]? = _
  rw [tl_get (by omega)]
  congr 2
  omega
theorem o_ix_lst {l : List D} : wO (ixD (.lst l) (.int a)) Q ↔ wO (atI l a) Q := Iff.rfl
theorem o_ix_tup {l : List D} : wO (ixD (.tup l) (.int a)) Q ↔ wO (atI l a) Q := Iff.rfl
theorem o_ix_scr {l : List D} : wO (ixD (.scr l) (.int a)) Q ↔ wO (atI l a) Q := Iff.rfl
theorem o_at (h : 0 ≤ a ∧ a < n) : wO (atI (tl n g) a) Q ↔ Q (g a) := by rw [atI_tl h, wO_some]
theorem o_at_neg (h : a < 0 ∧ -(n : Int) ≤ a) : wO (atI (tl n g) a) Q ↔ Q (g (n + a)) := by rw [atI_tl_neg h, wO_some]
theorem o_set {QN : Nat → Prop} (h : 0 ≤ a ∧ a < n) : wO (ixN n a) QN ↔ QN a.toNat := by rw [ixN_nn h.1 h.2, wO_some]
theorem tl_set {v : D} (h : 0 ≤ a) : (tl n g).set a.toNat v = tl n fun i => if i = a then v else g i := by
  refine tl_ext (by rw [List.length_set, tl_len]) fun i hi => ?_
  rw [List.getElem?_set]
  by_cases e : a.toNat = i
  · rw [if_pos e, if_pos (by rw [tl_len]; omega), if_pos (by omega)]
  · rw [if_neg e, tl_get hi, if_neg (by omega)]
theorem tl_setN {v : D} {k : Nat} : (tl n g).set k v = tl n fun i => if i = (k : Int) then v else g i := by
  have := tl_set (n := n) (g := g) (v := v) (a := (k : Int)) (by omega)
  rwa [Int.toNat_natCast] at this
theorem tl_cons {v : D} : v :: tl n g = tl (n + 1) fun i => if i = 0 then v else g (i - 1) := by
  refine tl_ext (by rw [List.length_cons, tl_len]) fun i hi => ?_
  cases i with
  | zero => rfl
  | succ i =>
    rw [List.getElem?_cons_succ, tl_get (by omega), if_neg (by omega)]
    congr 2
    omega
theorem tl_snoc {v : D} : tl n g ++ [v] = tl (n + 1) fun i => if i = n then v else g i := by
  refine tl_ext (by rw [List.length_append, tl_len]; rfl) fun i hi => ?_
  by_cases e : i < n
  · rw [List.getElem?_append_left (by rw [tl_len]; omega), tl_get e, if_neg (by omega)]
  · have e2 : i = n := by omega
    subst e2
    rw [List.getElem?_append_right (by rw [tl_len]; omega), tl_len, Nat.sub_self, if_pos rfl]
    rfl
theorem tl_one {v : D} : [v] = tl 1 fun _ => v := rfl
/-! sources -/
theorem o_rng1 : wO (rng1D [.int a]) QL ↔ (-1000000 ≤ a ∧ a ≤ 1000000) ∧ QL ((List.range a.toNat).map fun (k : Nat) => .int k) := wO_if
theorem o_rng2 : wO (rng2D [.int a, .int b]) QL ↔ ((-1000000 ≤ a ∧ a ≤ 1000000) ∧ -1000000 ≤ b ∧ b ≤ 1000000) ∧ QL ((List.range (b - a).toNat).map fun (k : Nat) => .int (a + k)) := wO_if
theorem o_seq_lst : wO (seqD (.lst x)) QL ↔ QL x := wO_some
theorem o_seq_tup : wO (seqD (.tup x)) QL ↔ QL x := wO_some
theorem o_seq_scr : wO (seqD (.scr x)) QL ↔ QL x := wO_some
theorem o_enum_lst : wO (enumD [.lst x]) QL ↔ QL ((List.range x.length).zipWith (fun (i : Nat) x => .tup [.int i, x]) x) := wO_some
theorem enum_tl : (List.range n).zipWith (fun (i : Nat) x => D.tup [.int i, x]) (tl n g) = (List.range n).map fun (i : Nat) => .tup [.int i, g i] := by
  apply List.ext_getElem?
  intro i
  by_cases h : i < n
  · simp [tl, h]
  · simp [tl, h]
/-! built-ins -/
theorem o_len_l : wO (lenD [.lst x]) Q ↔ Q (.int x.length) := wO_some
theorem o_len_t : wO (lenD [.tup x]) Q ↔ Q (.int x.length) := wO_some
theorem o_abs : wO (absD [.int a]) Q ↔ Q (.int (if a < 0 then -a else a)) := wO_some
theorem o_max2 : wO (max2D [.int a, .int b]) Q ↔ Q (.int (if b > a then b else a)) := wO_some
theorem o_min2 : wO (min2D [.int a, .int b]) Q ↔ Q (.int (if b < a then b else a)) := wO_some
theorem o_int_i : wO (int1D [.int a]) Q ↔ Q (.int a) := wO_some
theorem o_int_b : wO (int1D [.bl p]) Q ↔ Q (.int (if p = true then 1 else 0)) := wO_some
theorem o_list_l : wO (listD [.lst x]) Q ↔ Q (.lst x) := wO_some
theorem o_list_s : wO (listD [.scr x]) Q ↔ Q (.lst x) := wO_some
theorem o_list_t : wO (listD [.tup x]) Q ↔ Q (.lst x) := wO_some
/-- sums of the first values -/
def sm : Nat → (Int → Int) → Int
  | 0, _ => 0
  | n + 1, h => sm n h + h n
theorem sm_sum {h : Int → Int} : ∀ {n : Nat}, ((List.range n).map fun (i : Nat) => h i).sum = sm n h
  | 0 => rfl
  | n + 1 => by rw [List.range_succ, List.map_append, List.sum_append, sm_sum]; simp [sm]
theorem ints_tl {h : Int → Int} : intsD (tl n fun i => .int (h i)) = some ((List.range n).map fun (i : Nat) => h i) := by
  unfold tl
  generalize List.range n = l
  induction l with
  | nil => rfl
  | cons i l ih => simp only [List.map_cons, intsD, ih]; rfl
theorem o_sum_tl {h : Int → Int} : wO (sumD [.lst (tl n fun i => .int (h i))]) Q ↔ Q (.int (sm n h)) := by
  show wO ((intsD _).map _) Q ↔ _
  rw [ints_tl]
  show wO (some _) Q ↔ _
  rw [wO_some]
  show Q (.int (((List.range n).map fun (i : Nat) => h i).sum)) ↔ _
  rw [sm_sum]
theorem bls_tl {h : Int → Bool} : blsD (tl n fun i => .bl (h i)) = some ((List.range n).map fun (i : Nat) => h i) := by
  unfold tl
  generalize List.range n = l
  induction l with
  | nil => rfl
  | cons i l ih => simp only [List.map_cons, blsD, ih]; rfl
theorem o_all_tl {h : Int → Bool} (hh : ∀ i : Int, 0 ≤ i → i < n → h i = true) : wO (allD [.lst (tl n fun i => .bl (h i))]) Q ↔ Q (.bl true) := by
  show wO ((blsD _).map _) Q ↔ _
  rw [bls_tl]
  show wO (some _) Q ↔ _
  rw [wO_some]
  have e : ((List.range n).map fun (i : Nat) => h i).all id = true := by
    rw [List.all_eq_true]
    intro x hx
    simp only [List.mem_map, List.mem_range] at hx
    obtain ⟨i, hi, rfl⟩ := hx
    exact hh i (by omega) (by omega)
  show Q (.bl (((List.range n).map fun (i : Nat) => h i).all id)) ↔ _
  rw [e]
theorem o_any_tl {h : Int → Bool} (hh : ∀ i : Int, 0 ≤ i → i < n → h i = false) : wO (anyD [.lst (tl n fun i => .bl (h i))]) Q ↔ Q (.bl false) := by
  show wO ((blsD _).map _) Q ↔ _
  rw [bls_tl]
  show wO (some _) Q ↔ _
  rw [wO_some]
  have e : ((List.range n).map fun (i : Nat) => h i).any id = false := by
    rw [List.any_eq_false]
    intro x hx
    simp only [List.mem_map, List.mem_range] at hx
    obtain ⟨i, hi, rfl⟩ := hx
    have := hh i (by omega) (by omega)
    simp [this]
  show Q (.bl (((List.range n).map fun (i : Nat) => h i).any id)) ↔ _
  rw [e]
theorem o_tru_b : wO (truD (.bl p)) QB ↔ QB p := wO_some
theorem o_isi_int_i : wO (isiD "int" (.int a)) Q ↔ Q (.bl true) := by
  have e : isiD "int" (.int a) = some (.bl true) := rfl
  rw [e, wO_some]
theorem o_isi_int_non : wO (isiD "int" .non) Q ↔ Q (.bl false) := by
  have e : isiD "int" .non = some (.bl false) := rfl
  rw [e, wO_some]
theorem o_isi_bool_i : wO (isiD "bool" (.int a)) Q ↔ Q (.bl false) := by
  have e : isiD "bool" (.int a) = some (.bl false) := rfl
  rw [e, wO_some]
theorem o_isi_list_l : wO (isiD "list" (.lst x)) Q ↔ Q (.bl true) := by
  have e : isiD "list" (.lst x) = some (.bl true) := rfl
  rw [e, wO_some]
theorem wE_chain {g1 g2 : D → D → Option D} {fa fb fc : EF} {Γ : List D} : wE (eChain g1 g2 fa fb fc) Γ Q ↔ wE fa Γ fun x => wE fb Γ fun y => wO (g1 x y) fun r => ∃ b, r = .bl b ∧ if b = true then wE fc Γ fun z => wO (g2 y z) Q else Q (.bl false) := by
  refine wR_cg fun x => wR_cg fun y => ?_
  cases h : g1 x y with
  | none => exact ⟨fun ⟨_, e, _⟩ => (by cases e), fun ⟨_, e, _⟩ => (by cases e)⟩
  | some r =>
    rw [wO_some]
    cases r with
    | bl b =>
      rw [ex_bl]
      cases b with
      | true => exact wR_cg fun z => wR_of
      | false => exact wR_ok
    | _ => exact ⟨fun ⟨_, e, _⟩ => (by cases e), fun ⟨_, e, _⟩ => (by cases e)⟩
theorem o_gN {i : Nat} {Γ : List D} {QQ : List D → Prop} : wO (gN i d Γ) QQ ↔ QQ (Γ.set i d) := wO_some
theorem o_gT {hs : TFs} {Γ : List D} {QQ : List D → Prop} : wO (gT hs (.tup x) Γ) QQ ↔ wO (hs x Γ) QQ := Iff.rfl
theorem o_gsNil {Γ : List D} {QQ : List D → Prop} : wO (gsNil [] Γ) QQ ↔ QQ Γ := wO_some
theorem o_gsCons {h : TF} {hs : TFs} {Γ : List D} {QQ : List D → Prop} : wO (gsCons h hs (d :: x) Γ) QQ ↔ wO (h d Γ) fun Γ1 => wO (hs x Γ1) QQ := wO_bind
theorem wA_seq {f : EF} {Γ : List D} {QQ : List D → Prop} : wA (iSeq f) Γ QQ ↔ wE f Γ fun d => wO (seqD d) QQ := wR_cg fun _ => wR_of
theorem wA_rng {rg : List D → Option (List D)} {fr : AF} {Γ : List D} {QQ : List D → Prop} : wA (iRng rg fr) Γ QQ ↔ wA fr Γ fun ds => wO (rg ds) QQ := wR_cg fun _ => wR_of
theorem o_cut_l {lo hi : Option Int} : wO (cutA (.lst x) lo hi) Q ↔ Q (.lst (cutD x lo hi)) := wO_some
theorem o_cut_s {lo hi : Option Int} : wO (cutA (.scr x) lo hi) Q ↔ Q (.lst (cutD x lo hi)) := wO_some
/-- every item of a list, mapped: for a comprehension over a range or a typed list -/
theorem lc_rng {val : Nat → D} {gi : Nat → D} {m : Nat} {h : TF} {f : EF} {Γ : List D} (hv : ∀ i, i < m → wO (h (gi i) Γ) fun Γ1 => wE f Γ1 fun e => e = val i) (q : QL ((List.range m).map val)) : wR (lcL (lcBody h bYes f Γ) ((List.range m).map gi)) QL := by
  have key : ∀ l : List Nat, (∀ i ∈ l, i < m) → wR (lcL (lcBody h bYes f Γ) (l.map gi)) fun r => r = l.map val := by
    intro l
    induction l with
    | nil => intro _; exact wR_ok.2 rfl
    | cons i l ih =>
      intro hl
      obtain ⟨r, e3, rfl⟩ := ih fun i hi => hl i (by simp [hi])
      obtain ⟨Γ1, e1, e, e2, rfl⟩ := hv i (hl i (by simp))
      have eb : lcBody h bYes f Γ (gi i) = .ok (some (val i)) := by
        unfold lcBody
        rw [e1]
        simp only [R.of_some, R.bind_ok, bYes, if_true]
        rw [e2]
        rfl
      refine ⟨_, ?_, rfl⟩
      show lcL (lcBody h bYes f Γ) (gi i :: l.map gi) = _
      unfold lcL
      rw [eb, e3]
      rfl
  obtain ⟨r, e, rfl⟩ := key (List.range m) fun i hi => List.mem_range.1 hi
  exact ⟨_, e, q⟩
/-- over a range, giving a typed list -/
theorem lc_tl {m : Nat} {gi : Nat → D} {h : TF} {f : EF} {Γ : List D} (val : Int → D) (hv : ∀ i : Nat, i < m → wO (h (gi i) Γ) fun Γ1 => wE f Γ1 fun e => e = val i) (q : QL (tl m val)) : wR (lcL (lcBody h bYes f Γ) ((List.range m).map gi)) QL := lc_rng (val := fun i => val i) hv q
theorem lc_tl2 {m : Nat} {gi : Int → D} {h : TF} {f : EF} {Γ : List D} (val : Int → D) (hv : ∀ i : Nat, i < m → wO (h (gi i) Γ) fun Γ1 => wE f Γ1 fun e => e = val i) (q : QL (tl m val)) : wR (lcL (lcBody h bYes f Γ) (tl m gi)) QL := lc_rng (val := fun i => val i) hv q
theorem wF_tl {h : TF} {body : SF} {Γ : List D} {QS : Fl → Prop} {g : Int → D} {m : Nat} (I : Nat → List D → Prop) (h0 : I 0 Γ) (hs : ∀ i Γ, i < m → I i Γ → wO (h (g i) Γ) fun Γ1 => wS body Γ1 (lpQ (I (i + 1)))) (hq : ∀ Γ', I m Γ' → QS (.nx Γ')) : wF h body (tl m g) Γ QS := wF_rng I h0 hs hq
end
end L2.DL
set_option Elab.async false
set_option linter.all false
set_option maxRecDepth 100000
set_option autoImplicit false
/-! DO: rows of rows, forward. -/
namespace L2.DL
open PySem PySem.Spec PyProof.Rows
theorem wS_rows {iT iM iR : Nat} {src : AF} {h : TF} {elt : EF} {fr : AF} {inner : SF} {Γ : List D} {Q : Fl → Prop} : wS (sRows iT iM iR src h elt fr inner) Γ Q ↔ wA src Γ fun ds => ds.length ≤ 1000000 ∧ wR (lcL (lcBody h bYes elt Γ) ds) fun zs => wA (iRng rng1D fr) Γ fun es => es.length = zs.length ∧ wR (rowsR iM iR inner 0 zs Γ) fun p => Q (.nx (p.2.set iT (.lst p.1))) := by
  unfold wS wA sRows
  cases src Γ with
  | bad => simp only [wR_bad]
  | err c => exact ⟨fun ⟨_, e, _⟩ => (by cases e), fun ⟨_, e, _⟩ => (by cases e)⟩
  | ok ds =>
    rw [wR_ok]
    refine wR_if.trans (and_congr_right fun _ => ?_)
    cases lcL (lcBody h bYes elt Γ) ds with
    | bad => simp only [wR_bad]
    | err c => exact ⟨fun ⟨_, e, _⟩ => (by cases e), fun ⟨_, e, _⟩ => (by cases e)⟩
    | ok zs =>
      rw [wR_ok]
      cases iRng rng1D fr Γ with
      | bad => simp only [wR_bad]
      | err c => exact ⟨fun ⟨_, e, _⟩ => (by cases e), fun ⟨_, e, _⟩ => (by cases e)⟩
      | ok es =>
        rw [wR_ok]
        refine wR_if.trans (and_congr_right fun _ => ?_)
        cases rowsR iM iR inner 0 zs Γ with
        | bad => simp only [wR_bad]
        | err c => exact ⟨fun ⟨_, e, _⟩ => (by cases e), fun ⟨_, e, _⟩ => (by cases e)⟩
        | ok p =>
          exact (wR_ok (Q := Q)).trans (wR_ok (Q := fun p : List D × List D => Q (.nx (p.2.set iT (.lst p.1))))).symm
theorem rows_ix {iM iR : Nat} {inner : SF} {val : Int → D} : ∀ {zs : List D} {k : Nat} {Γ : List D} {Q : List D × List D → Prop} (I : Nat → List D → Prop) (h0 : I k Γ) (hs : ∀ (i : Nat) (z : D) (Γ : List D), zs[i]? = some z → I (k + i) Γ → wS inner ((Γ.set iM (.int ((k + i : Nat) : Int))).set iR z) fun fl => ∃ Γ', fl = .nx Γ' ∧ Γ'[iR]? = some (val ((k + i : Nat) : Int)) ∧ I (k + i + 1) Γ')
    (hq : ∀ Γ', I (k + zs.length) Γ' → Q (tl zs.length (fun i => val (k + i)), Γ')), wR (rowsR iM iR inner k zs Γ) Q
  | [], k, Γ, Q, I, h0, hs, hq => by
    have := hq Γ h0
    exact wR_ok.2 this
  | z :: zs, k, Γ, Q, I, h0, hs, hq => by
    obtain ⟨fl, e1, Γ1, rfl, e2, h1⟩ := hs 0 z Γ rfl h0
    simp only [Nat.add_zero] at e1 e2 h1
    have := rows_ix (iM := iM) (iR := iR) (inner := inner) (val := val) (zs := zs) (k := k + 1) (Γ := Γ1) (Q := fun p => Q (val k :: p.1, p.2)) I h1 (fun i z' Γ' e h => by
      have := hs (i + 1) z' Γ' (by simpa using e) (by rw [show k + (i + 1) = k + 1 + i by omega]; exact h)
      rw [show k + (i + 1) = k + 1 + i by omega] at this
      exact this) (fun Γ' h => by
      have h2 := hq Γ' (by rw [List.length_cons, show k + (zs.length + 1) = k + 1 + zs.length by omega]; exact h)
      have e : val k :: tl zs.length (fun i => val ((k + 1 : Nat) + i)) = tl (zs.length + 1) fun i => val (k + i) := by
        rw [tl_cons]
        refine tl_congr fun i _ _ => ?_
        by_cases hi : i = 0
        · subst hi; rw [if_pos rfl, Int.add_zero]
        · rw [if_neg hi]; congr 1; omega
      show Q (val k :: tl zs.length (fun i => val ((k + 1 : Nat) + i)), Γ')
      rw [e]
      exact h2)
    obtain ⟨p, e3, q⟩ := this
    refine ⟨(val k :: p.1, p.2), ?_, q⟩
    unfold rowsR
    rw [e1]
    simp only [e2, e3, R.bind_ok]
theorem rows_tl {iM iR : Nat} {inner : SF} {m : Nat} {zf : Int → D} {Γ : List D} {Q : List D × List D → Prop} (val : Int → D) (I : Nat → List D → Prop) (h0 : I 0 Γ) (hs : ∀ (i : Nat) (Γ : List D), i < m → I i Γ → wS inner ((Γ.set iM (.int i)).set iR (zf i)) fun fl => ∃ Γ', fl = .nx Γ' ∧ Γ'[iR]? = some (val i) ∧ I (i + 1) Γ')
    (hq : ∀ Γ', I m Γ' → Q (tl m val, Γ')) : wR (rowsR iM iR inner 0 (tl m zf) Γ) Q := by
  refine rows_ix (val := val) I h0 (fun i z Γ e h => ?_) (fun Γ' h => ?_)
  · have hi : i < m := by
      have := (List.getElem?_eq_some_iff.mp e).1
      rwa [tl_len] at this
    rw [tl_get hi] at e
    cases e
    rw [Nat.zero_add] at h ⊢
    exact hs i Γ hi h
  · rw [tl_len, Nat.zero_add] at h
    have := hq Γ' h
    rw [tl_len]
    have e : (fun i : Int => val (((0 : Nat) : Int) + i)) = val := by funext i; congr 1; omega
    rw [e]
    exact this
end L2.DL
set_option Elab.async false
set_option linter.all false
set_option maxRecDepth 100000
set_option autoImplicit false
/-! DW: the draws of a script, the same in every law. -/
namespace L2.DL
open PySem PySem.Spec PyProof.Rows
def drawsF : SF := (sSeq (sAsg 2 (eLst aNil)) (sSeq (sAsg 3 (eC (.int 7))) (sSeq (sFor (iSeq (eSl cutA (eVar 0) oNo (oAt (eC (.int 63))))) (gN 4) (sSeq (sAsg 5 (eApp absD (aCons (eVar 4) aNil))) (sSeq (sAsg 3 (eBin modI (eApp int1D (aCons (eBin addA (eBin addA (eBin mulA (eVar 3) (eC (.int 48271))) (eVar 5)) (eC (.int 11))) aNil)) (eC (.int 2147483647)))) (sIf (bVal (eBin geI (eVar 5) (eBin powI (eC (.int 10)) (eC (.int 18))))) (sFor (iRng rng1D (aCons (eC (.int 60)) aNil)) (gN 6) (sIf (bVal (eBin gtI (eVar 5) (eC (.int 0)))) (sSeq (sApp 2 (eBin modI (eApp int1D (aCons (eVar 5) aNil)) (eC (.int 1009)))) (sAsg 5 (eBin fdivI (eVar 5) (eC (.int 1009))))) sNil)) (sApp 2 (eBin modI (eBin fdivI (eApp int1D (aCons (eBin addA (eBin mulA (eVar 3) (eC (.int 16807))) (eC (.int 5))) aNil)) (eC (.int 3))) (eC (.int 65521)))))))) (sSeq (sFor (iRng rng1D (aCons (eVar 1) aNil)) (gN 6) (sIf (bVal (eBin ltI (eApp lenD (aCons (eVar 2) aNil)) (eVar 1))) (sSeq (sAsg 3 (eBin modI (eApp int1D (aCons (eBin addA (eBin addA (eBin mulA (eVar 3) (eC (.int 69621))) (eVar 6)) (eC (.int 1))) aNil)) (eC (.int 2147483647)))) (sApp 2 (eBin modI (eBin fdivI (eApp int1D (aCons (eVar 3) aNil)) (eC (.int 7))) (eC (.int 65521))))) sNil)) (sRet (eSl cutA (eVar 2) oNo (oAt (eVar 1))))))))
/-- a draw -/
def drOk (x : Int) : Prop := 0 ≤ x ∧ x < 65521
theorem cut63 {l : List D} : cutD l none (some 63) = l.take 63 := by
  unfold cutD HT.sIx
  simp
theorem cutN {l : List D} {m : Nat} : cutD l none (some (m : Int)) = l.take m := by
  unfold cutD
  rw [HT.sIx_nat, HT.sIx_none, Nat.sub_zero, List.drop_zero]
  by_cases h : m ≤ l.length
  · rw [Nat.min_eq_left h]
  · rw [Nat.min_eq_right (by omega), List.take_of_length_le (by omega), List.take_of_length_le (by omega)]
theorem snoc_int {L : List Int} {x : Int} : L.map D.int ++ [.int x] = (L ++ [x]).map .int := by simp
theorem drOk_snoc {L : List Int} {x : Int} (h : ∀ y ∈ L, drOk y) (hx : drOk x) : ∀ y ∈ L ++ [x], drOk y := by
  intro y hy
  rw [List.mem_append] at hy
  rcases hy with hy | hy
  · exact h y hy
  · rw [List.mem_singleton.1 hy]; exact hx
theorem drOk_mod {x : Int} : drOk (x % 65521) := ⟨Int.emod_nonneg _ (by decide), Int.emod_lt_of_pos _ (by decide)⟩
theorem drOk_mod2 {x : Int} : drOk (x % 1009) := ⟨Int.emod_nonneg _ (by decide), Int.lt_trans (Int.emod_lt_of_pos _ (by decide)) (by decide)⟩
theorem sd_mod {x : Int} : 0 ≤ x % 2147483647 ∧ x % 2147483647 < 2147483647 := ⟨Int.emod_nonneg _ (by decide), Int.emod_lt_of_pos _ (by decide)⟩
theorem draws_ok {ns : List Int} {m : Nat} (hm : m ≤ 1000) : ∃ L : List Int, mOf 2 5 drawsF [.scr (ns.map .int), .int m] = .ok (.lst (L.map .int)) ∧ L.length = m ∧ ∀ x ∈ L, drOk x := by
  have key : wS drawsF ([.scr (ns.map .int), .int m] ++ List.replicate 5 .non) fun fl => ∃ L : List Int, fl = .rt (.lst (L.map .int)) ∧ L.length = m ∧ ∀ x ∈ L, drOk x := by
    unfold drawsF
    simp only [wE_var, wE_c, wE_bin, wE_un, wA_nil, wA_cons, wE_app, wE_call, wE_tup, wE_lst, wE_if, wE_isi, wE_sl, wR_oNo, wR_oAt, ex_int, ex_bl, ex_lst, ex_par, wB_val, wB_tru, wB_not, wB_and, wB_or, wB_yes, wE_and, wE_or, wE_not, wE_chain, nxQ_nx, nxQ_rt, nxQ_ct, nxQ_bk, wS_nil, wS_seq, wS_bk, wS_ct, wS_exp, wS_asg, wS_ret, wS_if, wS_aug, wS_asgG, wS_par, wS_app, wS_setix, wS_augix, wS_for, wA_seq, wA_rng, wE_lc, o_add_ii, o_add_ll, o_addI_ii, o_subI_ii, o_mul_ii, o_mulI_ii, o_mul_li, o_mulL_li, o_fdiv_ii, o_mod_ii, o_pow_ii, o_neg_i, o_cmp_ii, o_eq_ii, o_ne_ii, o_is_nn, o_is_in, o_not_nn, o_not_in, o_ix_lst, o_ix_tup, o_ix_scr, o_at, o_at_neg, o_set, tl_set, o_rng1, o_rng2, o_seq_lst, o_seq_tup, o_seq_scr, o_enum_lst, o_len_l, o_len_t, o_abs, o_max2, o_min2, o_int_i, o_int_b, o_list_l, o_list_s, o_list_t, o_sum_tl, o_tru_b, o_isi_int_i, o_isi_int_non, o_isi_bool_i, o_isi_list_l, o_gN, o_gT, o_gsNil, o_gsCons, o_cut_l, o_cut_s, tl_len, tl_cons, tl_snoc, enum_tl, wO_some, wR_ok, wR_of, lpQ_nx, lpQ_ct, List.getElem?_cons_zero, List.getElem?_cons_succ, List.set_cons_zero, List.set_cons_succ, List.length_cons, List.length_nil, List.length_map, List.length_range, List.cons_append, List.nil_append, List.replicate, Nat.reduceAdd, Nat.reduceSub, Int.toNat_natCast, decide_eq_true_eq, Bool.not_eq_true, Bool.not_true, Bool.not_false, if_true, Bool.false_eq_true, if_false, true_and, and_true, Int.reduceNeg, Int.reduceLE, Int.reduceLT, Nat.reduceLeDiff, Nat.reduceLT, Int.zero_add, Nat.zero_add, Int.sub_zero, ite_true, ite_false, reduceIte, Bool.not_eq_eq_eq_not, cut63]
    refine wF_ind (fun i Γ => ∃ (L : List Int) (s : Int) (j1 j2 j3 : D), Γ = [.scr (ns.map .int), .int m, .lst (L.map .int), .int s, j1, j2, j3] ∧ (0 ≤ s ∧ s < 2147483647) ∧ L.length ≤ 60 * i ∧ ∀ x ∈ L, drOk x) ⟨[], _, _, _, _, rfl, by omega, by simp, by simp⟩ ?_ ?_
    · rintro i d Γ hi ⟨L, s, j1, j2, j3, rfl, hs, hl, hL⟩
      have hi2 : i < 63 := by
        have := (List.getElem?_eq_some_iff.1 hi).1
        rw [List.length_take] at this
        omega
      have hd : ∃ x : Int, d = .int x := by
        have := List.mem_of_mem_take (List.mem_of_getElem? hi)
        rw [List.mem_map] at this
        obtain ⟨x, _, rfl⟩ := this
        exact ⟨x, rfl⟩
      obtain ⟨x, rfl⟩ := hd
      simp only [wE_var, wE_c, wE_bin, wE_un, wA_nil, wA_cons, wE_app, wE_call, wE_tup, wE_lst, wE_if, wE_isi, wE_sl, wR_oNo, wR_oAt, ex_int, ex_bl, ex_lst, ex_par, wB_val, wB_tru, wB_not, wB_and, wB_or, wB_yes, wE_and, wE_or, wE_not, wE_chain, nxQ_nx, nxQ_rt, nxQ_ct, nxQ_bk, wS_nil, wS_seq, wS_bk, wS_ct, wS_exp, wS_asg, wS_ret, wS_if, wS_aug, wS_asgG, wS_par, wS_app, wS_setix, wS_augix, wS_for, wA_seq, wA_rng, wE_lc, o_add_ii, o_add_ll, o_addI_ii, o_subI_ii, o_mul_ii, o_mulI_ii, o_mul_li, o_mulL_li, o_fdiv_ii, o_mod_ii, o_pow_ii, o_neg_i, o_cmp_ii, o_eq_ii, o_ne_ii, o_is_nn, o_is_in, o_not_nn, o_not_in, o_ix_lst, o_ix_tup, o_ix_scr, o_at, o_at_neg, o_set, tl_set, o_rng1, o_rng2, o_seq_lst, o_seq_tup, o_seq_scr, o_enum_lst, o_len_l, o_len_t, o_abs, o_max2, o_min2, o_int_i, o_int_b, o_list_l, o_list_s, o_list_t, o_sum_tl, o_tru_b, o_isi_int_i, o_isi_int_non, o_isi_bool_i, o_isi_list_l, o_gN, o_gT, o_gsNil, o_gsCons, o_cut_l, o_cut_s, tl_len, tl_cons, tl_snoc, enum_tl, wO_some, wR_ok, wR_of, lpQ_nx, lpQ_ct, List.getElem?_cons_zero, List.getElem?_cons_succ, List.set_cons_zero, List.set_cons_succ, List.length_cons, List.length_nil, List.length_map, List.length_range, List.cons_append, List.nil_append, List.replicate, Nat.reduceAdd, Nat.reduceSub, Int.toNat_natCast, decide_eq_true_eq, Bool.not_eq_true, Bool.not_true, Bool.not_false, if_true, Bool.false_eq_true, if_false, true_and, and_true, Int.reduceNeg, Int.reduceLE, Int.reduceLT, Nat.reduceLeDiff, Nat.reduceLT, Int.zero_add, Nat.zero_add, Int.sub_zero, ite_true, ite_false, reduceIte, Bool.not_eq_eq_eq_not]
      generalize (if x < 0 then -x else x) = y
      refine ⟨.inl (by omega), by decide, ?_⟩
      split
      · refine wF_rng (fun k Γ => ∃ (L : List Int) (s : Int) (j1 j2 : D) (y : Int), Γ = [.scr (ns.map .int), .int m, .lst (L.map .int), .int s, j1, .int y, j2] ∧ (0 ≤ s ∧ s < 2147483647) ∧ L.length ≤ 60 * i + k ∧ ∀ x ∈ L, drOk x) ⟨_, _, _, _, _, rfl, sd_mod, by omega, hL⟩ ?_ ?_
        · rintro k Γ hk ⟨L, s, j1, j2, y, rfl, hs, hl, hL⟩
          simp only [wE_var, wE_c, wE_bin, wE_un, wA_nil, wA_cons, wE_app, wE_call, wE_tup, wE_lst, wE_if, wE_isi, wE_sl, wR_oNo, wR_oAt, ex_int, ex_bl, ex_lst, ex_par, wB_val, wB_tru, wB_not, wB_and, wB_or, wB_yes, wE_and, wE_or, wE_not, wE_chain, nxQ_nx, nxQ_rt, nxQ_ct, nxQ_bk, wS_nil, wS_seq, wS_bk, wS_ct, wS_exp, wS_asg, wS_ret, wS_if, wS_aug, wS_asgG, wS_par, wS_app, wS_setix, wS_augix, wS_for, wA_seq, wA_rng, wE_lc, o_add_ii, o_add_ll, o_addI_ii, o_subI_ii, o_mul_ii, o_mulI_ii, o_mul_li, o_mulL_li, o_fdiv_ii, o_mod_ii, o_pow_ii, o_neg_i, o_cmp_ii, o_eq_ii, o_ne_ii, o_is_nn, o_is_in, o_not_nn, o_not_in, o_ix_lst, o_ix_tup, o_ix_scr, o_at, o_at_neg, o_set, tl_set, o_rng1, o_rng2, o_seq_lst, o_seq_tup, o_seq_scr, o_enum_lst, o_len_l, o_len_t, o_abs, o_max2, o_min2, o_int_i, o_int_b, o_list_l, o_list_s, o_list_t, o_sum_tl, o_tru_b, o_isi_int_i, o_isi_int_non, o_isi_bool_i, o_isi_list_l, o_gN, o_gT, o_gsNil, o_gsCons, o_cut_l, o_cut_s, tl_len, tl_cons, tl_snoc, enum_tl, wO_some, wR_ok, wR_of, lpQ_nx, lpQ_ct, List.getElem?_cons_zero, List.getElem?_cons_succ, List.set_cons_zero, List.set_cons_succ, List.length_cons, List.length_nil, List.length_map, List.length_range, List.cons_append, List.nil_append, List.replicate, Nat.reduceAdd, Nat.reduceSub, Int.toNat_natCast, decide_eq_true_eq, Bool.not_eq_true, Bool.not_true, Bool.not_false, if_true, Bool.false_eq_true, if_false, true_and, and_true, Int.reduceNeg, Int.reduceLE, Int.reduceLT, Nat.reduceLeDiff, Nat.reduceLT, Int.zero_add, Nat.zero_add, Int.sub_zero, ite_true, ite_false, reduceIte, Bool.not_eq_eq_eq_not]
          split
          · simp only [wE_var, wE_c, wE_bin, wE_un, wA_nil, wA_cons, wE_app, wE_call, wE_tup, wE_lst, wE_if, wE_isi, wE_sl, wR_oNo, wR_oAt, ex_int, ex_bl, ex_lst, ex_par, wB_val, wB_tru, wB_not, wB_and, wB_or, wB_yes, wE_and, wE_or, wE_not, wE_chain, nxQ_nx, nxQ_rt, nxQ_ct, nxQ_bk, wS_nil, wS_seq, wS_bk, wS_ct, wS_exp, wS_asg, wS_ret, wS_if, wS_aug, wS_asgG, wS_par, wS_app, wS_setix, wS_augix, wS_for, wA_seq, wA_rng, wE_lc, o_add_ii, o_add_ll, o_addI_ii, o_subI_ii, o_mul_ii, o_mulI_ii, o_mul_li, o_mulL_li, o_fdiv_ii, o_mod_ii, o_pow_ii, o_neg_i, o_cmp_ii, o_eq_ii, o_ne_ii, o_is_nn, o_is_in, o_not_nn, o_not_in, o_ix_lst, o_ix_tup, o_ix_scr, o_at, o_at_neg, o_set, tl_set, o_rng1, o_rng2, o_seq_lst, o_seq_tup, o_seq_scr, o_enum_lst, o_len_l, o_len_t, o_abs, o_max2, o_min2, o_int_i, o_int_b, o_list_l, o_list_s, o_list_t, o_sum_tl, o_tru_b, o_isi_int_i, o_isi_int_non, o_isi_bool_i, o_isi_list_l, o_gN, o_gT, o_gsNil, o_gsCons, o_cut_l, o_cut_s, tl_len, tl_cons, tl_snoc, enum_tl, wO_some, wR_ok, wR_of, lpQ_nx, lpQ_ct, List.getElem?_cons_zero, List.getElem?_cons_succ, List.set_cons_zero, List.set_cons_succ, List.length_cons, List.length_nil, List.length_map, List.length_range, List.cons_append, List.nil_append, List.replicate, Nat.reduceAdd, Nat.reduceSub, Int.toNat_natCast, decide_eq_true_eq, Bool.not_eq_true, Bool.not_true, Bool.not_false, if_true, Bool.false_eq_true, if_false, true_and, and_true, Int.reduceNeg, Int.reduceLE, Int.reduceLT, Nat.reduceLeDiff, Nat.reduceLT, Int.zero_add, Nat.zero_add, Int.sub_zero, ite_true, ite_false, reduceIte, Bool.not_eq_eq_eq_not, snoc_int]
            refine ⟨by simp at hk; omega, _, _, _, _, _, rfl, hs, ?_, drOk_snoc hL drOk_mod2⟩
            rw [List.length_append]
            show L.length + 1 ≤ _
            omega
          · exact ⟨_, _, _, _, _, rfl, hs, by omega, hL⟩
        · rintro Γ' ⟨L, s, j1, j2, y, rfl, hs, hl, hL⟩
          exact ⟨_, _, _, _, _, rfl, hs, by simp at hl; omega, hL⟩
      · simp only [wE_var, wE_c, wE_bin, wE_un, wA_nil, wA_cons, wE_app, wE_call, wE_tup, wE_lst, wE_if, wE_isi, wE_sl, wR_oNo, wR_oAt, ex_int, ex_bl, ex_lst, ex_par, wB_val, wB_tru, wB_not, wB_and, wB_or, wB_yes, wE_and, wE_or, wE_not, wE_chain, nxQ_nx, nxQ_rt, nxQ_ct, nxQ_bk, wS_nil, wS_seq, wS_bk, wS_ct, wS_exp, wS_asg, wS_ret, wS_if, wS_aug, wS_asgG, wS_par, wS_app, wS_setix, wS_augix, wS_for, wA_seq, wA_rng, wE_lc, o_add_ii, o_add_ll, o_addI_ii, o_subI_ii, o_mul_ii, o_mulI_ii, o_mul_li, o_mulL_li, o_fdiv_ii, o_mod_ii, o_pow_ii, o_neg_i, o_cmp_ii, o_eq_ii, o_ne_ii, o_is_nn, o_is_in, o_not_nn, o_not_in, o_ix_lst, o_ix_tup, o_ix_scr, o_at, o_at_neg, o_set, tl_set, o_rng1, o_rng2, o_seq_lst, o_seq_tup, o_seq_scr, o_enum_lst, o_len_l, o_len_t, o_abs, o_max2, o_min2, o_int_i, o_int_b, o_list_l, o_list_s, o_list_t, o_sum_tl, o_tru_b, o_isi_int_i, o_isi_int_non, o_isi_bool_i, o_isi_list_l, o_gN, o_gT, o_gsNil, o_gsCons, o_cut_l, o_cut_s, tl_len, tl_cons, tl_snoc, enum_tl, wO_some, wR_ok, wR_of, lpQ_nx, lpQ_ct, List.getElem?_cons_zero, List.getElem?_cons_succ, List.set_cons_zero, List.set_cons_succ, List.length_cons, List.length_nil, List.length_map, List.length_range, List.cons_append, List.nil_append, List.replicate, Nat.reduceAdd, Nat.reduceSub, Int.toNat_natCast, decide_eq_true_eq, Bool.not_eq_true, Bool.not_true, Bool.not_false, if_true, Bool.false_eq_true, if_false, true_and, and_true, Int.reduceNeg, Int.reduceLE, Int.reduceLT, Nat.reduceLeDiff, Nat.reduceLT, Int.zero_add, Nat.zero_add, Int.sub_zero, ite_true, ite_false, reduceIte, Bool.not_eq_eq_eq_not, snoc_int]
        have : L.length < 1000000 := by omega
        refine ⟨.inr (by decide), by omega, _, _, _, _, _, rfl, sd_mod, ?_, drOk_snoc hL drOk_mod⟩
        rw [List.length_append]
        show L.length + 1 ≤ _
        omega
    · rintro Γ' ⟨L, s, j1, j2, j3, rfl, hs, hl, hL⟩
      have hl2 : L.length ≤ 3780 := by rw [List.length_take] at hl; omega
      simp only [wE_var, wE_c, wE_bin, wE_un, wA_nil, wA_cons, wE_app, wE_call, wE_tup, wE_lst, wE_if, wE_isi, wE_sl, wR_oNo, wR_oAt, ex_int, ex_bl, ex_lst, ex_par, wB_val, wB_tru, wB_not, wB_and, wB_or, wB_yes, wE_and, wE_or, wE_not, wE_chain, nxQ_nx, nxQ_rt, nxQ_ct, nxQ_bk, wS_nil, wS_seq, wS_bk, wS_ct, wS_exp, wS_asg, wS_ret, wS_if, wS_aug, wS_asgG, wS_par, wS_app, wS_setix, wS_augix, wS_for, wA_seq, wA_rng, wE_lc, o_add_ii, o_add_ll, o_addI_ii, o_subI_ii, o_mul_ii, o_mulI_ii, o_mul_li, o_mulL_li, o_fdiv_ii, o_mod_ii, o_pow_ii, o_neg_i, o_cmp_ii, o_eq_ii, o_ne_ii, o_is_nn, o_is_in, o_not_nn, o_not_in, o_ix_lst, o_ix_tup, o_ix_scr, o_at, o_at_neg, o_set, tl_set, o_rng1, o_rng2, o_seq_lst, o_seq_tup, o_seq_scr, o_enum_lst, o_len_l, o_len_t, o_abs, o_max2, o_min2, o_int_i, o_int_b, o_list_l, o_list_s, o_list_t, o_sum_tl, o_tru_b, o_isi_int_i, o_isi_int_non, o_isi_bool_i, o_isi_list_l, o_gN, o_gT, o_gsNil, o_gsCons, o_cut_l, o_cut_s, tl_len, tl_cons, tl_snoc, enum_tl, wO_some, wR_ok, wR_of, lpQ_nx, lpQ_ct, List.getElem?_cons_zero, List.getElem?_cons_succ, List.set_cons_zero, List.set_cons_succ, List.length_cons, List.length_nil, List.length_map, List.length_range, List.cons_append, List.nil_append, List.replicate, Nat.reduceAdd, Nat.reduceSub, Int.toNat_natCast, decide_eq_true_eq, Bool.not_eq_true, Bool.not_true, Bool.not_false, if_true, Bool.false_eq_true, if_false, true_and, and_true, Int.reduceNeg, Int.reduceLE, Int.reduceLT, Nat.reduceLeDiff, Nat.reduceLT, Int.zero_add, Nat.zero_add, Int.sub_zero, ite_true, ite_false, reduceIte, Bool.not_eq_eq_eq_not]
      refine ⟨by omega, wF_rng (fun k Γ => ∃ (L : List Int) (s : Int) (j1 j2 j3 : D), Γ = [.scr (ns.map .int), .int m, .lst (L.map .int), .int s, j1, j2, j3] ∧ (0 ≤ s ∧ s < 2147483647) ∧ L.length ≤ 3780 + k ∧ (k ≤ L.length ∨ m ≤ L.length) ∧ ∀ x ∈ L, drOk x) ⟨_, _, _, _, _, rfl, hs, hl2, .inl (by omega), hL⟩ ?_ ?_⟩
      · rintro k Γ hk ⟨L, s, j1, j2, j3, rfl, hs, hl, hk2, hL⟩
        simp only [wE_var, wE_c, wE_bin, wE_un, wA_nil, wA_cons, wE_app, wE_call, wE_tup, wE_lst, wE_if, wE_isi, wE_sl, wR_oNo, wR_oAt, ex_int, ex_bl, ex_lst, ex_par, wB_val, wB_tru, wB_not, wB_and, wB_or, wB_yes, wE_and, wE_or, wE_not, wE_chain, nxQ_nx, nxQ_rt, nxQ_ct, nxQ_bk, wS_nil, wS_seq, wS_bk, wS_ct, wS_exp, wS_asg, wS_ret, wS_if, wS_aug, wS_asgG, wS_par, wS_app, wS_setix, wS_augix, wS_for, wA_seq, wA_rng, wE_lc, o_add_ii, o_add_ll, o_addI_ii, o_subI_ii, o_mul_ii, o_mulI_ii, o_mul_li, o_mulL_li, o_fdiv_ii, o_mod_ii, o_pow_ii, o_neg_i, o_cmp_ii, o_eq_ii, o_ne_ii, o_is_nn, o_is_in, o_not_nn, o_not_in, o_ix_lst, o_ix_tup, o_ix_scr, o_at, o_at_neg, o_set, tl_set, o_rng1, o_rng2, o_seq_lst, o_seq_tup, o_seq_scr, o_enum_lst, o_len_l, o_len_t, o_abs, o_max2, o_min2, o_int_i, o_int_b, o_list_l, o_list_s, o_list_t, o_sum_tl, o_tru_b, o_isi_int_i, o_isi_int_non, o_isi_bool_i, o_isi_list_l, o_gN, o_gT, o_gsNil, o_gsCons, o_cut_l, o_cut_s, tl_len, tl_cons, tl_snoc, enum_tl, wO_some, wR_ok, wR_of, lpQ_nx, lpQ_ct, List.getElem?_cons_zero, List.getElem?_cons_succ, List.set_cons_zero, List.set_cons_succ, List.length_cons, List.length_nil, List.length_map, List.length_range, List.cons_append, List.nil_append, List.replicate, Nat.reduceAdd, Nat.reduceSub, Int.toNat_natCast, decide_eq_true_eq, Bool.not_eq_true, Bool.not_true, Bool.not_false, if_true, Bool.false_eq_true, if_false, true_and, and_true, Int.reduceNeg, Int.reduceLE, Int.reduceLT, Nat.reduceLeDiff, Nat.reduceLT, Int.zero_add, Nat.zero_add, Int.sub_zero, ite_true, ite_false, reduceIte, Bool.not_eq_eq_eq_not]
        split
        · simp only [wE_var, wE_c, wE_bin, wE_un, wA_nil, wA_cons, wE_app, wE_call, wE_tup, wE_lst, wE_if, wE_isi, wE_sl, wR_oNo, wR_oAt, ex_int, ex_bl, ex_lst, ex_par, wB_val, wB_tru, wB_not, wB_and, wB_or, wB_yes, wE_and, wE_or, wE_not, wE_chain, nxQ_nx, nxQ_rt, nxQ_ct, nxQ_bk, wS_nil, wS_seq, wS_bk, wS_ct, wS_exp, wS_asg, wS_ret, wS_if, wS_aug, wS_asgG, wS_par, wS_app, wS_setix, wS_augix, wS_for, wA_seq, wA_rng, wE_lc, o_add_ii, o_add_ll, o_addI_ii, o_subI_ii, o_mul_ii, o_mulI_ii, o_mul_li, o_mulL_li, o_fdiv_ii, o_mod_ii, o_pow_ii, o_neg_i, o_cmp_ii, o_eq_ii, o_ne_ii, o_is_nn, o_is_in, o_not_nn, o_not_in, o_ix_lst, o_ix_tup, o_ix_scr, o_at, o_at_neg, o_set, tl_set, o_rng1, o_rng2, o_seq_lst, o_seq_tup, o_seq_scr, o_enum_lst, o_len_l, o_len_t, o_abs, o_max2, o_min2, o_int_i, o_int_b, o_list_l, o_list_s, o_list_t, o_sum_tl, o_tru_b, o_isi_int_i, o_isi_int_non, o_isi_bool_i, o_isi_list_l, o_gN, o_gT, o_gsNil, o_gsCons, o_cut_l, o_cut_s, tl_len, tl_cons, tl_snoc, enum_tl, wO_some, wR_ok, wR_of, lpQ_nx, lpQ_ct, List.getElem?_cons_zero, List.getElem?_cons_succ, List.set_cons_zero, List.set_cons_succ, List.length_cons, List.length_nil, List.length_map, List.length_range, List.cons_append, List.nil_append, List.replicate, Nat.reduceAdd, Nat.reduceSub, Int.toNat_natCast, decide_eq_true_eq, Bool.not_eq_true, Bool.not_true, Bool.not_false, if_true, Bool.false_eq_true, if_false, true_and, and_true, Int.reduceNeg, Int.reduceLE, Int.reduceLT, Nat.reduceLeDiff, Nat.reduceLT, Int.zero_add, Nat.zero_add, Int.sub_zero, ite_true, ite_false, reduceIte, Bool.not_eq_eq_eq_not, snoc_int]
          refine ⟨.inr (by decide), by omega, _, _, _, _, _, rfl, sd_mod, ?_, ?_, drOk_snoc hL drOk_mod⟩
          · rw [List.length_append]
            show L.length + 1 ≤ _
            omega
          · rw [List.length_append]
            show _ ≤ L.length + 1 ∨ _ ≤ L.length + 1
            rcases hk2 with h | h
            · left; omega
            · right; omega
        · refine ⟨_, _, _, _, _, rfl, hs, by omega, ?_, hL⟩
          rename_i h
          right
          simp at h
          omega
      · rintro Γ' ⟨L, s, j1, j2, j3, rfl, hs, hl, hk2, hL⟩
        simp only [wE_var, wE_c, wE_bin, wE_un, wA_nil, wA_cons, wE_app, wE_call, wE_tup, wE_lst, wE_if, wE_isi, wE_sl, wR_oNo, wR_oAt, ex_int, ex_bl, ex_lst, ex_par, wB_val, wB_tru, wB_not, wB_and, wB_or, wB_yes, wE_and, wE_or, wE_not, wE_chain, nxQ_nx, nxQ_rt, nxQ_ct, nxQ_bk, wS_nil, wS_seq, wS_bk, wS_ct, wS_exp, wS_asg, wS_ret, wS_if, wS_aug, wS_asgG, wS_par, wS_app, wS_setix, wS_augix, wS_for, wA_seq, wA_rng, wE_lc, o_add_ii, o_add_ll, o_addI_ii, o_subI_ii, o_mul_ii, o_mulI_ii, o_mul_li, o_mulL_li, o_fdiv_ii, o_mod_ii, o_pow_ii, o_neg_i, o_cmp_ii, o_eq_ii, o_ne_ii, o_is_nn, o_is_in, o_not_nn, o_not_in, o_ix_lst, o_ix_tup, o_ix_scr, o_at, o_at_neg, o_set, tl_set, o_rng1, o_rng2, o_seq_lst, o_seq_tup, o_seq_scr, o_enum_lst, o_len_l, o_len_t, o_abs, o_max2, o_min2, o_int_i, o_int_b, o_list_l, o_list_s, o_list_t, o_sum_tl, o_tru_b, o_isi_int_i, o_isi_int_non, o_isi_bool_i, o_isi_list_l, o_gN, o_gT, o_gsNil, o_gsCons, o_cut_l, o_cut_s, tl_len, tl_cons, tl_snoc, enum_tl, wO_some, wR_ok, wR_of, lpQ_nx, lpQ_ct, List.getElem?_cons_zero, List.getElem?_cons_succ, List.set_cons_zero, List.set_cons_succ, List.length_cons, List.length_nil, List.length_map, List.length_range, List.cons_append, List.nil_append, List.replicate, Nat.reduceAdd, Nat.reduceSub, Int.toNat_natCast, decide_eq_true_eq, Bool.not_eq_true, Bool.not_true, Bool.not_false, if_true, Bool.false_eq_true, if_false, true_and, and_true, Int.reduceNeg, Int.reduceLE, Int.reduceLT, Nat.reduceLeDiff, Nat.reduceLT, Int.zero_add, Nat.zero_add, Int.sub_zero, ite_true, ite_false, reduceIte, Bool.not_eq_eq_eq_not, cutN]
        refine ⟨L.take m, by rw [List.map_take], by rw [List.length_take]; omega, fun x hx => hL x (List.mem_of_mem_take hx)⟩
  obtain ⟨fl, e, L, rfl, h⟩ := key
  refine ⟨L, ?_, h⟩
  unfold mOf
  rw [if_pos (show [D.scr (ns.map .int), D.int m].length = 2 from rfl), e]
end L2.DL
set_option Elab.async false
set_option linter.all false
set_option autoImplicit false
/-! SR: power series over a commutative ring: the ordinary product and the binomial one. -/
namespace L2.SR
open Lean.Grind
universe u
section
variable {R : Type u} [CommRing R]
def cmul (f g : Nat → R) : Nat → R
  | 0 => f 0 * g 0
  | n + 1 => f 0 * g (n + 1) + cmul (fun i => f (i + 1)) g n
theorem cmul_r (f g : Nat → R) (n : Nat) : cmul f g (n + 1) = cmul f (fun i => g (i + 1)) n + f (n + 1) * g 0 := by
  induction n generalizing f with
  | zero => simp only [cmul]
  | succ n ih =>
    rw [cmul, ih]
    simp only [cmul]
    grind
theorem cmul_comm (f g : Nat → R) (n : Nat) : cmul f g n = cmul g f n := by
  induction n generalizing f with
  | zero => simp only [cmul]; grind
  | succ n ih => rw [cmul, cmul_r, ih]; grind
theorem cmul_add (f g h : Nat → R) (n : Nat) : cmul (fun i => f i + g i) h n = cmul f h n + cmul g h n := by
  induction n generalizing f g with
  | zero => simp only [cmul]; grind
  | succ n ih => simp only [cmul]; rw [ih]; grind
theorem cmul_smul (c : R) (g h : Nat → R) (n : Nat) : cmul (fun i => c * g i) h n = c * cmul g h n := by
  induction n generalizing g with
  | zero => simp only [cmul]; grind
  | succ n ih => simp only [cmul]; rw [ih]; grind
theorem cmul_assoc (f g h : Nat → R) (n : Nat) : cmul (cmul f g) h n = cmul f (cmul g h) n := by
  induction n generalizing f with
  | zero => simp only [cmul]; grind
  | succ n ih =>
    rw [cmul]
    have e : (fun i => cmul f g (i + 1)) = fun i => (f 0 * g (i + 1)) + cmul (fun i => f (i + 1)) g i := by funext i; rw [cmul]
    rw [e, cmul_add, cmul_smul, ih]
    simp only [cmul]
    grind
theorem cmul_zero (g : Nat → R) (n : Nat) : cmul (fun _ => 0) g n = 0 := by
  induction n with
  | zero => simp only [cmul]; grind
  | succ n ih => simp only [cmul]; rw [ih]; grind
/-- one -/
def cone : Nat → R
  | 0 => 1
  | _ => 0
theorem cmul_one (g : Nat → R) (n : Nat) : cmul cone g n = g n := by
  cases n with
  | zero => simp only [cmul, cone]; grind
  | succ n =>
    rw [cmul]
    have e : (fun i => (cone : Nat → R) (i + 1)) = fun _ => 0 := by funext i; rfl
    rw [e, cmul_zero]
    simp only [cone]; grind
end
/-- series -/
structure Ser (R : Type u) where
  co : Nat → R
namespace Ser
theorem ext' {R : Type u} {f g : Ser R} (h : ∀ n, f.co n = g.co n) : f = g := by
  cases f; cases g
  congr 1
  funext n
  exact h n
end Ser
section
variable {R : Type u} [CommRing R]
def sadd (f g : Ser R) : Ser R := ⟨fun n => f.co n + g.co n⟩
def smul (f g : Ser R) : Ser R := ⟨cmul f.co g.co⟩
def sneg (f : Ser R) : Ser R := ⟨fun n => - f.co n⟩
def szero : Ser R := ⟨fun _ => 0⟩
def sone : Ser R := ⟨cone⟩
def snat : Nat → Ser R
  | 0 => szero
  | n + 1 => sadd (snat n) sone
def sint : Int → Ser R
  | .ofNat n => snat n
  | .negSucc n => sneg (snat (n + 1))
theorem sneg_zero : sneg (szero : Ser R) = szero := Ser.ext' fun n => by show -(0 : R) = 0; grind
theorem sneg_neg (f : Ser R) : sneg (sneg f) = f := Ser.ext' fun n => by show - - f.co n = f.co n; grind
theorem smul_comm (f g : Ser R) : smul f g = smul g f := Ser.ext' fun n => cmul_comm f.co g.co n
theorem smul_one (f : Ser R) : smul f sone = f := Ser.ext' fun n => by
  show cmul f.co cone n = f.co n
  rw [cmul_comm, cmul_one]
theorem smul_zero (f : Ser R) : smul f szero = szero := Ser.ext' fun n => by
  show cmul f.co (fun _ => 0) n = 0
  rw [cmul_comm, cmul_zero]
theorem sneg_smul (f g : Ser R) : smul (sneg f) g = sneg (smul f g) := Ser.ext' fun n => by
  show cmul (fun i => - f.co i) g.co n = - cmul f.co g.co n
  have e : (fun i => - f.co i) = fun i => (-1) * f.co i := by funext i; grind
  rw [e, cmul_smul]; grind
theorem sint_neg (i : Int) : sint (R := R) (-i) = sneg (sint i) := by
  cases i with
  | ofNat n =>
    cases n with
    | zero => exact sneg_zero.symm
    | succ n => rfl
  | negSucc n => exact (sneg_neg _).symm
end
instance serRing {R : Type u} [CommRing R] : CommRing (Ser R) where
  add := sadd
  mul := smul
  neg := sneg
  sub f g := sadd f (sneg g)
  natCast := ⟨snat⟩
  intCast := ⟨sint⟩
  ofNat k := ⟨snat k⟩
  nsmul := ⟨fun k f => smul (snat k) f⟩
  zsmul := ⟨fun k f => smul (sint k) f⟩
  npow := ⟨fun f k => Nat.rec (snat 1) (fun _ r => smul r f) k⟩
  add_zero f := Ser.ext' fun n => by show f.co n + (0 : R) = f.co n; grind
  add_comm f g := Ser.ext' fun n => by show f.co n + g.co n = g.co n + f.co n; grind
  add_assoc f g h := Ser.ext' fun n => by show f.co n + g.co n + h.co n = f.co n + (g.co n + h.co n); grind
  mul_assoc f g h := Ser.ext' fun n => cmul_assoc f.co g.co h.co n
  mul_comm f g := smul_comm f g
  mul_one f := by
    have e : (snat 1 : Ser R) = sone := Ser.ext' fun n => by show (0 : R) + cone n = cone n; grind
    show smul f (snat 1) = f
    rw [e, smul_one]
  one_mul f := by
    have e : (snat 1 : Ser R) = sone := Ser.ext' fun n => by show (0 : R) + cone n = cone n; grind
    show smul (snat 1) f = f
    rw [e, smul_comm, smul_one]
  left_distrib f g h := Ser.ext' fun n => by
    show cmul f.co (fun i => g.co i + h.co i) n = cmul f.co g.co n + cmul f.co h.co n
    rw [cmul_comm, cmul_add, cmul_comm, cmul_comm h.co]
  right_distrib f g h := Ser.ext' fun n => cmul_add f.co g.co h.co n
  zero_mul f := by
    show smul szero f = szero
    rw [smul_comm, smul_zero]
  mul_zero f := smul_zero f
  pow_zero f := rfl
  pow_succ f n := rfl
  ofNat_succ k := by
    have e : (snat 1 : Ser R) = sone := Ser.ext' fun n => by show (0 : R) + cone n = cone n; grind
    show sadd (snat k) sone = sadd (snat k) (snat 1)
    rw [e]
  ofNat_eq_natCast k := rfl
  nsmul_eq_natCast_mul k f := rfl
  neg_add_cancel f := Ser.ext' fun n => by show - f.co n + f.co n = (0 : R); grind
  sub_eq_add_neg f g := rfl
  intCast_ofNat k := rfl
  intCast_neg k := sint_neg k
  zsmul_natCast_eq_nsmul k f := rfl
  neg_zsmul k f := by
    show smul (sint (-k)) f = sneg (smul (sint k) f)
    rw [sint_neg, sneg_smul]
end L2.SR
set_option Elab.async false
set_option linter.all false
set_option autoImplicit false
/-! SB: sums, binomials, the binomial product. -/
namespace L2.SR
open Lean.Grind
section
def sn (n : Nat) (h : Nat → Int) : Int := match n with
  | 0 => 0
  | n + 1 => sn n h + h n
theorem sn_front (n : Nat) (h : Nat → Int) : sn (n + 1) h = h 0 + sn n fun i => h (i + 1) := by
  induction n with
  | zero => simp only [sn]; omega
  | succ n ih => rw [sn, ih]; simp only [sn]; omega
theorem sn_congr {n : Nat} {h k : Nat → Int} (e : ∀ i, i < n → h i = k i) : sn n h = sn n k := by
  induction n with
  | zero => rfl
  | succ n ih => rw [sn, sn, ih fun i hi => e i (by omega), e n (by omega)]
theorem sn_add (n : Nat) (h k : Nat → Int) : sn n (fun i => h i + k i) = sn n h + sn n k := by
  induction n with
  | zero => rfl
  | succ n ih => simp only [sn]; rw [ih]; omega
theorem sn_mul (n : Nat) (c : Int) (h : Nat → Int) : sn n (fun i => c * h i) = c * sn n h := by
  induction n with
  | zero => simp only [sn]; omega
  | succ n ih => simp only [sn]; rw [ih]; grind
theorem sn_zero (n : Nat) {h : Nat → Int} (e : ∀ i, i < n → h i = 0) : sn n h = 0 := by
  induction n with
  | zero => rfl
  | succ n ih => rw [sn, ih fun i hi => e i (by omega), e n (by omega)]; rfl
/-- binomials -/
def ch : Nat → Nat → Nat
  | _, 0 => 1
  | 0, _ + 1 => 0
  | n + 1, k + 1 => ch n k + ch n (k + 1)
theorem ch_zero (n : Nat) : ch n 0 = 1 := by cases n <;> rfl
theorem ch_gt {n k : Nat} (h : n < k) : ch n k = 0 := by
  induction n generalizing k with
  | zero => cases k with
    | zero => omega
    | succ k => rfl
  | succ n ih => cases k with
    | zero => omega
    | succ k => rw [ch, ih (by omega), ih (by omega)]
theorem ch_self (n : Nat) : ch n n = 1 := by
  induction n with
  | zero => rfl
  | succ n ih => rw [ch, ih, ch_gt (by omega)]
/-- (k+1) C(n,k+1) = (n-k) C(n,k) -/
theorem ch_step {n k : Nat} (h : k ≤ n) : (k + 1) * ch n (k + 1) = (n - k) * ch n k := by
  induction n generalizing k with
  | zero =>
    have e : k = 0 := by omega
    subst e; rfl
  | succ n ih =>
    cases k with
    | zero =>
      have e : ∀ n, ch n 1 = n := by
        intro n
        induction n with
        | zero => rfl
        | succ n ih => rw [ch, ih, ch_zero]; omega
      rw [e, ch_zero]; omega
    | succ k =>
      rw [ch, ch]
      have h1 := ih (k := k) (by omega)
      by_cases hk : k + 1 ≤ n
      · have h2 := ih (k := k + 1) hk
        obtain ⟨m, rfl⟩ : ∃ m, n = k + 1 + m := ⟨n - (k + 1), by omega⟩
        have e1 : k + 1 + m - k = m + 1 := by omega
        have e2 : k + 1 + m - (k + 1) = m := by omega
        have e3 : k + 1 + m + 1 - (k + 1) = m + 1 := by omega
        rw [e1] at h1
        rw [e2] at h2
        rw [e3]
        generalize ch (k + 1 + m) k = a at *
        generalize ch (k + 1 + m) (k + 1) = b at *
        generalize ch (k + 1 + m) (k + 1 + 1) = c at *
        grind
      · have e : n = k := by omega
        subst e
        rw [ch_gt (show n < n + 1 by omega), ch_gt (show n < n + 1 + 1 by omega)]
        simp
/-- the binomial product -/
def bmul : (f g : Nat → Int) → Nat → Int
  | f, g, 0 => f 0 * g 0
  | f, g, n + 1 => bmul (fun i => f (i + 1)) g n + bmul f (fun i => g (i + 1)) n
theorem bmul_comm (f g : Nat → Int) (n : Nat) : bmul f g n = bmul g f n := by
  induction n generalizing f g with
  | zero => simp only [bmul]; grind
  | succ n ih => rw [bmul, bmul, ih, ih f]; omega
theorem bmul_add (f g h : Nat → Int) (n : Nat) : bmul (fun i => f i + g i) h n = bmul f h n + bmul g h n := by
  induction n generalizing f g h with
  | zero => simp only [bmul]; grind
  | succ n ih => simp only [bmul]; rw [ih, ih f g]; omega
theorem bmul_smul (c : Int) (g h : Nat → Int) (n : Nat) : bmul (fun i => c * g i) h n = c * bmul g h n := by
  induction n generalizing g h with
  | zero => simp only [bmul]; grind
  | succ n ih => simp only [bmul]; rw [ih, ih g]; grind
theorem bmul_assoc (f g h : Nat → Int) (n : Nat) : bmul (bmul f g) h n = bmul f (bmul g h) n := by
  induction n generalizing f g h with
  | zero => simp only [bmul]; grind
  | succ n ih =>
    rw [bmul, bmul]
    have e : (fun i => bmul f g (i + 1)) = fun i => bmul (fun i => f (i + 1)) g i + bmul f (fun i => g (i + 1)) i := by funext i; rw [bmul]
    have e2 : (fun i => bmul g h (i + 1)) = fun i => bmul (fun i => g (i + 1)) h i + bmul g (fun i => h (i + 1)) i := by funext i; rw [bmul]
    rw [e, bmul_add, ih, ih, ih, e2, bmul_comm f (fun i => _ + _), bmul_add, bmul_comm _ f, bmul_comm _ f]
    omega
theorem cmul_sn (f g : Nat → Int) (n : Nat) : cmul f g n = sn (n + 1) fun k => f k * g (n - k) := by
  induction n generalizing f with
  | zero => simp [cmul, sn]
  | succ n ih =>
    rw [cmul, sn_front, ih]
    congr 1
    refine sn_congr fun i hi => ?_
    congr 2
    omega
theorem bmul_sn (f g : Nat → Int) (n : Nat) : bmul f g n = sn (n + 1) fun k => ch n k * (f k * g (n - k)) := by
  induction n generalizing f g with
  | zero => simp [bmul, sn, ch]
  | succ n ih =>
    rw [bmul, ih, ih, sn_front (n + 1)]
    have e1 : (sn (n + 1) fun i => (ch (n + 1) (i + 1) : Int) * (f (i + 1) * g (n + 1 - (i + 1)))) = (sn (n + 1) fun i => ch n i * (f (i + 1) * g (n - i))) + sn (n + 1) fun i => ch n (i + 1) * (f (i + 1) * g (n - i)) := by
      rw [← sn_add]
      refine sn_congr fun i hi => ?_
      have : n + 1 - (i + 1) = n - i := by omega
      rw [this, ch, Int.natCast_add]
      grind
    rw [e1]
    have e2 : (sn (n + 1) fun k => (ch n k : Int) * (f k * g (n - k + 1))) = f 0 * g (n + 1) + sn (n + 1) fun i => ch n (i + 1) * (f (i + 1) * g (n - i)) := by
      rw [sn_front n, sn, ch_gt (show n < n + 1 by omega), ch_zero]
      have : (sn n fun i => (ch n (i + 1) : Int) * (f (i + 1) * g (n - (i + 1) + 1))) = sn n fun i => ch n (i + 1) * (f (i + 1) * g (n - i)) := by
        refine sn_congr fun i hi => ?_
        have : n - (i + 1) + 1 = n - i := by omega
        rw [this]
      rw [this]
      simp
    rw [e2, ch_zero]
    simp only [Nat.sub_zero]
    grind
/-- powers by a product -/
def pwr (mul : (Nat → Int) → (Nat → Int) → Nat → Int) (a : Nat → Int) : Nat → Nat → Int
  | 0 => cone
  | m + 1 => mul (pwr mul a m) a
theorem bmul_one (f : Nat → Int) (n : Nat) : bmul cone f n = f n := by
  induction n generalizing f with
  | zero => simp [bmul, cone]
  | succ n ih =>
    rw [bmul, ih]
    have e : (fun i => (cone : Nat → Int) (i + 1)) = fun _ => (0 : Int) * 0 := by funext i; simp [cone]
    rw [e, bmul_smul]; simp
/-- the derivative of a power -/
theorem pwr_der (a : Nat → Int) (m n : Nat) : pwr bmul a (m + 1) (n + 1) = (m + 1 : Nat) * bmul (fun i => a (i + 1)) (pwr bmul a m) n := by
  induction m generalizing n with
  | zero =>
    have e : pwr bmul a (0 + 1) = a := by funext i; exact bmul_one a i
    rw [e]
    show a (n + 1) = _
    rw [bmul_comm]
    show a (n + 1) = ((0 + 1 : Nat) : Int) * bmul cone (fun i => a (i + 1)) n
    rw [bmul_one]; simp
  | succ m ih =>
    rw [pwr, bmul]
    have e : (fun i => pwr bmul a (m + 1) (i + 1)) = fun i => ((m + 1 : Nat) : Int) * bmul (fun i => a (i + 1)) (pwr bmul a m) i := by funext i; exact ih i
    rw [e, bmul_smul, bmul_assoc, bmul_comm (pwr bmul a (m + 1))]
    show ((m + 1 : Nat) : Int) * bmul _ (pwr bmul a (m + 1)) n + _ = _
    rw [Int.natCast_add (m + 1) 1]
    grind
end
end L2.SR
set_option Elab.async false
set_option linter.all false
set_option autoImplicit false
/-! SC: series of series: Euler's derivation, bags by size. -/
namespace L2.SR
open Lean.Grind
universe u
section
variable {R : Type u} [CommRing R]
def nsm : Nat → R → R
  | 0, _ => 0
  | n + 1, r => nsm n r + r
theorem nsm_add (n : Nat) (a b : R) : nsm n (a + b) = nsm n a + nsm n b := by
  induction n with
  | zero => simp only [nsm]; grind
  | succ n ih => simp only [nsm]; rw [ih]; grind
theorem nsm_mul (n : Nat) (a b : R) : nsm n (a * b) = nsm n a * b := by
  induction n with
  | zero => simp only [nsm]; grind
  | succ n ih => simp only [nsm]; rw [ih]; grind
/-- m times the m-th -/
def eul (f : Nat → R) : Nat → R := fun n => nsm n (f n)
theorem eul_mul (f g : Nat → R) (n : Nat) : eul (cmul f g) n = cmul (eul f) g n + cmul f (eul g) n := by
  induction n generalizing f with
  | zero => simp only [eul, nsm, cmul]; grind
  | succ n ih =>
    have e : (fun i => eul f (i + 1)) = fun i => eul (fun i => f (i + 1)) i + f (i + 1) := by funext i; simp only [eul, nsm]
    have h := ih fun i => f (i + 1)
    simp only [eul] at h
    rw [cmul, cmul, e, cmul_add]
    simp only [eul, nsm]
    rw [cmul]
    have h2 : nsm n (f 0 * g (n + 1) + cmul (fun i => f (i + 1)) g n) = f 0 * nsm n (g (n + 1)) + nsm n (cmul (fun i => f (i + 1)) g n) := by
      rw [nsm_add]
      have : f 0 * g (n + 1) = g (n + 1) * f 0 := by grind
      rw [this, nsm_mul]
      grind
    rw [h2, h]
    grind
theorem cmul_congr {f f' g g' : Nat → R} {n : Nat} (hf : ∀ i, i ≤ n → f i = f' i) (hg : ∀ i, i ≤ n → g i = g' i) : cmul f g n = cmul f' g' n := by
  induction n generalizing f f' with
  | zero => simp only [cmul]; rw [hf 0 (by omega), hg 0 (by omega)]
  | succ n ih =>
    rw [cmul, cmul, hf 0 (by omega), hg (n + 1) (by omega), ih (fun i hi => hf (i + 1) (by omega)) (fun i hi => hg i (by omega))]
end
/-- c at k -/
def mon (k : Nat) (c : Int) : Ser Int := ⟨fun x => if x = k then c else 0⟩
theorem mon_mul (k : Nat) (c : Int) (g : Nat → Int) (x : Nat) : cmul (mon k c).co g x = if k ≤ x then c * g (x - k) else 0 := by
  rw [cmul_sn]
  by_cases h : k ≤ x
  · rw [if_pos h]
    have : ∀ n, k < n → sn n (fun j => (mon k c).co j * g (x - j)) = c * g (x - k) := by
      intro n hn
      induction n with
      | zero => omega
      | succ n ih =>
        rw [sn]
        by_cases e : n = k
        · subst e
          rw [sn_zero n fun i hi => by show (if i = n then c else 0) * _ = 0; rw [if_neg (by omega)]; simp]
          show 0 + (if n = n then c else 0) * _ = _
          rw [if_pos rfl]; simp
        · rw [ih (by omega)]
          show _ + (if n = k then c else 0) * _ = _
          rw [if_neg e]; simp
    exact this _ (by omega)
  · rw [if_neg h]
    refine sn_zero _ fun i hi => ?_
    show (if i = k then c else 0) * _ = 0
    rw [if_neg (by omega)]; simp
theorem mon_mon (k l : Nat) (c d : Int) : mon k c * mon l d = mon (k + l) (c * d) := Ser.ext' fun x => by
  show cmul (mon k c).co (mon l d).co x = _
  rw [mon_mul]
  simp only [mon]
  by_cases h : k ≤ x
  · rw [if_pos h]
    by_cases h2 : x - k = l
    · rw [if_pos h2, if_pos (by omega)]
    · rw [if_neg h2, if_neg (by omega)]; simp
  · rw [if_neg h, if_neg (by omega)]
theorem mon_add (k : Nat) (c d : Int) : mon k c + mon k d = mon k (c + d) := Ser.ext' fun x => by
  show (if x = k then c else 0) + (if x = k then d else 0) = if x = k then c + d else 0
  split <;> simp
theorem mon_cmul (s k : Nat) (a b : Nat → Int) (u : Nat) : cmul (fun t => mon ((t + k) * s) (a t)) (fun t => mon (t * s) (b t)) u = mon ((u + k) * s) (cmul a b u) := by
  induction u generalizing a k with
  | zero => rw [cmul, cmul, mon_mon]; congr 1; omega
  | succ u ih =>
    rw [cmul, cmul, mon_mon]
    have e : (fun i => mon ((i + 1 + k) * s) (a (i + 1))) = fun i => mon ((i + (k + 1)) * s) (a (i + 1)) := by
      funext i
      rw [show i + 1 + k = i + (k + 1) by omega]
    rw [e, ih (k + 1) (fun i => a (i + 1)), show u + (k + 1) = u + 1 + k by omega, show (0 + k) * s + (u + 1) * s = (u + 1 + k) * s by rw [← Nat.add_mul]; congr 1; omega, mon_add]
theorem mon_nsm (n k : Nat) (c : Int) : nsm n (mon k c) = mon k (n * c) := by
  induction n with
  | zero => exact Ser.ext' fun x => by show (0 : Int) = if x = k then ((0 : Nat) : Int) * c else 0; split <;> simp
  | succ n ih => rw [nsm, ih, mon_add]; congr 1; grind
theorem ch_absorb (n k : Nat) : (k + 1) * ch (n + 1) (k + 1) = (n + 1) * ch n k := by
  by_cases h : k ≤ n
  · have := ch_step h
    rw [ch, Nat.mul_add, this, ← Nat.add_mul]
    congr 1; omega
  · rw [ch_gt (show n < k by omega), ch_gt (show n + 1 < k + 1 by omega)]; simp
/-- multisets of t of a kinds -/
def mc (a t : Nat) : Int := ch (a + t - 1) t
theorem mc_step (a u : Nat) : ((u + 1 : Nat) : Int) * mc a (u + 1) = (a + u : Nat) * mc a u := by
  unfold mc
  by_cases h : a + u = 0
  · have h1 : a = 0 := by omega
    have h2 : u = 0 := by omega
    subst h1; subst h2
    rfl
  · have h1 := ch_absorb (a + u - 1) u
    rw [show a + u - 1 + 1 = a + u by omega] at h1
    rw [show a + (u + 1) - 1 = a + u by omega]
    have h2 := congrArg (fun z : Nat => (z : Int)) h1
    simp only [Int.natCast_mul] at h2
    exact h2
def qa (a : Int) (t : Nat) : Int := if t = 0 then 0 else a
theorem mc_eul (a u : Nat) : (u : Int) * mc a u = cmul (qa a) (mc a) u := by
  have e : ∀ u, cmul (qa a) (mc a) u = a * sn u (mc a) := by
    intro u
    rw [cmul_comm, cmul_sn, sn, show qa a (u - u) = 0 by simp [qa]]
    rw [sn_congr (k := fun k => a * mc a k) fun i hi => by simp only [qa]; rw [if_neg (by omega)]; grind]
    rw [sn_mul]; simp
  rw [e]
  induction u with
  | zero => simp [sn]
  | succ u ih =>
    rw [mc_step, sn]
    have : ((a + u : Nat) : Int) = a + u := by omega
    rw [this]
    grind
/-- the bags of points of the sizes 1 to s, by their number and the points in them -/
def bag (a : Nat → Nat) : Nat → Nat → Ser Int
  | 0 => fun m => if m = 0 then 1 else 0
  | s + 1 => cmul (bag a s) fun t => mon (t * (s + 1)) (mc (a (s + 1)) t)
def ps (a : Nat → Nat) : Nat → Nat → Ser Int
  | 0 => fun _ => 0
  | s + 1 => fun t => ps a s t + mon (t * (s + 1)) (qa (a (s + 1)) t)
theorem bag_eul (a : Nat → Nat) (s m : Nat) : eul (bag a s) m = cmul (ps a s) (bag a s) m := by
  induction s generalizing m with
  | zero =>
    have e : ps a 0 = fun _ => 0 := rfl
    rw [e, cmul_zero]
    simp only [eul, bag]
    cases m with
    | zero => rfl
    | succ m =>
      rw [if_neg (by omega)]
      have : ∀ n, nsm n (0 : Ser Int) = 0 := by
        intro n
        induction n with
        | zero => rfl
        | succ n ih => rw [nsm, ih]; grind
      exact this _
  | succ s ih =>
    have e1 : eul (bag a s) = cmul (ps a s) (bag a s) := by funext m; exact ih m
    have e2 : eul (fun t => mon (t * (s + 1)) (mc (a (s + 1)) t)) = cmul (fun t => mon (t * (s + 1)) (qa (a (s + 1)) t)) (fun t => mon (t * (s + 1)) (mc (a (s + 1)) t)) := by
      funext u
      have h := mon_cmul (s + 1) 0 (qa (a (s + 1))) (mc (a (s + 1))) u
      simp only [Nat.add_zero] at h
      rw [h, ← mc_eul]
      simp only [eul]
      rw [mon_nsm]
    rw [bag, eul_mul, e1, e2]
    have e3 : ps a (s + 1) = fun t => ps a s t + mon (t * (s + 1)) (qa (a (s + 1)) t) := rfl
    rw [e3, cmul_add, cmul_assoc]
    congr 1
    rw [← cmul_assoc, ← cmul_assoc]
    have e4 : cmul (bag a s) (fun t => mon (t * (s + 1)) (qa (a (s + 1)) t)) = cmul (fun t => mon (t * (s + 1)) (qa (a (s + 1)) t)) (bag a s) := by funext i; exact cmul_comm _ _ _
    rw [e4]
theorem co_cmul (F G : Nat → Ser Int) (m x : Nat) : (cmul F G m).co x = sn (m + 1) fun t => cmul (F t).co (G (m - t)).co x := by
  induction m generalizing F with
  | zero =>
    show cmul (F 0).co (G 0).co x = _
    simp [sn]
  | succ m ih =>
    rw [cmul, sn_front]
    show cmul (F 0).co (G (m + 1)).co x + (cmul (fun i => F (i + 1)) G m).co x = _
    rw [ih]
    congr 1
    refine sn_congr fun i hi => ?_
    rw [show m + 1 - (i + 1) = m - i by omega]
theorem nsm_co (n : Nat) (f : Ser Int) (x : Nat) : (nsm n f).co x = n * f.co x := by
  induction n with
  | zero => show (0 : Int) = _; simp
  | succ n ih =>
    show (nsm n f).co x + f.co x = _
    rw [ih]; grind
theorem ps_co (a : Nat → Nat) (s t x : Nat) (ht : 1 ≤ t) (ha : a 0 = 0) (hx : x ≤ s) : (ps a s t).co x = if x % t = 0 then (a (x / t) : Int) else 0 := by
  have key : ∀ s, (ps a s t).co x = if x % t = 0 ∧ x / t ≤ s then (a (x / t) : Int) else 0 := by
    intro s
    induction s with
    | zero =>
      show (0 : Int) = _
      split
      · rename_i h
        rw [Nat.le_zero.mp h.2, ha]; rfl
      · rfl
    | succ s ih =>
      show (ps a s t).co x + (if x = t * (s + 1) then qa (a (s + 1)) t else 0) = _
      rw [ih]
      by_cases h : x = t * (s + 1)
      · have h1 : x / t = s + 1 := by rw [h, Nat.mul_div_cancel_left _ (by omega)]
        have h2 : x % t = 0 := by rw [h, Nat.mul_mod_right]
        rw [if_pos h, h1, h2, if_neg (by omega), if_pos (by omega), qa, if_neg (by omega)]; simp
      · rw [if_neg h]
        have h3 : (x % t = 0 ∧ x / t ≤ s) = (x % t = 0 ∧ x / t ≤ s + 1) := by
          rw [eq_iff_iff]
          constructor
          · rintro ⟨h1, h2⟩; exact ⟨h1, by omega⟩
          · rintro ⟨h1, h2⟩
            refine ⟨h1, ?_⟩
            by_cases h4 : x / t = s + 1
            · exfalso
              apply h
              have := Nat.div_add_mod x t
              rw [h4] at this
              omega
            · omega
        simp only [h3]
        simp
  rw [key]
  have h : x / t ≤ s := Nat.le_trans (Nat.div_le_self _ _) hx
  have e : (x % t = 0 ∧ x / t ≤ s) = (x % t = 0) := by rw [eq_iff_iff]; exact ⟨fun z => z.1, fun z => ⟨z, h⟩⟩
  simp only [e]
/-- Newton -/
theorem bag_newton (a : Nat → Nat) (s m x : Nat) (ha : a 0 = 0) (hx : x ≤ s) : (m : Int) * (bag a s m).co x = sn m fun t => cmul (fun y => if y % (t + 1) = 0 then (a (y / (t + 1)) : Int) else 0) (bag a s (m - (t + 1))).co x := by
  have h := congrArg (fun z : Ser Int => z.co x) (bag_eul a s m)
  simp only [eul] at h
  rw [nsm_co, co_cmul, sn_front] at h
  rw [h]
  have h0 : cmul (ps a s 0).co (bag a s (m - 0)).co x = 0 := by
    have : (ps a s 0).co = fun _ => 0 := by
      funext y
      induction s with
      | zero => rfl
      | succ s ih =>
        show (ps a s 0).co y + (if y = 0 * (s + 1) then qa (a (s + 1)) 0 else 0) = 0
        have e : ∀ s y, (ps a s 0).co y = 0 := by
          intro s
          induction s with
          | zero => intro y; rfl
          | succ s ih =>
            intro y
            show (ps a s 0).co y + (if y = 0 * (s + 1) then qa (a (s + 1)) 0 else 0) = 0
            rw [ih]; simp [qa]
        rw [e]; simp [qa]
    rw [this, cmul_zero]
  rw [h0, Int.zero_add]
  refine sn_congr fun t ht => ?_
  refine cmul_congr (fun y hy => ps_co a s (t + 1) y (by omega) ha (by omega)) fun _ _ => rfl
/-- the law's way -/
theorem bag_succ (a : Nat → Nat) (s m x : Nat) : (bag a (s + 1) m).co x = sn (m + 1) fun t => if t * (s + 1) ≤ x then (bag a s (m - t)).co (x - t * (s + 1)) * mc (a (s + 1)) t else 0 := by
  rw [bag, cmul_comm, co_cmul]
  refine sn_congr fun t ht => ?_
  rw [mon_mul]
  split
  · rw [Int.mul_comm]
  · rfl
end L2.SR
set_option Elab.async false
set_option linter.all false
set_option maxRecDepth 100000
set_option autoImplicit false
namespace L2.DL.K20
open PySem PySem.Spec PyProof.Rows L2 L2.DL
def b_is_whole : SF := (sRet (eAnd (eIsi "int" (eVar 0)) (eAnd (eNot (eIsi "bool" (eVar 0))) (eBin geI (eVar 0) (eC (.int 0))))))
def m_is_whole : List D → R D := mOf 1 0 b_is_whole
def b_are_counts : SF := (sRet (eAnd (eIsi "list" (eVar 0)) (eAnd (eChain leI leI (eC (.int 1)) (eApp lenD (aCons (eVar 0) aNil)) (eC (.int 61))) (eApp allD (aCons (eLc (iSeq (eVar 0)) (gN 1) bYes (eCall m_is_whole (aCons (eVar 1) aNil))) aNil)))))
def m_are_counts : List D → R D := mOf 1 1 b_are_counts
def b_binomials : SF := (sSeq (sAsg 1 (eLst (aCons (eLst (aCons (eC (.int 1)) aNil)) aNil))) (sSeq (sFor (iRng rng1D (aCons (eVar 0) aNil)) (gN 2) (sSeq (sAsg 3 (eBin ixD (eVar 1) (eUn negI (eC (.int 1))))) (sApp 1 (eBin addA (eBin addA (eLst (aCons (eC (.int 1)) aNil)) (eLc (iRng rng1D (aCons (eBin subI (eApp lenD (aCons (eVar 3) aNil)) (eC (.int 1))) aNil)) (gN 4) bYes (eBin addA (eBin ixD (eVar 3) (eVar 4)) (eBin ixD (eVar 3) (eBin addA (eVar 4) (eC (.int 1))))))) (eLst (aCons (eC (.int 1)) aNil)))))) (sRet (eVar 1))))
def m_binomials : List D → R D := mOf 1 4 b_binomials
def b_totients : SF := (sSeq (sAsg 1 (eLstRg (rg1 (eBin addA (eVar 0) (eC (.int 1)))))) (sSeq (sFor (iRng rng2D (aCons (eC (.int 2)) (aCons (eBin addA (eVar 0) (eC (.int 1))) aNil))) (gN 2) (sIf (bVal (eBin eqD (eBin ixD (eVar 1) (eVar 2)) (eVar 2))) (sFor (iRng rng3D (aCons (eVar 2) (aCons (eBin addA (eVar 0) (eC (.int 1))) (aCons (eVar 2) aNil)))) (gN 3) (sSetIx 1 (eVar 3) (eBin mulA (eBin fdivI (eBin ixD (eVar 1) (eVar 3)) (eVar 2)) (eBin subI (eVar 2) (eC (.int 1)))))) sNil)) (sRet (eVar 1))))
def m_totients : List D → R D := mOf 1 3 b_totients
def b_product : SF := (sSeq (sAsg 3 (eIf (bTru (eVar 2)) (eCall m_binomials (aCons (eBin subI (eApp lenD (aCons (eVar 0) aNil)) (eC (.int 1))) aNil)) (eLst aNil))) (sSeq (sAsg 4 (eBin mulL (eLst (aCons (eC (.int 0)) aNil)) (eApp lenD (aCons (eVar 0) aNil)))) (sSeq (sFor (iRng enumD (aCons (eVar 0) aNil)) (gT (gsCons (gN 5) (gsCons (gN 6) gsNil))) (sSeq (sIf (bVal (eBin eqD (eVar 6) (eC (.int 0)))) sCt sNil) (sFor (iRng rng1D (aCons (eBin subI (eApp lenD (aCons (eVar 0) aNil)) (eVar 5)) aNil)) (gN 7) (sSeq (sAsg 8 (eBin mulA (eVar 6) (eBin ixD (eVar 1) (eVar 7)))) (sAugIx 4 (eBin addA (eVar 5) (eVar 7)) addI (eIf (bTru (eVar 2)) (eBin mulA (eVar 8) (eBin ixD (eBin ixD (eVar 3) (eBin addA (eVar 5) (eVar 7))) (eVar 5))) (eVar 8))))))) (sRet (eVar 4)))))
def m_product : List D → R D := mOf 3 6 b_product
def b_unit : SF := (sRet (eBin addA (eLst (aCons (eC (.int 1)) aNil)) (eBin mulA (eLst (aCons (eC (.int 0)) aNil)) (eBin subI (eVar 0) (eC (.int 1))))))
def m_unit : List D → R D := mOf 1 0 b_unit
def b_powers : SF := (sSeq (sAsg 3 (eLst (aCons (eCall m_unit (aCons (eApp lenD (aCons (eVar 0) aNil)) aNil)) aNil))) (sSeq (sFor (iRng rng1D (aCons (eVar 1) aNil)) (gN 4) (sApp 3 (eCall m_product (aCons (eBin ixD (eVar 3) (eUn negI (eC (.int 1)))) (aCons (eVar 0) (aCons (eVar 2) aNil)))))) (sRet (eVar 3))))
def m_powers : List D → R D := mOf 3 2 b_powers
def b_stretched : SF := (sSeq (sAsg 2 (eBin mulL (eLst (aCons (eC (.int 0)) aNil)) (eApp lenD (aCons (eVar 0) aNil)))) (sSeq (sFor (iRng rng2D (aCons (eC (.int 0)) (aCons (eBin addA (eBin fdivI (eBin subI (eApp lenD (aCons (eVar 0) aNil)) (eC (.int 1))) (eVar 1)) (eC (.int 1))) aNil))) (gN 3) (sSetIx 2 (eBin mulA (eVar 3) (eVar 1)) (eBin ixD (eVar 0) (eVar 3)))) (sRet (eVar 2))))
def m_stretched : List D → R D := mOf 2 2 b_stretched
def b_labelled_members : SF := (sSeq (sAsg 3 (eCall m_powers (aCons (eVar 0) (aCons (eVar 2) (aCons (eC (.bl true)) aNil))))) (sSeq (sAsg 4 (eC (.int 1))) (sSeq (sFor (iRng rng2D (aCons (eC (.int 1)) (aCons (eBin addA (eVar 2) (eC (.int 1))) aNil))) (gN 5) (sSeq (sAsg 4 (eIf (bVal (eBin eqD (eVar 1) (eC (.str "set")))) (eBin mulA (eVar 4) (eVar 5)) (eVar 5))) (sIf (bVal (eBin neD (eVar 1) (eC (.str "row")))) (sSetIx 3 (eVar 5) (eLc (iSeq (eBin ixD (eVar 3) (eVar 5))) (gN 6) bYes (eBin fdivI (eVar 6) (eVar 4)))) sNil))) (sRet (eVar 3)))))
def m_labelled_members : List D → R D := mOf 3 4 b_labelled_members
def b_multisets : SF := (sSeq (sAsg 2 (eLst (aCons (eCall m_unit (aCons (eApp lenD (aCons (eVar 0) aNil)) aNil)) aNil))) (sSeq (sFor (iRng rng2D (aCons (eC (.int 1)) (aCons (eBin addA (eVar 1) (eC (.int 1))) aNil))) (gN 3) (sSeq (sAsg 4 (eBin mulA (eLst (aCons (eC (.int 0)) aNil)) (eApp lenD (aCons (eVar 0) aNil)))) (sSeq (sFor (iRng rng2D (aCons (eC (.int 1)) (aCons (eBin addA (eVar 3) (eC (.int 1))) aNil))) (gN 5) (sSeq (sAsg 6 (eCall m_product (aCons (eCall m_stretched (aCons (eVar 0) (aCons (eVar 5) aNil))) (aCons (eBin ixD (eVar 2) (eBin subI (eVar 3) (eVar 5))) (aCons (eC (.bl false)) aNil))))) (sAsg 4 (eLc (iRng rng1D (aCons (eApp lenD (aCons (eVar 4) aNil)) aNil)) (gN 7) bYes (eBin addA (eBin ixD (eVar 4) (eVar 7)) (eBin ixD (eVar 6) (eVar 7))))))) (sApp 2 (eLc (iSeq (eVar 4)) (gN 8) bYes (eBin fdivI (eVar 8) (eVar 3))))))) (sRet (eVar 2))))
def m_multisets : List D → R D := mOf 2 7 b_multisets
def b_turned_rows : SF := (sSeq (sAsg 3 (eCall m_powers (aCons (eVar 0) (aCons (eVar 1) (aCons (eC (.bl false)) aNil))))) (sSeq (sAsg 4 (eLst (aCons (eCall m_unit (aCons (eApp lenD (aCons (eVar 0) aNil)) aNil)) aNil))) (sSeq (sFor (iRng rng2D (aCons (eC (.int 1)) (aCons (eBin addA (eVar 1) (eC (.int 1))) aNil))) (gN 5) (sSeq (sAsg 6 (eBin mulA (eLst (aCons (eC (.int 0)) aNil)) (eApp lenD (aCons (eVar 0) aNil)))) (sSeq (sFor (iRng rng2D (aCons (eC (.int 1)) (aCons (eBin addA (eVar 5) (eC (.int 1))) aNil))) (gN 7) (sIf (bVal (eBin eqD (eBin modI (eVar 5) (eVar 7)) (eC (.int 0)))) (sSeq (sAsg 8 (eCall m_stretched (aCons (eBin ixD (eVar 3) (eBin fdivI (eVar 5) (eVar 7))) (aCons (eVar 7) aNil)))) (sAsg 6 (eLc (iRng rng1D (aCons (eApp lenD (aCons (eVar 6) aNil)) aNil)) (gN 10) bYes (eBin addA (eBin ixD (eVar 6) (eVar 10)) (eBin mulA (eBin ixD (eVar 2) (eVar 7)) (eBin ixD (eVar 8) (eVar 10))))))) sNil)) (sApp 4 (eLc (iSeq (eVar 6)) (gN 9) bYes (eBin fdivI (eVar 9) (eVar 5))))))) (sRet (eVar 4)))))
def m_turned_rows : List D → R D := mOf 3 8 b_turned_rows
def b_members_table : SF := (sSeq (sIf (bVal (eBin eqD (eVar 1) (eC (.str "row")))) (sRet (eCall m_powers (aCons (eVar 0) (aCons (eVar 2) (aCons (eVar 3) aNil))))) sNil) (sSeq (sIf (bTru (eVar 3)) (sRet (eCall m_labelled_members (aCons (eVar 0) (aCons (eVar 1) (aCons (eVar 2) aNil))))) sNil) (sSeq (sIf (bVal (eBin eqD (eVar 1) (eC (.str "set")))) (sRet (eCall m_multisets (aCons (eVar 0) (aCons (eVar 2) aNil)))) sNil) (sRet (eCall m_turned_rows (aCons (eVar 0) (aCons (eVar 2) (aCons (eCall m_totients (aCons (eVar 2) aNil)) aNil))))))))
def m_members_table : List D → R D := mOf 4 0 b_members_table
def b_summed : SF := (sSeq (sAsg 4 (eBin mulA (eLst (aCons (eC (.int 0)) aNil)) (eVar 3))) (sSeq (sFor (iRng rng2D (aCons (eVar 1) (aCons (eBin addA (eApp min2D (aCons (eVar 2) (aCons (eBin subI (eApp lenD (aCons (eVar 0) aNil)) (eC (.int 1))) aNil))) (eC (.int 1))) aNil))) (gN 5) (sAsg 4 (eLc (iRng rng1D (aCons (eVar 3) aNil)) (gN 6) bYes (eBin addA (eBin ixD (eVar 4) (eVar 6)) (eBin ixD (eBin ixD (eVar 0) (eVar 5)) (eVar 6)))))) (sRet (eVar 4))))
def m_summed : List D → R D := mOf 4 3 b_summed
def b_top_members : SF := (sSeq (sAsg 2 (eIf (bVal (eBin eqD (eBin ixD (eVar 0) (eC (.int 0))) (eC (.int 0)))) (eBin subI (eApp lenD (aCons (eVar 0) aNil)) (eC (.int 1))) (eC (.int 1)))) (sRet (eIf (bVal (eBin isND (eVar 1) (eC .non))) (eVar 2) (eApp min2D (aCons (eVar 1) (aCons (eVar 2) aNil))))))
def m_top_members : List D → R D := mOf 2 1 b_top_members
def b_check : SF := (sSeq (sIf (bOr (bNot (bTru (eCall m_are_counts (aCons (eVar 0) aNil)))) (bOr (bNot (bTru (eCall m_is_whole (aCons (eVar 2) aNil)))) (bAnd (bVal (eBin eqD (eVar 1) (eC (.str "ring")))) (bVal (eBin eqD (eVar 2) (eC (.int 0))))))) (sErr 0) sNil) (sSeq (sIf (bAnd (bVal (eBin notND (eVar 3) (eC .non))) (bOr (bNot (bTru (eCall m_is_whole (aCons (eVar 3) aNil)))) (bVal (eBin ltI (eVar 3) (eVar 2))))) (sErr 0) sNil) (sIf (bAnd (bVal (eBin gtI (eBin ixD (eVar 0) (eC (.int 0))) (eC (.int 0)))) (bOr (bVal (eBin isND (eVar 3) (eC .non))) (bVal (eBin gtI (eVar 3) (eC (.int 1)))))) (sErr 0) sNil)))
def m_check : List D → R D := mOf 4 0 b_check
def b_made : SF := (sSeq (sExp (eCall m_check (aCons (eVar 0) (aCons (eVar 1) (aCons (eVar 2) (aCons (eVar 3) aNil)))))) (sSeq (sAsg 5 (eCall m_top_members (aCons (eVar 0) (aCons (eVar 3) aNil)))) (sRet (eCall m_summed (aCons (eCall m_members_table (aCons (eVar 0) (aCons (eVar 1) (aCons (eVar 5) (aCons (eVar 4) aNil))))) (aCons (eVar 2) (aCons (eVar 5) (aCons (eApp lenD (aCons (eVar 0) aNil)) aNil))))))))
def m_made : List D → R D := mOf 5 1 b_made
def b_pairs : SF := (sSeq (sIf (bOr (bNot (bTru (eCall m_are_counts (aCons (eVar 0) aNil)))) (bOr (bNot (bTru (eCall m_are_counts (aCons (eVar 1) aNil)))) (bVal (eBin neD (eApp lenD (aCons (eVar 0) aNil)) (eApp lenD (aCons (eVar 1) aNil)))))) (sErr 0) sNil) (sRet (eCall m_product (aCons (eVar 0) (aCons (eVar 1) (aCons (eVar 2) aNil))))))
def m_pairs : List D → R D := mOf 3 0 b_pairs
def b_rows : SF := (sRet (eCall m_made (aCons (eVar 0) (aCons (eC (.str "row")) (aCons (eVar 1) (aCons (eVar 2) (aCons (eVar 3) aNil)))))))
def m_rows : List D → R D := mOf 4 0 b_rows
def b_sets : SF := (sRet (eCall m_made (aCons (eVar 0) (aCons (eC (.str "set")) (aCons (eVar 1) (aCons (eVar 2) (aCons (eVar 3) aNil)))))))
def m_sets : List D → R D := mOf 4 0 b_sets
def b_rings : SF := (sRet (eCall m_made (aCons (eVar 0) (aCons (eC (.str "ring")) (aCons (eVar 1) (aCons (eVar 2) (aCons (eVar 3) aNil)))))))
def m_rings : List D → R D := mOf 4 0 b_rings
def b_law_draws : SF := (sSeq (sAsg 2 (eLst aNil)) (sSeq (sAsg 3 (eC (.int 7))) (sSeq (sFor (iSeq (eSl cutA (eVar 0) oNo (oAt (eC (.int 63))))) (gN 4) (sSeq (sAsg 5 (eApp absD (aCons (eVar 4) aNil))) (sSeq (sAsg 3 (eBin modI (eApp int1D (aCons (eBin addA (eBin addA (eBin mulA (eVar 3) (eC (.int 48271))) (eVar 5)) (eC (.int 11))) aNil)) (eC (.int 2147483647)))) (sIf (bVal (eBin geI (eVar 5) (eBin powI (eC (.int 10)) (eC (.int 18))))) (sFor (iRng rng1D (aCons (eC (.int 60)) aNil)) (gN 6) (sIf (bVal (eBin gtI (eVar 5) (eC (.int 0)))) (sSeq (sApp 2 (eBin modI (eApp int1D (aCons (eVar 5) aNil)) (eC (.int 1009)))) (sAsg 5 (eBin fdivI (eVar 5) (eC (.int 1009))))) sNil)) (sApp 2 (eBin modI (eBin fdivI (eApp int1D (aCons (eBin addA (eBin mulA (eVar 3) (eC (.int 16807))) (eC (.int 5))) aNil)) (eC (.int 3))) (eC (.int 65521)))))))) (sSeq (sFor (iRng rng1D (aCons (eVar 1) aNil)) (gN 6) (sIf (bVal (eBin ltI (eApp lenD (aCons (eVar 2) aNil)) (eVar 1))) (sSeq (sAsg 3 (eBin modI (eApp int1D (aCons (eBin addA (eBin addA (eBin mulA (eVar 3) (eC (.int 69621))) (eVar 6)) (eC (.int 1))) aNil)) (eC (.int 2147483647)))) (sApp 2 (eBin modI (eBin fdivI (eApp int1D (aCons (eVar 3) aNil)) (eC (.int 7))) (eC (.int 65521))))) sNil)) (sRet (eSl cutA (eVar 2) oNo (oAt (eVar 1))))))))
def m_law_draws : List D → R D := mOf 2 5 b_law_draws
def b_law_binomial : SF := (sSeq (sAsg 2 (eC (.int 1))) (sSeq (sFor (iRng rng1D (aCons (eVar 1) aNil)) (gN 3) (sAsg 2 (eBin fdivI (eBin mulA (eVar 2) (eBin subI (eVar 0) (eVar 3))) (eBin addA (eVar 3) (eC (.int 1)))))) (sRet (eVar 2))))
def m_law_binomial : List D → R D := mOf 2 2 b_law_binomial
def b_law_rows : SF := (sSeq (sAsg 3 (eBin addA (eLst (aCons (eC (.int 1)) aNil)) (eBin mulA (eLst (aCons (eC (.int 0)) aNil)) (eBin subI (eApp lenD (aCons (eVar 0) aNil)) (eC (.int 1)))))) (sSeq (sFor (iRng rng1D (aCons (eVar 1) aNil)) (gN 4) (sSeq (sAsg 5 (eLst aNil)) (sSeq (sFor (iRng rng1D (aCons (eApp lenD (aCons (eVar 0) aNil)) aNil)) (gN 6) (sSeq (sAsg 7 (eC (.int 0))) (sSeq (sFor (iRng rng1D (aCons (eBin addA (eVar 6) (eC (.int 1))) aNil)) (gN 8) (sAsg 7 (eBin addA (eVar 7) (eBin mulA (eBin mulA (eBin ixD (eVar 0) (eVar 8)) (eBin ixD (eVar 3) (eBin subI (eVar 6) (eVar 8)))) (eIf (bTru (eVar 2)) (eCall m_law_binomial (aCons (eVar 6) (aCons (eVar 8) aNil))) (eC (.int 1))))))) (sApp 5 (eVar 7))))) (sAsg 3 (eVar 5))))) (sRet (eVar 3))))
def m_law_rows : List D → R D := mOf 3 6 b_law_rows
def b_law_begun : SF := (sSeq (sAsg 2 (eBin mulL (eLst (aCons (eC (.int 0)) aNil)) (eApp lenD (aCons (eVar 0) aNil)))) (sSeq (sFor (iRng rng2D (aCons (eC (.int 1)) (aCons (eApp lenD (aCons (eVar 0) aNil)) aNil))) (gN 3) (sSetIx 2 (eVar 3) (eApp sumD (aCons (eLc (iRng rng2D (aCons (eC (.int 1)) (aCons (eBin addA (eVar 3) (eC (.int 1))) aNil))) (gN 4) bYes (eBin mulA (eBin mulA (eCall m_law_binomial (aCons (eBin subI (eVar 3) (eC (.int 1))) (aCons (eBin subI (eVar 4) (eC (.int 1))) aNil))) (eBin ixD (eVar 0) (eVar 4))) (eBin ixD (eVar 1) (eBin subI (eVar 3) (eVar 4))))) aNil)))) (sRet (eVar 2))))
def m_law_begun : List D → R D := mOf 2 3 b_law_begun
def b_law_bag : SF := (sSeq (sAsg 4 (eLc (iRng rng1D (aCons (eBin addA (eVar 1) (eC (.int 1))) aNil)) (gN 2) bYes (eLc (iRng rng1D (aCons (eApp lenD (aCons (eVar 0) aNil)) aNil)) (gN 3) bYes (eApp int1D (aCons (eAnd (eBin eqD (eVar 2) (eC (.int 0))) (eBin eqD (eVar 3) (eC (.int 0)))) aNil))))) (sSeq (sFor (iRng rng2D (aCons (eC (.int 1)) (aCons (eApp lenD (aCons (eVar 0) aNil)) aNil))) (gN 5) (sRows 4 2 7 (iRng rng1D (aCons (eBin addA (eVar 1) (eC (.int 1))) aNil)) (gN 2) (eBin mulL (eLst (aCons (eC (.int 0)) aNil)) (eApp lenD (aCons (eVar 0) aNil))) (aCons (eBin addA (eVar 1) (eC (.int 1))) aNil) (sFor (iRng rng1D (aCons (eApp lenD (aCons (eVar 0) aNil)) aNil)) (gN 3) (sSeq (sAsg 8 (eC (.int 0))) (sSeq (sFor (iRng rng1D (aCons (eBin addA (eApp min2D (aCons (eVar 2) (aCons (eBin fdivI (eVar 3) (eVar 5)) aNil))) (eC (.int 1))) aNil)) (gN 9) (sAsg 8 (eBin addA (eVar 8) (eBin mulA (eBin ixD (eBin ixD (eVar 4) (eBin subI (eVar 2) (eVar 9))) (eBin subI (eVar 3) (eBin mulA (eVar 9) (eVar 5)))) (eCall m_law_binomial (aCons (eBin subI (eBin addA (eBin ixD (eVar 0) (eVar 5)) (eVar 9)) (eC (.int 1))) (aCons (eVar 9) aNil))))))) (sSetIx 7 (eVar 3) (eVar 8))))))) (sRet (eVar 4))))
def m_law_bag : List D → R D := mOf 2 8 b_law_bag
def b_law_common : SF := (sSeq (sFor (iRng rng1D (aCons (eC (.int 60)) aNil)) (gN 2) (sIf (bVal (eBin gtI (eVar 1) (eC (.int 0)))) (sPar 0 1 (aCons (eVar 1) (aCons (eBin modI (eApp int1D (aCons (eVar 0) aNil)) (eVar 1)) aNil))) sNil)) (sRet (eVar 0)))
def m_law_common : List D → R D := mOf 2 1 b_law_common
def b_law_turned : SF := (sSeq (sAsg 2 (eBin mulL (eLst (aCons (eC (.int 0)) aNil)) (eApp lenD (aCons (eVar 0) aNil)))) (sSeq (sFor (iRng rng1D (aCons (eVar 1) aNil)) (gN 3) (sSeq (sAsg 4 (eCall m_law_common (aCons (eVar 1) (aCons (eVar 3) aNil)))) (sSeq (sAsg 5 (eCall m_law_rows (aCons (eVar 0) (aCons (eVar 4) (aCons (eC (.bl false)) aNil))))) (sFor (iRng rng1D (aCons (eApp lenD (aCons (eVar 0) aNil)) aNil)) (gN 6) (sIf (bVal (eBin eqD (eBin modI (eApp int1D (aCons (eBin mulA (eVar 6) (eVar 4)) aNil)) (eVar 1)) (eC (.int 0)))) (sSetIx 2 (eVar 6) (eBin addA (eBin ixD (eVar 2) (eVar 6)) (eBin ixD (eVar 5) (eBin fdivI (eBin mulA (eVar 6) (eVar 4)) (eVar 1))))) sNil))))) (sRet (eLc (iSeq (eVar 2)) (gN 7) bYes (eBin fdivI (eVar 7) (eVar 1))))))
def m_law_turned : List D → R D := mOf 2 6 b_law_turned
def b_law_members (r_law_members : List D → R D) : SF := (sSeq (sIf (bVal (eBin eqD (eVar 2) (eC (.int 0)))) (sRet (eBin addA (eLst (aCons (eC (.int 1)) aNil)) (eBin mulA (eLst (aCons (eC (.int 0)) aNil)) (eBin subI (eApp lenD (aCons (eVar 0) aNil)) (eC (.int 1)))))) sNil) (sSeq (sIf (bOr (bVal (eBin eqD (eVar 1) (eC (.str "row")))) (bVal (eBin eqD (eVar 2) (eC (.int 1))))) (sRet (eCall m_law_rows (aCons (eVar 0) (aCons (eVar 2) (aCons (eVar 3) aNil))))) sNil) (sSeq (sIf (bTru (eVar 3)) (sSeq (sIf (bVal (eBin eqD (eVar 1) (eC (.str "ring")))) (sRet (eCall m_law_begun (aCons (eVar 0) (aCons (eCall m_law_rows (aCons (eVar 0) (aCons (eBin subI (eVar 2) (eC (.int 1))) (aCons (eC (.bl true)) aNil)))) aNil)))) sNil) (sRet (eCall m_law_begun (aCons (eVar 0) (aCons (eCall r_law_members (aCons (eVar 0) (aCons (eC (.str "set")) (aCons (eBin subI (eVar 2) (eC (.int 1))) (aCons (eC (.bl true)) aNil))))) aNil))))) sNil) (sSeq (sIf (bVal (eBin eqD (eVar 1) (eC (.str "ring")))) (sRet (eCall m_law_turned (aCons (eVar 0) (aCons (eVar 2) aNil)))) sNil) (sRet (eBin ixD (eCall m_law_bag (aCons (eVar 0) (aCons (eVar 2) aNil))) (eVar 2)))))))
def m_law_members : Nat → List D → R D
  | 0 => fun _ => .bad
  | n + 1 => mOf 4 0 (b_law_members (m_law_members n))
def b_law : SF := (sSeq (sAsg 1 (eCall m_law_draws (aCons (eVar 0) (aCons (eC (.int 60)) aNil)))) (sSeq (sAsgG (gT (gsCons (gN 2) (gsCons (gN 3) gsNil))) (eTup (aCons (eBin addA (eC (.int 1)) (eBin modI (eApp int1D (aCons (eBin ixD (eVar 1) (eC (.int 0))) aNil)) (eC (.int 12)))) (aCons (eBin eqD (eBin modI (eApp int1D (aCons (eBin ixD (eVar 1) (eC (.int 1))) aNil)) (eC (.int 2))) (eC (.int 0))) aNil)))) (sSeq (sAsg 4 (eLc (iRng rng1D (aCons (eVar 2) aNil)) (gN 14) bYes (eBin modI (eApp int1D (aCons (eBin ixD (eVar 1) (eBin addA (eC (.int 2)) (eVar 14))) aNil)) (eBin ixD (eLst (aCons (eC (.int 2)) (aCons (eC (.int 4)) (aCons (eC (.int 9)) aNil)))) (eBin modI (eApp int1D (aCons (eBin ixD (eVar 1) (eC (.int 30))) aNil)) (eC (.int 3))))))) (sSeq (sAsg 5 (eLc (iRng rng1D (aCons (eVar 2) aNil)) (gN 14) bYes (eBin modI (eApp int1D (aCons (eBin ixD (eVar 1) (eBin addA (eC (.int 16)) (eVar 14))) aNil)) (eC (.int 5))))) (sSeq (sIf (bVal (eBin neD (eCall m_pairs (aCons (eVar 4) (aCons (eVar 5) (aCons (eVar 3) aNil)))) (eLc (iRng rng1D (aCons (eVar 2) aNil)) (gN 15) bYes (eApp sumD (aCons (eLc (iRng rng1D (aCons (eBin addA (eVar 15) (eC (.int 1))) aNil)) (gN 16) bYes (eBin mulA (eBin mulA (eBin ixD (eVar 4) (eVar 16)) (eBin ixD (eVar 5) (eBin subI (eVar 15) (eVar 16)))) (eIf (bTru (eVar 3)) (eCall m_law_binomial (aCons (eVar 15) (aCons (eVar 16) aNil))) (eC (.int 1))))) aNil))))) (sRet (eC (.bl false))) sNil) (sSeq (sIf (bVal (eBin gtI (eBin modI (eApp int1D (aCons (eBin ixD (eVar 1) (eC (.int 31))) aNil)) (eC (.int 4))) (eC (.int 0)))) (sAsg 4 (eBin addA (eLst (aCons (eC (.int 0)) aNil)) (eSl cutA (eVar 4) (oAt (eC (.int 1))) oNo))) sNil) (sSeq (sAsg 6 (eBin ixD (eLst (aCons (eC (.str "row")) (aCons (eC (.str "set")) (aCons (eC (.str "ring")) aNil)))) (eBin modI (eApp int1D (aCons (eBin ixD (eVar 1) (eC (.int 32))) aNil)) (eC (.int 3))))) (sSeq (sAsg 7 (eApp max2D (aCons (eBin modI (eApp int1D (aCons (eBin ixD (eVar 1) (eC (.int 33))) aNil)) (eC (.int 4))) (aCons (eApp int1D (aCons (eBin eqD (eVar 6) (eC (.str "ring"))) aNil)) aNil)))) (sSeq (sAsg 8 (eBin ixD (eLst (aCons (eC .non) (aCons (eVar 7) (aCons (eBin addA (eVar 7) (eC (.int 1))) (aCons (eBin addA (eVar 7) (eBin modI (eApp int1D (aCons (eBin ixD (eVar 1) (eC (.int 34))) aNil)) (eC (.int 9)))) aNil))))) (eBin modI (eApp int1D (aCons (eBin ixD (eVar 1) (eC (.int 35))) aNil)) (eC (.int 4))))) (sSeq (sIf (bVal (eBin gtI (eBin ixD (eVar 4) (eC (.int 0))) (eC (.int 0)))) (sSeq (sAsg 7 (eApp max2D (aCons (eBin modI (eApp int1D (aCons (eBin ixD (eVar 1) (eC (.int 33))) aNil)) (eC (.int 2))) (aCons (eApp int1D (aCons (eBin eqD (eVar 6) (eC (.str "ring"))) aNil)) aNil)))) (sAsg 8 (eApp max2D (aCons (eVar 7) (aCons (eBin modI (eApp int1D (aCons (eBin ixD (eVar 1) (eC (.int 34))) aNil)) (eC (.int 2))) aNil))))) sNil) (sSeq (sAsg 9 (eBin mulA (eLst (aCons (eC (.int 0)) aNil)) (eVar 2))) (sSeq (sFor (iRng rng2D (aCons (eVar 7) (aCons (eApp max2D (aCons (eVar 2) (aCons (eC (.int 2)) aNil))) aNil))) (gN 10) (sIf (bAnd (bOr (bVal (eBin isND (eVar 8) (eC .non))) (bVal (eBin leI (eVar 10) (eVar 8)))) (bOr (bVal (eBin eqD (eBin ixD (eVar 4) (eC (.int 0))) (eC (.int 0)))) (bVal (eBin ltI (eVar 10) (eC (.int 2)))))) (sSeq (sAsg 11 (eCall (m_law_members 20) (aCons (eVar 4) (aCons (eVar 6) (aCons (eVar 10) (aCons (eVar 3) aNil)))))) (sAsg 9 (eLc (iRng rng1D (aCons (eVar 2) aNil)) (gN 15) bYes (eBin addA (eBin ixD (eVar 9) (eVar 15)) (eBin ixD (eVar 11) (eVar 15)))))) sNil)) (sSeq (sAsg 12 (eApp listD (aCons (eVar 4) aNil))) (sSeq (sIf (bVal (eBin eqD (eVar 6) (eC (.str "row")))) (sAsg 13 (eCall m_rows (aCons (eVar 4) (aCons (eVar 7) (aCons (eVar 8) (aCons (eVar 3) aNil)))))) (sIf (bVal (eBin eqD (eVar 6) (eC (.str "set")))) (sAsg 13 (eCall m_sets (aCons (eVar 4) (aCons (eVar 7) (aCons (eVar 8) (aCons (eVar 3) aNil)))))) (sAsg 13 (eCall m_rings (aCons (eVar 4) (aCons (eVar 7) (aCons (eVar 8) (aCons (eVar 3) aNil)))))))) (sRet (eAnd (eIsi "list" (eVar 13)) (eAnd (eBin eqD (eVar 13) (eVar 9)) (eAnd (eBin eqD (eVar 4) (eVar 12)) (eNot (eApp anyD (aCons (eLc (iSeq (eVar 13)) (gN 17) bYes (eIsi "bool" (eVar 17))) aNil)))))))))))))))))))))
def m_law : List D → R D := mOf 1 17 b_law
end L2.DL.K20
set_option Elab.async false
set_option linter.all false
set_option maxRecDepth 100000
set_option autoImplicit false
set_option maxHeartbeats 0
namespace L2.DL.K20
open PySem PySem.Spec PyProof.Rows L2 L2.DL
def top (i : Nat) : Stmt := PySem.Challenge.pw_speciesmill_k20_pairs_rows_sets_rings.main.body.getD i (.Pass ⟨0, 0, 0, 0⟩)
abbrev s_is_whole : Stmt := top 5
abbrev N_is_whole : List Str := ["value"]
theorem sc_is_whole : FnScope N_is_whole ["value"] (defScope s_is_whole) := ⟨rfl, rfl, rfl, by decide +kernel, rfl, by decide +kernel, by decide +kernel⟩
abbrev s_are_counts : Stmt := top 6
abbrev N_are_counts : List Str := ["counts", "one"]
theorem sc_are_counts : FnScope N_are_counts ["counts"] (defScope s_are_counts) := ⟨rfl, rfl, rfl, by decide +kernel, rfl, by decide +kernel, by decide +kernel⟩
abbrev s_binomials : Stmt := top 7
abbrev N_binomials : List Str := ["size", "found", "_", "last", "at"]
theorem sc_binomials : FnScope N_binomials ["size"] (defScope s_binomials) := ⟨rfl, rfl, rfl, by decide +kernel, rfl, by decide +kernel, by decide +kernel⟩
abbrev s_totients : Stmt := top 8
abbrev N_totients : List Str := ["size", "found", "prime", "at"]
theorem sc_totients : FnScope N_totients ["size"] (defScope s_totients) := ⟨rfl, rfl, rfl, by decide +kernel, rfl, by decide +kernel, by decide +kernel⟩
abbrev s_product : Stmt := top 9
abbrev N_product : List Str := ["first", "second", "labelled", "choose", "found", "at", "one", "other", "part"]
theorem sc_product : FnScope N_product ["first", "second", "labelled"] (defScope s_product) := ⟨rfl, rfl, rfl, by decide +kernel, rfl, by decide +kernel, by decide +kernel⟩
abbrev s_unit : Stmt := top 10
abbrev N_unit : List Str := ["count"]
theorem sc_unit : FnScope N_unit ["count"] (defScope s_unit) := ⟨rfl, rfl, rfl, by decide +kernel, rfl, by decide +kernel, by decide +kernel⟩
abbrev s_powers : Stmt := top 11
abbrev N_powers : List Str := ["counts", "most", "labelled", "found", "_"]
theorem sc_powers : FnScope N_powers ["counts", "most", "labelled"] (defScope s_powers) := ⟨rfl, rfl, rfl, by decide +kernel, rfl, by decide +kernel, by decide +kernel⟩
abbrev s_stretched : Stmt := top 12
abbrev N_stretched : List Str := ["counts", "times", "found", "at"]
theorem sc_stretched : FnScope N_stretched ["counts", "times"] (defScope s_stretched) := ⟨rfl, rfl, rfl, by decide +kernel, rfl, by decide +kernel, by decide +kernel⟩
abbrev s_labelled_members : Stmt := top 13
abbrev N_labelled_members : List Str := ["counts", "word", "most", "found", "factor", "members", "one"]
theorem sc_labelled_members : FnScope N_labelled_members ["counts", "word", "most"] (defScope s_labelled_members) := ⟨rfl, rfl, rfl, by decide +kernel, rfl, by decide +kernel, by decide +kernel⟩
abbrev s_multisets : Stmt := top 14
abbrev N_multisets : List Str := ["counts", "most", "found", "members", "total", "times", "part", "at", "one"]
theorem sc_multisets : FnScope N_multisets ["counts", "most"] (defScope s_multisets) := ⟨rfl, rfl, rfl, by decide +kernel, rfl, by decide +kernel, by decide +kernel⟩
abbrev s_turned_rows : Stmt := top 15
abbrev N_turned_rows : List Str := ["counts", "most", "factors", "lists", "found", "members", "total", "times", "part", "one", "at"]
theorem sc_turned_rows : FnScope N_turned_rows ["counts", "most", "factors"] (defScope s_turned_rows) := ⟨rfl, rfl, rfl, by decide +kernel, rfl, by decide +kernel, by decide +kernel⟩
abbrev s_members_table : Stmt := top 16
abbrev N_members_table : List Str := ["counts", "word", "most", "labelled"]
theorem sc_members_table : FnScope N_members_table ["counts", "word", "most", "labelled"] (defScope s_members_table) := ⟨rfl, rfl, rfl, by decide +kernel, rfl, by decide +kernel, by decide +kernel⟩
abbrev s_summed : Stmt := top 17
abbrev N_summed : List Str := ["table", "least", "most", "count", "total", "members", "at"]
theorem sc_summed : FnScope N_summed ["table", "least", "most", "count"] (defScope s_summed) := ⟨rfl, rfl, rfl, by decide +kernel, rfl, by decide +kernel, by decide +kernel⟩
abbrev s_top_members : Stmt := top 18
abbrev N_top_members : List Str := ["counts", "most", "last"]
theorem sc_top_members : FnScope N_top_members ["counts", "most"] (defScope s_top_members) := ⟨rfl, rfl, rfl, by decide +kernel, rfl, by decide +kernel, by decide +kernel⟩
abbrev s_check : Stmt := top 19
abbrev N_check : List Str := ["counts", "word", "least", "most"]
theorem sc_check : FnScope N_check ["counts", "word", "least", "most"] (defScope s_check) := ⟨rfl, rfl, rfl, by decide +kernel, rfl, by decide +kernel, by decide +kernel⟩
abbrev s_made : Stmt := top 20
abbrev N_made : List Str := ["counts", "word", "least", "most", "labelled", "top"]
theorem sc_made : FnScope N_made ["counts", "word", "least", "most", "labelled"] (defScope s_made) := ⟨rfl, rfl, rfl, by decide +kernel, rfl, by decide +kernel, by decide +kernel⟩
abbrev s_pairs : Stmt := top 21
abbrev N_pairs : List Str := ["first", "second", "labelled"]
theorem sc_pairs : FnScope N_pairs ["first", "second", "labelled"] (defScope s_pairs) := ⟨rfl, rfl, rfl, by decide +kernel, rfl, by decide +kernel, by decide +kernel⟩
abbrev s_rows : Stmt := top 22
abbrev N_rows : List Str := ["counts", "least", "most", "labelled"]
theorem sc_rows : FnScope N_rows ["counts", "least", "most", "labelled"] (defScope s_rows) := ⟨rfl, rfl, rfl, by decide +kernel, rfl, by decide +kernel, by decide +kernel⟩
abbrev s_sets : Stmt := top 23
abbrev N_sets : List Str := ["counts", "least", "most", "labelled"]
theorem sc_sets : FnScope N_sets ["counts", "least", "most", "labelled"] (defScope s_sets) := ⟨rfl, rfl, rfl, by decide +kernel, rfl, by decide +kernel, by decide +kernel⟩
abbrev s_rings : Stmt := top 24
abbrev N_rings : List Str := ["counts", "least", "most", "labelled"]
theorem sc_rings : FnScope N_rings ["counts", "least", "most", "labelled"] (defScope s_rings) := ⟨rfl, rfl, rfl, by decide +kernel, rfl, by decide +kernel, by decide +kernel⟩
abbrev s_law_draws : Stmt := top 26
abbrev N_law_draws : List Str := ["_law_script", "_law_many", "_law_draws_here", "_law_seed", "_law_cell", "_law_number", "_law_k"]
theorem sc_law_draws : FnScope N_law_draws ["_law_script", "_law_many"] (defScope s_law_draws) := ⟨rfl, rfl, rfl, by decide +kernel, rfl, by decide +kernel, by decide +kernel⟩
abbrev s_law_binomial : Stmt := top 27
abbrev N_law_binomial : List Str := ["_law_n", "_law_k", "_law_total", "_law_j"]
theorem sc_law_binomial : FnScope N_law_binomial ["_law_n", "_law_k"] (defScope s_law_binomial) := ⟨rfl, rfl, rfl, by decide +kernel, rfl, by decide +kernel, by decide +kernel⟩
abbrev s_law_rows : Stmt := top 28
abbrev N_law_rows : List Str := ["_law_counts", "_law_members_here", "_law_labelled", "_law_found", "_law_j", "_law_longer", "_law_n", "_law_total", "_law_k"]
theorem sc_law_rows : FnScope N_law_rows ["_law_counts", "_law_members_here", "_law_labelled"] (defScope s_law_rows) := ⟨rfl, rfl, rfl, by decide +kernel, rfl, by decide +kernel, by decide +kernel⟩
abbrev s_law_begun : Stmt := top 29
abbrev N_law_begun : List Str := ["_law_counts", "_law_rest", "_law_found", "_law_n", "_law_k"]
theorem sc_law_begun : FnScope N_law_begun ["_law_counts", "_law_rest"] (defScope s_law_begun) := ⟨rfl, rfl, rfl, by decide +kernel, rfl, by decide +kernel, by decide +kernel⟩
abbrev s_law_bag : Stmt := top 30
abbrev N_law_bag : List Str := ["_law_counts", "_law_most", "_law_m", "_law_n", "_law_table", "_law_size", "_law_later", "_law_row", "_law_total", "_law_t"]
theorem sc_law_bag : FnScope N_law_bag ["_law_counts", "_law_most"] (defScope s_law_bag) := ⟨rfl, rfl, rfl, by decide +kernel, rfl, by decide +kernel, by decide +kernel⟩
abbrev s_law_common : Stmt := top 31
abbrev N_law_common : List Str := ["_law_a", "_law_b", "_law_j"]
theorem sc_law_common : FnScope N_law_common ["_law_a", "_law_b"] (defScope s_law_common) := ⟨rfl, rfl, rfl, by decide +kernel, rfl, by decide +kernel, by decide +kernel⟩
abbrev s_law_turned : Stmt := top 32
abbrev N_law_turned : List Str := ["_law_counts", "_law_members_here", "_law_found", "_law_turn", "_law_g", "_law_base", "_law_n", "_law_one"]
theorem sc_law_turned : FnScope N_law_turned ["_law_counts", "_law_members_here"] (defScope s_law_turned) := ⟨rfl, rfl, rfl, by decide +kernel, rfl, by decide +kernel, by decide +kernel⟩
abbrev s_law_members : Stmt := top 33
abbrev N_law_members : List Str := ["_law_counts", "_law_word", "_law_m", "_law_labelled"]
theorem sc_law_members : FnScope N_law_members ["_law_counts", "_law_word", "_law_m", "_law_labelled"] (defScope s_law_members) := ⟨rfl, rfl, rfl, by decide +kernel, rfl, by decide +kernel, by decide +kernel⟩
abbrev s_law : Stmt := top 34
abbrev N_law : List Str := ["_law_script", "_law_draws_here", "_law_size", "_law_labelled", "_law_first", "_law_second", "_law_word", "_law_least", "_law_most", "_law_due", "_law_m", "_law_more", "_law_kept", "_law_found", "_law_j", "_law_n", "_law_k", "_law_one"]
theorem sc_law : FnScope N_law ["_law_script"] (defScope s_law) := ⟨rfl, rfl, rfl, by decide +kernel, rfl, by decide +kernel, by decide +kernel⟩
structure Fx (K : PySem.W.Frag) (mg : Str → Option Value) (cls : Nat → Addr) where
  n_abs : mg "abs" = none
  n_all : mg "all" = none
  n_any : mg "any" = none
  n_bool : mg "bool" = none
  n_enumerate : mg "enumerate" = none
  n_int : mg "int" = none
  n_isinstance : mg "isinstance" = none
  n_len : mg "len" = none
  n_list : mg "list" = none
  n_max : mg "max" = none
  n_min : mg "min" = none
  n_range : mg "range" = none
  n_sum : mg "sum" = none
  c_MOST_ITEMS : ∃ t, mg "MOST_ITEMS" = some (.int 61 t)
  x_BadCounts : PySem.W.excIn K (cls 0) He.veBase "ValueError.__new__" = true ∧ mg "BadCounts" = some (.ref (cls 0)) ∧ PySem.W.keepIn K (.ref (cls 0)) = true ∧ PySem.W.subIn K (.ref (cls 0)) (.type "BaseException") = some true ∧ PySem.W.typeIn K (.ref (cls 0)) = some (.type "type")
  d_is_whole : FuncData
  F_is_whole : L2.Fun K "is_whole" "is_whole" s_is_whole (He.ga K "is_whole") d_is_whole
  g_is_whole : mg "is_whole" = some (.ref (He.ga K "is_whole"))
  b_is_whole : Binds K d_is_whole ["value"] []
  d_are_counts : FuncData
  F_are_counts : L2.Fun K "are_counts" "are_counts" s_are_counts (He.ga K "are_counts") d_are_counts
  g_are_counts : mg "are_counts" = some (.ref (He.ga K "are_counts"))
  b_are_counts : Binds K d_are_counts ["counts"] []
  d_binomials : FuncData
  F_binomials : L2.Fun K "binomials" "binomials" s_binomials (He.ga K "binomials") d_binomials
  g_binomials : mg "binomials" = some (.ref (He.ga K "binomials"))
  b_binomials : Binds K d_binomials ["size"] []
  d_totients : FuncData
  F_totients : L2.Fun K "totients" "totients" s_totients (He.ga K "totients") d_totients
  g_totients : mg "totients" = some (.ref (He.ga K "totients"))
  b_totients : Binds K d_totients ["size"] []
  d_product : FuncData
  F_product : L2.Fun K "product" "product" s_product (He.ga K "product") d_product
  g_product : mg "product" = some (.ref (He.ga K "product"))
  b_product : Binds K d_product ["first", "second", "labelled"] []
  d_unit : FuncData
  F_unit : L2.Fun K "unit" "unit" s_unit (He.ga K "unit") d_unit
  g_unit : mg "unit" = some (.ref (He.ga K "unit"))
  b_unit : Binds K d_unit ["count"] []
  d_powers : FuncData
  F_powers : L2.Fun K "powers" "powers" s_powers (He.ga K "powers") d_powers
  g_powers : mg "powers" = some (.ref (He.ga K "powers"))
  b_powers : Binds K d_powers ["counts", "most", "labelled"] []
  d_stretched : FuncData
  F_stretched : L2.Fun K "stretched" "stretched" s_stretched (He.ga K "stretched") d_stretched
  g_stretched : mg "stretched" = some (.ref (He.ga K "stretched"))
  b_stretched : Binds K d_stretched ["counts", "times"] []
  d_labelled_members : FuncData
  F_labelled_members : L2.Fun K "_labelled_members" "_labelled_members" s_labelled_members (He.ga K "_labelled_members") d_labelled_members
  g_labelled_members : mg "_labelled_members" = some (.ref (He.ga K "_labelled_members"))
  b_labelled_members : Binds K d_labelled_members ["counts", "word", "most"] []
  d_multisets : FuncData
  F_multisets : L2.Fun K "_multisets" "_multisets" s_multisets (He.ga K "_multisets") d_multisets
  g_multisets : mg "_multisets" = some (.ref (He.ga K "_multisets"))
  b_multisets : Binds K d_multisets ["counts", "most"] []
  d_turned_rows : FuncData
  F_turned_rows : L2.Fun K "turned_rows" "turned_rows" s_turned_rows (He.ga K "turned_rows") d_turned_rows
  g_turned_rows : mg "turned_rows" = some (.ref (He.ga K "turned_rows"))
  b_turned_rows : Binds K d_turned_rows ["counts", "most", "factors"] []
  d_members_table : FuncData
  F_members_table : L2.Fun K "members_table" "members_table" s_members_table (He.ga K "members_table") d_members_table
  g_members_table : mg "members_table" = some (.ref (He.ga K "members_table"))
  b_members_table : Binds K d_members_table ["counts", "word", "most", "labelled"] []
  d_summed : FuncData
  F_summed : L2.Fun K "summed" "summed" s_summed (He.ga K "summed") d_summed
  g_summed : mg "summed" = some (.ref (He.ga K "summed"))
  b_summed : Binds K d_summed ["table", "least", "most", "count"] []
  d_top_members : FuncData
  F_top_members : L2.Fun K "top_members" "top_members" s_top_members (He.ga K "top_members") d_top_members
  g_top_members : mg "top_members" = some (.ref (He.ga K "top_members"))
  b_top_members : Binds K d_top_members ["counts", "most"] []
  d_check : FuncData
  F_check : L2.Fun K "_check" "_check" s_check (He.ga K "_check") d_check
  g_check : mg "_check" = some (.ref (He.ga K "_check"))
  b_check : Binds K d_check ["counts", "word", "least", "most"] []
  d_made : FuncData
  F_made : L2.Fun K "_made" "_made" s_made (He.ga K "_made") d_made
  g_made : mg "_made" = some (.ref (He.ga K "_made"))
  b_made : Binds K d_made ["counts", "word", "least", "most", "labelled"] []
  d_pairs : FuncData
  F_pairs : L2.Fun K "pairs" "pairs" s_pairs (He.ga K "pairs") d_pairs
  g_pairs : mg "pairs" = some (.ref (He.ga K "pairs"))
  b_pairs : Binds K d_pairs ["first", "second", "labelled"] []
  d_rows : FuncData
  F_rows : L2.Fun K "rows" "rows" s_rows (He.ga K "rows") d_rows
  g_rows : mg "rows" = some (.ref (He.ga K "rows"))
  b_rows : Binds K d_rows ["counts", "least", "most", "labelled"] []
  d_sets : FuncData
  F_sets : L2.Fun K "sets" "sets" s_sets (He.ga K "sets") d_sets
  g_sets : mg "sets" = some (.ref (He.ga K "sets"))
  b_sets : Binds K d_sets ["counts", "least", "most", "labelled"] []
  d_rings : FuncData
  F_rings : L2.Fun K "rings" "rings" s_rings (He.ga K "rings") d_rings
  g_rings : mg "rings" = some (.ref (He.ga K "rings"))
  b_rings : Binds K d_rings ["counts", "least", "most", "labelled"] []
  d_law_draws : FuncData
  F_law_draws : L2.Fun K "_law_draws" "_law_draws" s_law_draws (He.ga K "_law_draws") d_law_draws
  g_law_draws : mg "_law_draws" = some (.ref (He.ga K "_law_draws"))
  b_law_draws : Binds K d_law_draws ["_law_script", "_law_many"] []
  d_law_binomial : FuncData
  F_law_binomial : L2.Fun K "_law_binomial" "_law_binomial" s_law_binomial (He.ga K "_law_binomial") d_law_binomial
  g_law_binomial : mg "_law_binomial" = some (.ref (He.ga K "_law_binomial"))
  b_law_binomial : Binds K d_law_binomial ["_law_n", "_law_k"] []
  d_law_rows : FuncData
  F_law_rows : L2.Fun K "_law_rows" "_law_rows" s_law_rows (He.ga K "_law_rows") d_law_rows
  g_law_rows : mg "_law_rows" = some (.ref (He.ga K "_law_rows"))
  b_law_rows : Binds K d_law_rows ["_law_counts", "_law_members_here", "_law_labelled"] []
  d_law_begun : FuncData
  F_law_begun : L2.Fun K "_law_begun" "_law_begun" s_law_begun (He.ga K "_law_begun") d_law_begun
  g_law_begun : mg "_law_begun" = some (.ref (He.ga K "_law_begun"))
  b_law_begun : Binds K d_law_begun ["_law_counts", "_law_rest"] []
  d_law_bag : FuncData
  F_law_bag : L2.Fun K "_law_bag" "_law_bag" s_law_bag (He.ga K "_law_bag") d_law_bag
  g_law_bag : mg "_law_bag" = some (.ref (He.ga K "_law_bag"))
  b_law_bag : Binds K d_law_bag ["_law_counts", "_law_most"] []
  d_law_common : FuncData
  F_law_common : L2.Fun K "_law_common" "_law_common" s_law_common (He.ga K "_law_common") d_law_common
  g_law_common : mg "_law_common" = some (.ref (He.ga K "_law_common"))
  b_law_common : Binds K d_law_common ["_law_a", "_law_b"] []
  d_law_turned : FuncData
  F_law_turned : L2.Fun K "_law_turned" "_law_turned" s_law_turned (He.ga K "_law_turned") d_law_turned
  g_law_turned : mg "_law_turned" = some (.ref (He.ga K "_law_turned"))
  b_law_turned : Binds K d_law_turned ["_law_counts", "_law_members_here"] []
  d_law_members : FuncData
  F_law_members : L2.Fun K "_law_members" "_law_members" s_law_members (He.ga K "_law_members") d_law_members
  g_law_members : mg "_law_members" = some (.ref (He.ga K "_law_members"))
  b_law_members : Binds K d_law_members ["_law_counts", "_law_word", "_law_m", "_law_labelled"] []
  d_law : FuncData
  F_law : L2.Fun K "law" "law" s_law (He.ga K "law") d_law
  g_law : mg "law" = some (.ref (He.ga K "law"))
  b_law : Binds K d_law ["_law_script"] []
section
variable {P : Program} {w : World} {K : PySem.W.Frag} {mg : Str → Option Value} {base : Heap} {cls : Nat → Addr}
theorem ok_is_whole (T : Fx K mg cls) : FnOk P w K mg base (L2.CX P w) 1 (He.ga K "is_whole") T.d_is_whole ["value"] (spD K cls [.s] .s m_is_whole) := by
  refine fn_d (N := N_is_whole) (nk := 0) (M2 := []) (body := b_is_whole) T.F_is_whole sc_is_whole rfl rfl rfl (.inl rfl) fun cdv A outer s H E F hr cx hp => ?_
  exact (ds_one (d_ret (d_and (d_isi cx (d_var 0) T.n_isinstance T.n_int) (d_and (d_not (d_isi cx (d_var 0) T.n_isinstance T.n_bool)) (d_one (d_cmp o_ge (d_var 0) d_int (nomark _)))))))
theorem ok_are_counts (T : Fx K mg cls) : FnOk P w K mg base (L2.CX P w) 2 (He.ga K "are_counts") T.d_are_counts ["counts"] (spD K cls [.s] .s m_are_counts) := by
  refine fn_d (N := N_are_counts) (nk := 1) (M2 := []) (body := b_are_counts) T.F_are_counts sc_are_counts rfl rfl rfl (.inl rfl) fun cdv A outer s H E F hr cx hp => ?_
  exact (ds_one (d_ret (d_and (d_isi cx (d_var 0) T.n_isinstance T.n_list) (d_and (d_chain o_le o_le d_int (d_callB (c_len cx) (da_cons (d_b (d_var 0)) da_nil) T.n_len (by decide +kernel)) (d_globI T.c_MOST_ITEMS)) (d_one (d_callB (c_all cx) (da_cons (d_b (d_lc (own := [("one", 1)]) (Mt := [.s, .s]) cx (di_seq (d_var 0) cx) (blkOk_by (N := N_are_counts) (sc := defScope s_are_counts) (by decide +kernel)) (fun _ _ _ _ _ => (dg_name (i := 1) cx.nd)) (fun _ _ _ _ _ => dts_nil) (fun _ _ _ _ _ cx => (d_call (ok_is_whole T) (hr.mono (by omega)) cx T.g_is_whole T.F_is_whole.kp T.b_is_whole (dm_cons (d_var 1) dm_nil))))) da_nil) T.n_all (by decide +kernel)))))))
theorem ok_binomials (T : Fx K mg cls) : FnOk P w K mg base (L2.CX P w) 1 (He.ga K "binomials") T.d_binomials ["size"] (spD K cls [.s] .s m_binomials) := by
  refine fn_d (N := N_binomials) (nk := 4) (M2 := []) (body := b_binomials) T.F_binomials sc_binomials rfl rfl rfl (.inl rfl) fun cdv A outer s H E F hr cx hp => ?_
  exact (ds_cons (M1 := [.s, .l, .u, .u, .u]) (d_asg (i := 1) (d_lst (da_cons (d_s (d_lst (da_cons d_int da_nil))) da_nil)) cx)
 (ds_cons (M1 := [.s, .l, .u, .u, .u]) (d_for (Mt := [.s, .l, .s, .u, .u]) (di_rng1 (da_cons (d_b (d_var 0)) da_nil) T.n_range) (dg_name (i := 2) cx.nd)
 (ds_post (M1 := [.s, .l, .s, .s, .u]) (ds_cons (M1 := [.s, .l, .s, .s, .u]) (d_asg (i := 3) (d_ix (o_ix cx) (d_varb 1) (d_un o_neg d_int)) cx)
 (ds_one (d_append (i := 1) (d_bin (o_addA cx) (d_bin (o_addA cx) (d_lst (da_cons d_int da_nil)) (d_lc (own := [("at", 4)]) (Mt := [.s, .l, .s, .s, .s]) cx (di_rng1 (da_cons (d_b (d_bin o_subI (d_callB (c_len cx) (da_cons (d_b (d_var 3)) da_nil) T.n_len (by decide +kernel)) d_int)) da_nil) T.n_range) (blkOk_by (N := N_binomials) (sc := defScope s_binomials) (by decide +kernel)) (fun _ _ _ _ _ => (dg_name (i := 4) cx.nd)) (fun _ _ _ _ _ => dts_nil) (fun _ _ _ _ _ cx => (d_bin (o_addA cx) (d_ix (o_ix cx) (d_var 3) (d_var 4)) (d_ix (o_ix cx) (d_var 3) (d_bin (o_addA cx) (d_var 4) d_int)))))) (d_lst (da_cons d_int da_nil))))))) cx hp)
 (ds_one (d_pre (M1 := [.s, .s, .u, .u, .u]) (d_ret (d_var 1))))))
theorem ok_totients (T : Fx K mg cls) : FnOk P w K mg base (L2.CX P w) 1 (He.ga K "totients") T.d_totients ["size"] (spD K cls [.s] .s m_totients) := by
  refine fn_d (N := N_totients) (nk := 3) (M2 := []) (body := b_totients) T.F_totients sc_totients rfl rfl rfl (.inl rfl) fun cdv A outer s H E F hr cx hp => ?_
  exact (ds_cons (M1 := [.s, .l, .u, .u]) (d_asg (i := 1) (d_listRg cx (dr_1 (d_bin (o_addA cx) (d_var 0) d_int) T.n_range) T.n_list) cx)
 (ds_cons (M1 := [.s, .l, .u, .u]) (d_for (Mt := [.s, .l, .s, .u]) (di_rng2 (da_cons (d_b d_int) (da_cons (d_b (d_bin (o_addA cx) (d_var 0) d_int)) da_nil)) T.n_range) (dg_name (i := 2) cx.nd)
 (ds_post (M1 := [.s, .l, .s, .u]) (ds_one (d_if (dt_cmp (o_eq cx) (d_ix (o_ix cx) (d_varb 1) (d_var 2)) (d_var 2) (nomark _))
 (ds_one (d_for (Mt := [.s, .l, .s, .s]) (di_rng3 (da_cons (d_b (d_var 2)) (da_cons (d_b (d_bin (o_addA cx) (d_var 0) d_int)) (da_cons (d_b (d_var 2)) da_nil))) T.n_range) (dg_name (i := 3) cx.nd)
 (ds_post (M1 := [.s, .l, .s, .s]) (ds_one (d_setix (i := 1) (d_bin (o_mulA cx) (d_bin o_fdivI (d_ix (o_ix cx) (d_varb 1) (d_var 3)) (d_var 2)) (d_bin o_subI (d_var 2) d_int)) (d_var 3)))) cx hp))
 ds_nil))) cx hp)
 (ds_one (d_pre (M1 := [.s, .s, .u, .u]) (d_ret (d_var 1))))))
theorem ok_product (T : Fx K mg cls) : FnOk P w K mg base (L2.CX P w) 2 (He.ga K "product") T.d_product ["first", "second", "labelled"] (spD K cls [.s, .s, .s] .s m_product) := by
  refine fn_d (N := N_product) (nk := 6) (M2 := []) (body := b_product) T.F_product sc_product rfl rfl rfl (.inl rfl) fun cdv A outer s H E F hr cx hp => ?_
  exact (ds_cons (M1 := [.s, .s, .s, .s, .u, .u, .u, .u, .u]) (d_asg (i := 3) (d_ifExp (dt_tru cx (d_var 2)) (d_call (ok_binomials T) (hr.mono (by omega)) cx T.g_binomials T.F_binomials.kp T.b_binomials (dm_cons (d_bin o_subI (d_callB (c_len cx) (da_cons (d_b (d_var 0)) da_nil) T.n_len (by decide +kernel)) d_int) dm_nil)) (d_s (d_lst da_nil))) cx)
 (ds_cons (M1 := [.s, .s, .s, .s, .l, .u, .u, .u, .u]) (d_asg (i := 4) (d_bin o_mulL (d_lst (da_cons d_int da_nil)) (d_callB (c_len cx) (da_cons (d_b (d_var 0)) da_nil) T.n_len (by decide +kernel))) cx)
 (ds_cons (M1 := [.s, .s, .s, .s, .l, .u, .u, .u, .u]) (d_for (Mt := [.s, .s, .s, .s, .l, .s, .s, .u, .u]) (di_enum cx (da_cons (d_var 0) da_nil) T.n_enumerate) (dg_tup cx.calm cx.K (dgs_cons (dg_name (i := 5) cx.nd) (dgs_cons (dg_name (i := 6) cx.nd) dgs_nil)) (gs_lenS (gs_lenS gs_len0)))
 (ds_post (M1 := [.s, .s, .s, .s, .l, .s, .s, .u, .u]) (ds_cons (M1 := [.s, .s, .s, .s, .l, .s, .s, .u, .u]) (d_if (dt_cmp (o_eq cx) (d_var 6) d_int (nomark _))
 (ds_one d_continue)
 ds_nil)
 (ds_one (d_for (Mt := [.s, .s, .s, .s, .l, .s, .s, .s, .u]) (di_rng1 (da_cons (d_b (d_bin o_subI (d_callB (c_len cx) (da_cons (d_b (d_var 0)) da_nil) T.n_len (by decide +kernel)) (d_var 5))) da_nil) T.n_range) (dg_name (i := 7) cx.nd)
 (ds_post (M1 := [.s, .s, .s, .s, .l, .s, .s, .s, .s]) (ds_cons (M1 := [.s, .s, .s, .s, .l, .s, .s, .s, .s]) (d_asg (i := 8) (d_bin (o_mulA cx) (d_var 6) (d_ix (o_ix cx) (d_var 1) (d_var 7))) cx)
 (ds_one (d_augix (i := 4) cx o_iaddI (d_bin (o_addA cx) (d_var 5) (d_var 7)) (d_ifExp (dt_tru cx (d_var 2)) (d_bin (o_mulA cx) (d_var 8) (d_ix (o_ix cx) (d_ix (o_ix cx) (d_var 3) (d_bin (o_addA cx) (d_var 5) (d_var 7))) (d_var 5))) (d_var 8)))))) cx hp)))) cx hp)
 (ds_one (d_pre (M1 := [.s, .s, .s, .s, .s, .u, .u, .u, .u]) (d_ret (d_var 4)))))))
theorem ok_unit (T : Fx K mg cls) : FnOk P w K mg base (L2.CX P w) 1 (He.ga K "unit") T.d_unit ["count"] (spD K cls [.s] .s m_unit) := by
  refine fn_d (N := N_unit) (nk := 0) (M2 := []) (body := b_unit) T.F_unit sc_unit rfl rfl rfl (.inl rfl) fun cdv A outer s H E F hr cx hp => ?_
  exact (ds_one (d_ret (d_bin (o_addA cx) (d_lst (da_cons d_int da_nil)) (d_bin (o_mulA cx) (d_lst (da_cons d_int da_nil)) (d_bin o_subI (d_var 0) d_int)))))
theorem ok_powers (T : Fx K mg cls) : FnOk P w K mg base (L2.CX P w) 3 (He.ga K "powers") T.d_powers ["counts", "most", "labelled"] (spD K cls [.s, .s, .s] .l m_powers) := by
  refine fn_d (N := N_powers) (nk := 2) (M2 := []) (body := b_powers) T.F_powers sc_powers rfl rfl rfl (.inr (nnx_seq (nnx_seq nnx_ret))) fun cdv A outer s H E F hr cx hp => ?_
  exact (ds_cons (M1 := [.s, .s, .s, .l, .u]) (d_asg (i := 3) (d_lst (da_cons (d_call (ok_unit T) (hr.mono (by omega)) cx T.g_unit T.F_unit.kp T.b_unit (dm_cons (d_callB (c_len cx) (da_cons (d_b (d_var 0)) da_nil) T.n_len (by decide +kernel)) dm_nil)) da_nil)) cx)
 (ds_cons (M1 := [.s, .s, .s, .l, .u]) (d_for (Mt := [.s, .s, .s, .l, .s]) (di_rng1 (da_cons (d_b (d_var 1)) da_nil) T.n_range) (dg_name (i := 4) cx.nd)
 (ds_post (M1 := [.s, .s, .s, .l, .s]) (ds_one (d_append (i := 3) (d_call (ok_product T) (hr.mono (by omega)) cx T.g_product T.F_product.kp T.b_product (dm_cons (d_ix (o_ix cx) (d_varb 3) (d_un o_neg d_int)) (dm_cons (d_var 0) (dm_cons (d_var 2) dm_nil))))))) cx hp)
 (ds_one (d_retO 3))))
theorem ok_stretched (T : Fx K mg cls) : FnOk P w K mg base (L2.CX P w) 1 (He.ga K "stretched") T.d_stretched ["counts", "times"] (spD K cls [.s, .s] .s m_stretched) := by
  refine fn_d (N := N_stretched) (nk := 2) (M2 := []) (body := b_stretched) T.F_stretched sc_stretched rfl rfl rfl (.inl rfl) fun cdv A outer s H E F hr cx hp => ?_
  exact (ds_cons (M1 := [.s, .s, .l, .u]) (d_asg (i := 2) (d_bin o_mulL (d_lst (da_cons d_int da_nil)) (d_callB (c_len cx) (da_cons (d_b (d_var 0)) da_nil) T.n_len (by decide +kernel))) cx)
 (ds_cons (M1 := [.s, .s, .l, .u]) (d_for (Mt := [.s, .s, .l, .s]) (di_rng2 (da_cons (d_b d_int) (da_cons (d_b (d_bin (o_addA cx) (d_bin o_fdivI (d_bin o_subI (d_callB (c_len cx) (da_cons (d_b (d_var 0)) da_nil) T.n_len (by decide +kernel)) d_int) (d_var 1)) d_int)) da_nil)) T.n_range) (dg_name (i := 3) cx.nd)
 (ds_post (M1 := [.s, .s, .l, .s]) (ds_one (d_setix (i := 2) (d_ix (o_ix cx) (d_var 0) (d_var 3)) (d_bin (o_mulA cx) (d_var 3) (d_var 1))))) cx hp)
 (ds_one (d_pre (M1 := [.s, .s, .s, .u]) (d_ret (d_var 2))))))
theorem ok_labelled_members (T : Fx K mg cls) : FnOk P w K mg base (L2.CX P w) 4 (He.ga K "_labelled_members") T.d_labelled_members ["counts", "word", "most"] (spD K cls [.s, .s, .s] .s m_labelled_members) := by
  refine fn_d (N := N_labelled_members) (nk := 4) (M2 := []) (body := b_labelled_members) T.F_labelled_members sc_labelled_members rfl rfl rfl (.inl rfl) fun cdv A outer s H E F hr cx hp => ?_
  exact (ds_cons (M1 := [.s, .s, .s, .l, .u, .u, .u]) (d_asg (i := 3) (d_call (ok_powers T) (hr.mono (by omega)) cx T.g_powers T.F_powers.kp T.b_powers (dm_cons (d_var 0) (dm_cons (d_var 2) (dm_cons d_bl dm_nil)))) cx)
 (ds_cons (M1 := [.s, .s, .s, .l, .s, .u, .u]) (d_asg (i := 4) d_int cx)
 (ds_cons (M1 := [.s, .s, .s, .l, .s, .u, .u]) (d_for (Mt := [.s, .s, .s, .l, .s, .s, .u]) (di_rng2 (da_cons (d_b d_int) (da_cons (d_b (d_bin (o_addA cx) (d_var 2) d_int)) da_nil)) T.n_range) (dg_name (i := 5) cx.nd)
 (ds_post (M1 := [.s, .s, .s, .l, .s, .s, .u]) (ds_cons (M1 := [.s, .s, .s, .l, .s, .s, .u]) (d_asg (i := 4) (d_ifExp (dt_cmp (o_eq cx) (d_var 1) d_str (nomark _)) (d_bin (o_mulA cx) (d_var 4) (d_var 5)) (d_var 5)) cx)
 (ds_one (d_if (dt_cmp (o_ne cx) (d_var 1) d_str (nomark _))
 (ds_one (d_setix (i := 3) (d_s (d_lc (own := [("one", 6)]) (Mt := [.s, .s, .s, .l, .s, .s, .s]) cx (di_seq (d_ix (o_ix cx) (d_varb 3) (d_var 5)) cx) (blkOk_by (N := N_labelled_members) (sc := defScope s_labelled_members) (by decide +kernel)) (fun _ _ _ _ _ => (dg_name (i := 6) cx.nd)) (fun _ _ _ _ _ => dts_nil) (fun _ _ _ _ _ cx => (d_bin o_fdivI (d_var 6) (d_var 4))))) (d_var 5)))
 ds_nil)))) cx hp)
 (ds_one (d_pre (M1 := [.s, .s, .s, .s, .s, .u, .u]) (d_ret (d_var 3)))))))
theorem ok_multisets (T : Fx K mg cls) : FnOk P w K mg base (L2.CX P w) 3 (He.ga K "_multisets") T.d_multisets ["counts", "most"] (spD K cls [.s, .s] .s m_multisets) := by
  refine fn_d (N := N_multisets) (nk := 7) (M2 := []) (body := b_multisets) T.F_multisets sc_multisets rfl rfl rfl (.inl rfl) fun cdv A outer s H E F hr cx hp => ?_
  exact (ds_cons (M1 := [.s, .s, .l, .u, .u, .u, .u, .u, .u]) (d_asg (i := 2) (d_lst (da_cons (d_call (ok_unit T) (hr.mono (by omega)) cx T.g_unit T.F_unit.kp T.b_unit (dm_cons (d_callB (c_len cx) (da_cons (d_b (d_var 0)) da_nil) T.n_len (by decide +kernel)) dm_nil)) da_nil)) cx)
 (ds_cons (M1 := [.s, .s, .l, .u, .u, .u, .u, .u, .u]) (d_for (Mt := [.s, .s, .l, .s, .u, .u, .u, .u, .u]) (di_rng2 (da_cons (d_b d_int) (da_cons (d_b (d_bin (o_addA cx) (d_var 1) d_int)) da_nil)) T.n_range) (dg_name (i := 3) cx.nd)
 (ds_post (M1 := [.s, .s, .l, .s, .s, .u, .u, .u, .u]) (ds_cons (M1 := [.s, .s, .l, .s, .s, .u, .u, .u, .u]) (d_asg (i := 4) (d_bin (o_mulA cx) (d_lst (da_cons d_int da_nil)) (d_callB (c_len cx) (da_cons (d_b (d_var 0)) da_nil) T.n_len (by decide +kernel))) cx)
 (ds_cons (M1 := [.s, .s, .l, .s, .s, .u, .u, .u, .u]) (d_for (Mt := [.s, .s, .l, .s, .s, .s, .u, .u, .u]) (di_rng2 (da_cons (d_b d_int) (da_cons (d_b (d_bin (o_addA cx) (d_var 3) d_int)) da_nil)) T.n_range) (dg_name (i := 5) cx.nd)
 (ds_post (M1 := [.s, .s, .l, .s, .s, .s, .s, .u, .u]) (ds_cons (M1 := [.s, .s, .l, .s, .s, .s, .s, .u, .u]) (d_asg (i := 6) (d_call (ok_product T) (hr.mono (by omega)) cx T.g_product T.F_product.kp T.b_product (dm_cons (d_call (ok_stretched T) (hr.mono (by omega)) cx T.g_stretched T.F_stretched.kp T.b_stretched (dm_cons (d_var 0) (dm_cons (d_var 5) dm_nil))) (dm_cons (d_ix (o_ix cx) (d_varb 2) (d_bin o_subI (d_var 3) (d_var 5))) (dm_cons d_bl dm_nil)))) cx)
 (ds_one (d_asg (i := 4) (d_s (d_lc (own := [("at", 7)]) (Mt := [.s, .s, .l, .s, .s, .s, .s, .s, .u]) cx (di_rng1 (da_cons (d_b (d_callB (c_len cx) (da_cons (d_b (d_var 4)) da_nil) T.n_len (by decide +kernel))) da_nil) T.n_range) (blkOk_by (N := N_multisets) (sc := defScope s_multisets) (by decide +kernel)) (fun _ _ _ _ _ => (dg_name (i := 7) cx.nd)) (fun _ _ _ _ _ => dts_nil) (fun _ _ _ _ _ cx => (d_bin (o_addA cx) (d_ix (o_ix cx) (d_var 4) (d_var 7)) (d_ix (o_ix cx) (d_var 6) (d_var 7)))))) cx)))) cx hp)
 (ds_one (d_append (i := 2) (d_s (d_lc (own := [("one", 8)]) (Mt := [.s, .s, .l, .s, .s, .u, .u, .u, .s]) cx (di_seq (d_var 4) cx) (blkOk_by (N := N_multisets) (sc := defScope s_multisets) (by decide +kernel)) (fun _ _ _ _ _ => (dg_name (i := 8) cx.nd)) (fun _ _ _ _ _ => dts_nil) (fun _ _ _ _ _ cx => (d_bin o_fdivI (d_var 8) (d_var 3)))))))))) cx hp)
 (ds_one (d_pre (M1 := [.s, .s, .s, .u, .u, .u, .u, .u, .u]) (d_ret (d_var 2))))))
theorem ok_turned_rows (T : Fx K mg cls) : FnOk P w K mg base (L2.CX P w) 4 (He.ga K "turned_rows") T.d_turned_rows ["counts", "most", "factors"] (spD K cls [.s, .s, .s] .s m_turned_rows) := by
  refine fn_d (N := N_turned_rows) (nk := 8) (M2 := []) (body := b_turned_rows) T.F_turned_rows sc_turned_rows rfl rfl rfl (.inl rfl) fun cdv A outer s H E F hr cx hp => ?_
  exact (ds_cons (M1 := [.s, .s, .s, .s, .u, .u, .u, .u, .u, .u, .u]) (d_asg (i := 3) (d_s (d_call (ok_powers T) (hr.mono (by omega)) cx T.g_powers T.F_powers.kp T.b_powers (dm_cons (d_var 0) (dm_cons (d_var 1) (dm_cons d_bl dm_nil))))) cx)
 (ds_cons (M1 := [.s, .s, .s, .s, .l, .u, .u, .u, .u, .u, .u]) (d_asg (i := 4) (d_lst (da_cons (d_call (ok_unit T) (hr.mono (by omega)) cx T.g_unit T.F_unit.kp T.b_unit (dm_cons (d_callB (c_len cx) (da_cons (d_b (d_var 0)) da_nil) T.n_len (by decide +kernel)) dm_nil)) da_nil)) cx)
 (ds_cons (M1 := [.s, .s, .s, .s, .l, .u, .u, .u, .u, .u, .u]) (d_for (Mt := [.s, .s, .s, .s, .l, .s, .u, .u, .u, .u, .u]) (di_rng2 (da_cons (d_b d_int) (da_cons (d_b (d_bin (o_addA cx) (d_var 1) d_int)) da_nil)) T.n_range) (dg_name (i := 5) cx.nd)
 (ds_post (M1 := [.s, .s, .s, .s, .l, .s, .s, .u, .u, .u, .u]) (ds_cons (M1 := [.s, .s, .s, .s, .l, .s, .s, .u, .u, .u, .u]) (d_asg (i := 6) (d_bin (o_mulA cx) (d_lst (da_cons d_int da_nil)) (d_callB (c_len cx) (da_cons (d_b (d_var 0)) da_nil) T.n_len (by decide +kernel))) cx)
 (ds_cons (M1 := [.s, .s, .s, .s, .l, .s, .s, .u, .u, .u, .u]) (d_for (Mt := [.s, .s, .s, .s, .l, .s, .s, .s, .u, .u, .u]) (di_rng2 (da_cons (d_b d_int) (da_cons (d_b (d_bin (o_addA cx) (d_var 5) d_int)) da_nil)) T.n_range) (dg_name (i := 7) cx.nd)
 (ds_post (M1 := [.s, .s, .s, .s, .l, .s, .s, .s, .u, .u, .u]) (ds_one (d_if (dt_cmp (o_eq cx) (d_bin o_modI (d_var 5) (d_var 7)) d_int (nomark _))
 (ds_post (M1 := [.s, .s, .s, .s, .l, .s, .s, .s, .s, .u, .u]) (ds_cons (M1 := [.s, .s, .s, .s, .l, .s, .s, .s, .s, .u, .u]) (d_asg (i := 8) (d_call (ok_stretched T) (hr.mono (by omega)) cx T.g_stretched T.F_stretched.kp T.b_stretched (dm_cons (d_ix (o_ix cx) (d_var 3) (d_bin o_fdivI (d_var 5) (d_var 7))) (dm_cons (d_var 7) dm_nil))) cx)
 (ds_one (d_asg (i := 6) (d_s (d_lc (own := [("at", 10)]) (Mt := [.s, .s, .s, .s, .l, .s, .s, .s, .s, .u, .s]) cx (di_rng1 (da_cons (d_b (d_callB (c_len cx) (da_cons (d_b (d_var 6)) da_nil) T.n_len (by decide +kernel))) da_nil) T.n_range) (blkOk_by (N := N_turned_rows) (sc := defScope s_turned_rows) (by decide +kernel)) (fun _ _ _ _ _ => (dg_name (i := 10) cx.nd)) (fun _ _ _ _ _ => dts_nil) (fun _ _ _ _ _ cx => (d_bin (o_addA cx) (d_ix (o_ix cx) (d_var 6) (d_var 10)) (d_bin (o_mulA cx) (d_ix (o_ix cx) (d_var 2) (d_var 7)) (d_ix (o_ix cx) (d_var 8) (d_var 10))))))) cx))))
 ds_nil))) cx hp)
 (ds_one (d_append (i := 4) (d_s (d_lc (own := [("one", 9)]) (Mt := [.s, .s, .s, .s, .l, .s, .s, .u, .u, .s, .u]) cx (di_seq (d_var 6) cx) (blkOk_by (N := N_turned_rows) (sc := defScope s_turned_rows) (by decide +kernel)) (fun _ _ _ _ _ => (dg_name (i := 9) cx.nd)) (fun _ _ _ _ _ => dts_nil) (fun _ _ _ _ _ cx => (d_bin o_fdivI (d_var 9) (d_var 5)))))))))) cx hp)
 (ds_one (d_pre (M1 := [.s, .s, .s, .s, .s, .u, .u, .u, .u, .u, .u]) (d_ret (d_var 4)))))))
theorem ok_members_table (T : Fx K mg cls) : FnOk P w K mg base (L2.CX P w) 5 (He.ga K "members_table") T.d_members_table ["counts", "word", "most", "labelled"] (spD K cls [.s, .s, .s, .s] .s m_members_table) := by
  refine fn_d (N := N_members_table) (nk := 0) (M2 := []) (body := b_members_table) T.F_members_table sc_members_table rfl rfl rfl (.inl rfl) fun cdv A outer s H E F hr cx hp => ?_
  exact (ds_cons (M1 := [.s, .s, .s, .s]) (d_if (dt_cmp (o_eq cx) (d_var 1) d_str (nomark _))
 (ds_one (d_ret (d_s (d_call (ok_powers T) (hr.mono (by omega)) cx T.g_powers T.F_powers.kp T.b_powers (dm_cons (d_var 0) (dm_cons (d_var 2) (dm_cons (d_var 3) dm_nil)))))))
 ds_nil)
 (ds_cons (M1 := [.s, .s, .s, .s]) (d_if (dt_tru cx (d_var 3))
 (ds_one (d_ret (d_call (ok_labelled_members T) (hr.mono (by omega)) cx T.g_labelled_members T.F_labelled_members.kp T.b_labelled_members (dm_cons (d_var 0) (dm_cons (d_var 1) (dm_cons (d_var 2) dm_nil))))))
 ds_nil)
 (ds_cons (M1 := [.s, .s, .s, .s]) (d_if (dt_cmp (o_eq cx) (d_var 1) d_str (nomark _))
 (ds_one (d_ret (d_call (ok_multisets T) (hr.mono (by omega)) cx T.g_multisets T.F_multisets.kp T.b_multisets (dm_cons (d_var 0) (dm_cons (d_var 2) dm_nil)))))
 ds_nil)
 (ds_one (d_ret (d_call (ok_turned_rows T) (hr.mono (by omega)) cx T.g_turned_rows T.F_turned_rows.kp T.b_turned_rows (dm_cons (d_var 0) (dm_cons (d_var 2) (dm_cons (d_call (ok_totients T) (hr.mono (by omega)) cx T.g_totients T.F_totients.kp T.b_totients (dm_cons (d_var 2) dm_nil)) dm_nil)))))))))
theorem ok_summed (T : Fx K mg cls) : FnOk P w K mg base (L2.CX P w) 1 (He.ga K "summed") T.d_summed ["table", "least", "most", "count"] (spD K cls [.s, .s, .s, .s] .s m_summed) := by
  refine fn_d (N := N_summed) (nk := 3) (M2 := []) (body := b_summed) T.F_summed sc_summed rfl rfl rfl (.inl rfl) fun cdv A outer s H E F hr cx hp => ?_
  exact (ds_cons (M1 := [.s, .s, .s, .s, .s, .u, .u]) (d_asg (i := 4) (d_bin (o_mulA cx) (d_lst (da_cons d_int da_nil)) (d_var 3)) cx)
 (ds_cons (M1 := [.s, .s, .s, .s, .s, .u, .u]) (d_for (Mt := [.s, .s, .s, .s, .s, .s, .u]) (di_rng2 (da_cons (d_b (d_var 1)) (da_cons (d_b (d_bin (o_addA cx) (d_callB (c_min2 cx) (da_cons (d_b (d_var 2)) (da_cons (d_b (d_bin o_subI (d_callB (c_len cx) (da_cons (d_b (d_var 0)) da_nil) T.n_len (by decide +kernel)) d_int)) da_nil)) T.n_min (by decide +kernel)) d_int)) da_nil)) T.n_range) (dg_name (i := 5) cx.nd)
 (ds_post (M1 := [.s, .s, .s, .s, .s, .s, .u]) (ds_one (d_asg (i := 4) (d_s (d_lc (own := [("at", 6)]) (Mt := [.s, .s, .s, .s, .s, .s, .s]) cx (di_rng1 (da_cons (d_b (d_var 3)) da_nil) T.n_range) (blkOk_by (N := N_summed) (sc := defScope s_summed) (by decide +kernel)) (fun _ _ _ _ _ => (dg_name (i := 6) cx.nd)) (fun _ _ _ _ _ => dts_nil) (fun _ _ _ _ _ cx => (d_bin (o_addA cx) (d_ix (o_ix cx) (d_var 4) (d_var 6)) (d_ix (o_ix cx) (d_ix (o_ix cx) (d_var 0) (d_var 5)) (d_var 6)))))) cx))) cx hp)
 (ds_one (d_ret (d_var 4)))))
theorem ok_top_members (T : Fx K mg cls) : FnOk P w K mg base (L2.CX P w) 1 (He.ga K "top_members") T.d_top_members ["counts", "most"] (spD K cls [.s, .s] .s m_top_members) := by
  refine fn_d (N := N_top_members) (nk := 1) (M2 := []) (body := b_top_members) T.F_top_members sc_top_members rfl rfl rfl (.inl rfl) fun cdv A outer s H E F hr cx hp => ?_
  exact (ds_cons (M1 := [.s, .s, .s]) (d_asg (i := 2) (d_ifExp (dt_cmp (o_eq cx) (d_ix (o_ix cx) (d_var 0) d_int) d_int (nomark _)) (d_bin o_subI (d_callB (c_len cx) (da_cons (d_b (d_var 0)) da_nil) T.n_len (by decide +kernel)) d_int) d_int) cx)
 (ds_one (d_ret (d_ifExp (dt_cmp o_isN (d_var 1) d_non (nomark _)) (d_var 2) (d_callB (c_min2 cx) (da_cons (d_b (d_var 1)) (da_cons (d_b (d_var 2)) da_nil)) T.n_min (by decide +kernel))))))
theorem ok_check (T : Fx K mg cls) : FnOk P w K mg base (L2.CX P w) 3 (He.ga K "_check") T.d_check ["counts", "word", "least", "most"] (spD K cls [.s, .s, .s, .s] .s m_check) := by
  refine fn_d (N := N_check) (nk := 0) (M2 := [.s, .s, .s, .s]) (body := b_check) T.F_check sc_check rfl rfl rfl (.inl rfl) fun cdv A outer s H E F hr cx hp => ?_
  exact (ds_cons (M1 := [.s, .s, .s, .s]) (d_if (PW.pt (dw_or (dt_not (dt_tru cx (d_call (ok_are_counts T) (hr.mono (by omega)) cx T.g_are_counts T.F_are_counts.kp T.b_are_counts (dm_cons (d_var 0) dm_nil)))) (dw_or (dt_not (dt_tru cx (d_call (ok_is_whole T) (hr.mono (by omega)) cx T.g_is_whole T.F_is_whole.kp T.b_is_whole (dm_cons (d_var 2) dm_nil)))) (dw_or1 (PW.pt (dw_and (dt_cmp (o_eq cx) (d_var 1) d_str (nomark _)) (dw_and1 (dt_cmp (o_eq cx) (d_var 2) d_int (nomark _)))))))))
 (ds_one (d_raise (n := 0) cx PySem.F.excBase_ValueError T.x_BadCounts.1 T.x_BadCounts.2.1 T.x_BadCounts.2.2.1 (raises_own T.x_BadCounts.2.2.2.1 T.x_BadCounts.2.2.2.2)))
 ds_nil)
 (ds_cons (M1 := [.s, .s, .s, .s]) (d_if (PW.pt (dw_and (dt_cmp o_notN (d_var 3) d_non (nomark _)) (dw_and1 (PW.pt (dw_or (dt_not (dt_tru cx (d_call (ok_is_whole T) (hr.mono (by omega)) cx T.g_is_whole T.F_is_whole.kp T.b_is_whole (dm_cons (d_var 3) dm_nil)))) (dw_or1 (dt_cmp o_lt (d_var 3) (d_var 2) (nomark _))))))))
 (ds_one (d_raise (n := 0) cx PySem.F.excBase_ValueError T.x_BadCounts.1 T.x_BadCounts.2.1 T.x_BadCounts.2.2.1 (raises_own T.x_BadCounts.2.2.2.1 T.x_BadCounts.2.2.2.2)))
 ds_nil)
 (ds_one (d_if (PW.pt (dw_and (dt_cmp o_gt (d_ix (o_ix cx) (d_var 0) d_int) d_int (nomark _)) (dw_and1 (PW.pt (dw_or (dt_cmp o_isN (d_var 3) d_non (nomark _)) (dw_or1 (dt_cmp o_gt (d_var 3) d_int (nomark _))))))))
 (ds_one (d_raise (n := 0) cx PySem.F.excBase_ValueError T.x_BadCounts.1 T.x_BadCounts.2.1 T.x_BadCounts.2.2.1 (raises_own T.x_BadCounts.2.2.2.1 T.x_BadCounts.2.2.2.2)))
 ds_nil))))
theorem ok_made (T : Fx K mg cls) : FnOk P w K mg base (L2.CX P w) 6 (He.ga K "_made") T.d_made ["counts", "word", "least", "most", "labelled"] (spD K cls [.s, .s, .s, .s, .s] .s m_made) := by
  refine fn_d (N := N_made) (nk := 1) (M2 := []) (body := b_made) T.F_made sc_made rfl rfl rfl (.inl rfl) fun cdv A outer s H E F hr cx hp => ?_
  exact (ds_cons (M1 := [.s, .s, .s, .s, .s, .u]) (d_expr (d_call (ok_check T) (hr.mono (by omega)) cx T.g_check T.F_check.kp T.b_check (dm_cons (d_var 0) (dm_cons (d_var 1) (dm_cons (d_var 2) (dm_cons (d_var 3) dm_nil))))))
 (ds_cons (M1 := [.s, .s, .s, .s, .s, .s]) (d_asg (i := 5) (d_call (ok_top_members T) (hr.mono (by omega)) cx T.g_top_members T.F_top_members.kp T.b_top_members (dm_cons (d_var 0) (dm_cons (d_var 3) dm_nil))) cx)
 (ds_one (d_ret (d_call (ok_summed T) (hr.mono (by omega)) cx T.g_summed T.F_summed.kp T.b_summed (dm_cons (d_call (ok_members_table T) (hr.mono (by omega)) cx T.g_members_table T.F_members_table.kp T.b_members_table (dm_cons (d_var 0) (dm_cons (d_var 1) (dm_cons (d_var 5) (dm_cons (d_var 4) dm_nil))))) (dm_cons (d_var 2) (dm_cons (d_var 5) (dm_cons (d_callB (c_len cx) (da_cons (d_b (d_var 0)) da_nil) T.n_len (by decide +kernel)) dm_nil)))))))))
theorem ok_pairs (T : Fx K mg cls) : FnOk P w K mg base (L2.CX P w) 3 (He.ga K "pairs") T.d_pairs ["first", "second", "labelled"] (spD K cls [.s, .s, .s] .s m_pairs) := by
  refine fn_d (N := N_pairs) (nk := 0) (M2 := []) (body := b_pairs) T.F_pairs sc_pairs rfl rfl rfl (.inl rfl) fun cdv A outer s H E F hr cx hp => ?_
  exact (ds_cons (M1 := [.s, .s, .s]) (d_if (PW.pt (dw_or (dt_not (dt_tru cx (d_call (ok_are_counts T) (hr.mono (by omega)) cx T.g_are_counts T.F_are_counts.kp T.b_are_counts (dm_cons (d_var 0) dm_nil)))) (dw_or (dt_not (dt_tru cx (d_call (ok_are_counts T) (hr.mono (by omega)) cx T.g_are_counts T.F_are_counts.kp T.b_are_counts (dm_cons (d_var 1) dm_nil)))) (dw_or1 (dt_cmp (o_ne cx) (d_callB (c_len cx) (da_cons (d_b (d_var 0)) da_nil) T.n_len (by decide +kernel)) (d_callB (c_len cx) (da_cons (d_b (d_var 1)) da_nil) T.n_len (by decide +kernel)) (nomark _))))))
 (ds_one (d_raise (n := 0) cx PySem.F.excBase_ValueError T.x_BadCounts.1 T.x_BadCounts.2.1 T.x_BadCounts.2.2.1 (raises_own T.x_BadCounts.2.2.2.1 T.x_BadCounts.2.2.2.2)))
 ds_nil)
 (ds_one (d_ret (d_call (ok_product T) (hr.mono (by omega)) cx T.g_product T.F_product.kp T.b_product (dm_cons (d_var 0) (dm_cons (d_var 1) (dm_cons (d_var 2) dm_nil)))))))
theorem ok_rows (T : Fx K mg cls) : FnOk P w K mg base (L2.CX P w) 7 (He.ga K "rows") T.d_rows ["counts", "least", "most", "labelled"] (spD K cls [.s, .s, .s, .s] .s m_rows) := by
  refine fn_d (N := N_rows) (nk := 0) (M2 := []) (body := b_rows) T.F_rows sc_rows rfl rfl rfl (.inl rfl) fun cdv A outer s H E F hr cx hp => ?_
  exact (ds_one (d_ret (d_call (ok_made T) (hr.mono (by omega)) cx T.g_made T.F_made.kp T.b_made (dm_cons (d_var 0) (dm_cons d_str (dm_cons (d_var 1) (dm_cons (d_var 2) (dm_cons (d_var 3) dm_nil))))))))
theorem ok_sets (T : Fx K mg cls) : FnOk P w K mg base (L2.CX P w) 7 (He.ga K "sets") T.d_sets ["counts", "least", "most", "labelled"] (spD K cls [.s, .s, .s, .s] .s m_sets) := by
  refine fn_d (N := N_sets) (nk := 0) (M2 := []) (body := b_sets) T.F_sets sc_sets rfl rfl rfl (.inl rfl) fun cdv A outer s H E F hr cx hp => ?_
  exact (ds_one (d_ret (d_call (ok_made T) (hr.mono (by omega)) cx T.g_made T.F_made.kp T.b_made (dm_cons (d_var 0) (dm_cons d_str (dm_cons (d_var 1) (dm_cons (d_var 2) (dm_cons (d_var 3) dm_nil))))))))
theorem ok_rings (T : Fx K mg cls) : FnOk P w K mg base (L2.CX P w) 7 (He.ga K "rings") T.d_rings ["counts", "least", "most", "labelled"] (spD K cls [.s, .s, .s, .s] .s m_rings) := by
  refine fn_d (N := N_rings) (nk := 0) (M2 := []) (body := b_rings) T.F_rings sc_rings rfl rfl rfl (.inl rfl) fun cdv A outer s H E F hr cx hp => ?_
  exact (ds_one (d_ret (d_call (ok_made T) (hr.mono (by omega)) cx T.g_made T.F_made.kp T.b_made (dm_cons (d_var 0) (dm_cons d_str (dm_cons (d_var 1) (dm_cons (d_var 2) (dm_cons (d_var 3) dm_nil))))))))
theorem ok_law_draws (T : Fx K mg cls) : FnOk P w K mg base (L2.CX P w) 1 (He.ga K "_law_draws") T.d_law_draws ["_law_script", "_law_many"] (spD K cls [.s, .s] .s m_law_draws) := by
  refine fn_d (N := N_law_draws) (nk := 5) (M2 := []) (body := b_law_draws) T.F_law_draws sc_law_draws rfl rfl rfl (.inl rfl) fun cdv A outer s H E F hr cx hp => ?_
  exact (ds_cons (M1 := [.s, .s, .l, .u, .u, .u, .u]) (d_asg (i := 2) (d_lst da_nil) cx)
 (ds_cons (M1 := [.s, .s, .l, .s, .u, .u, .u]) (d_asg (i := 3) d_int cx)
 (ds_cons (M1 := [.s, .s, .l, .s, .u, .u, .u]) (d_for (Mt := [.s, .s, .l, .s, .s, .u, .u]) (di_seq (d_slA cx (d_var 0) do_none (do_some d_int)) cx) (dg_name (i := 4) cx.nd)
 (ds_post (M1 := [.s, .s, .l, .s, .s, .s, .u]) (ds_cons (M1 := [.s, .s, .l, .s, .s, .s, .u]) (d_asg (i := 5) (d_callB c_abs (da_cons (d_b (d_var 4)) da_nil) T.n_abs (by decide +kernel)) cx)
 (ds_cons (M1 := [.s, .s, .l, .s, .s, .s, .u]) (d_asg (i := 3) (d_bin o_modI (d_callTy c_int (da_cons (d_b (d_bin (o_addA cx) (d_bin (o_addA cx) (d_bin (o_mulA cx) (d_var 3) d_int) (d_var 5)) d_int)) da_nil) T.n_int (by decide +kernel)) d_int) cx)
 (ds_one (d_if (dt_cmp o_ge (d_var 5) (d_bin o_powI d_int d_int) (nomark _))
 (ds_one (d_for (Mt := [.s, .s, .l, .s, .s, .s, .s]) (di_rng1 (da_cons (d_b d_int) da_nil) T.n_range) (dg_name (i := 6) cx.nd)
 (ds_post (M1 := [.s, .s, .l, .s, .s, .s, .s]) (ds_one (d_if (dt_cmp o_gt (d_var 5) d_int (nomark _))
 (ds_cons (M1 := [.s, .s, .l, .s, .s, .s, .s]) (d_append (i := 2) (d_bin o_modI (d_callTy c_int (da_cons (d_b (d_var 5)) da_nil) T.n_int (by decide +kernel)) d_int))
 (ds_one (d_asg (i := 5) (d_bin o_fdivI (d_var 5) d_int) cx)))
 ds_nil))) cx hp))
 (ds_one (d_append (i := 2) (d_bin o_modI (d_bin o_fdivI (d_callTy c_int (da_cons (d_b (d_bin (o_addA cx) (d_bin (o_mulA cx) (d_var 3) d_int) d_int)) da_nil) T.n_int (by decide +kernel)) d_int) d_int)))))))) cx hp)
 (ds_cons (M1 := [.s, .s, .l, .s, .u, .u, .u]) (d_for (Mt := [.s, .s, .l, .s, .u, .u, .s]) (di_rng1 (da_cons (d_b (d_var 1)) da_nil) T.n_range) (dg_name (i := 6) cx.nd)
 (ds_post (M1 := [.s, .s, .l, .s, .u, .u, .s]) (ds_one (d_if (dt_cmp o_lt (d_callB (c_len cx) (da_cons (d_varb 2) da_nil) T.n_len (by decide +kernel)) (d_var 1) (nomark _))
 (ds_cons (M1 := [.s, .s, .l, .s, .u, .u, .s]) (d_asg (i := 3) (d_bin o_modI (d_callTy c_int (da_cons (d_b (d_bin (o_addA cx) (d_bin (o_addA cx) (d_bin (o_mulA cx) (d_var 3) d_int) (d_var 6)) d_int)) da_nil) T.n_int (by decide +kernel)) d_int) cx)
 (ds_one (d_append (i := 2) (d_bin o_modI (d_bin o_fdivI (d_callTy c_int (da_cons (d_b (d_var 3)) da_nil) T.n_int (by decide +kernel)) d_int) d_int))))
 ds_nil))) cx hp)
 (ds_one (d_ret (d_slA cx (d_varb 2) do_none (do_some (d_var 1)))))))))
theorem ok_law_binomial (T : Fx K mg cls) : FnOk P w K mg base (L2.CX P w) 1 (He.ga K "_law_binomial") T.d_law_binomial ["_law_n", "_law_k"] (spD K cls [.s, .s] .s m_law_binomial) := by
  refine fn_d (N := N_law_binomial) (nk := 2) (M2 := []) (body := b_law_binomial) T.F_law_binomial sc_law_binomial rfl rfl rfl (.inl rfl) fun cdv A outer s H E F hr cx hp => ?_
  exact (ds_cons (M1 := [.s, .s, .s, .u]) (d_asg (i := 2) d_int cx)
 (ds_cons (M1 := [.s, .s, .s, .u]) (d_for (Mt := [.s, .s, .s, .s]) (di_rng1 (da_cons (d_b (d_var 1)) da_nil) T.n_range) (dg_name (i := 3) cx.nd)
 (ds_post (M1 := [.s, .s, .s, .s]) (ds_one (d_asg (i := 2) (d_bin o_fdivI (d_bin (o_mulA cx) (d_var 2) (d_bin o_subI (d_var 0) (d_var 3))) (d_bin (o_addA cx) (d_var 3) d_int)) cx))) cx hp)
 (ds_one (d_ret (d_var 2)))))
theorem ok_law_rows (T : Fx K mg cls) : FnOk P w K mg base (L2.CX P w) 2 (He.ga K "_law_rows") T.d_law_rows ["_law_counts", "_law_members_here", "_law_labelled"] (spD K cls [.s, .s, .s] .s m_law_rows) := by
  refine fn_d (N := N_law_rows) (nk := 6) (M2 := []) (body := b_law_rows) T.F_law_rows sc_law_rows rfl rfl rfl (.inl rfl) fun cdv A outer s H E F hr cx hp => ?_
  exact (ds_cons (M1 := [.s, .s, .s, .s, .u, .u, .u, .u, .u]) (d_asg (i := 3) (d_bin (o_addA cx) (d_lst (da_cons d_int da_nil)) (d_bin (o_mulA cx) (d_lst (da_cons d_int da_nil)) (d_bin o_subI (d_callB (c_len cx) (da_cons (d_b (d_var 0)) da_nil) T.n_len (by decide +kernel)) d_int))) cx)
 (ds_cons (M1 := [.s, .s, .s, .s, .u, .u, .u, .u, .u]) (d_for (Mt := [.s, .s, .s, .s, .s, .u, .u, .u, .u]) (di_rng1 (da_cons (d_b (d_var 1)) da_nil) T.n_range) (dg_name (i := 4) cx.nd)
 (ds_post (M1 := [.s, .s, .s, .s, .s, .s, .u, .u, .u]) (ds_cons (M1 := [.s, .s, .s, .s, .s, .l, .u, .u, .u]) (d_asg (i := 5) (d_lst da_nil) cx)
 (ds_cons (M1 := [.s, .s, .s, .s, .s, .l, .u, .u, .u]) (d_for (Mt := [.s, .s, .s, .s, .s, .l, .s, .u, .u]) (di_rng1 (da_cons (d_b (d_callB (c_len cx) (da_cons (d_b (d_var 0)) da_nil) T.n_len (by decide +kernel))) da_nil) T.n_range) (dg_name (i := 6) cx.nd)
 (ds_post (M1 := [.s, .s, .s, .s, .s, .l, .s, .s, .u]) (ds_cons (M1 := [.s, .s, .s, .s, .s, .l, .s, .s, .u]) (d_asg (i := 7) d_int cx)
 (ds_cons (M1 := [.s, .s, .s, .s, .s, .l, .s, .s, .u]) (d_for (Mt := [.s, .s, .s, .s, .s, .l, .s, .s, .s]) (di_rng1 (da_cons (d_b (d_bin (o_addA cx) (d_var 6) d_int)) da_nil) T.n_range) (dg_name (i := 8) cx.nd)
 (ds_post (M1 := [.s, .s, .s, .s, .s, .l, .s, .s, .s]) (ds_one (d_asg (i := 7) (d_bin (o_addA cx) (d_var 7) (d_bin (o_mulA cx) (d_bin (o_mulA cx) (d_ix (o_ix cx) (d_var 0) (d_var 8)) (d_ix (o_ix cx) (d_var 3) (d_bin o_subI (d_var 6) (d_var 8)))) (d_ifExp (dt_tru cx (d_var 2)) (d_call (ok_law_binomial T) (hr.mono (by omega)) cx T.g_law_binomial T.F_law_binomial.kp T.b_law_binomial (dm_cons (d_var 6) (dm_cons (d_var 8) dm_nil))) d_int))) cx))) cx hp)
 (ds_one (d_append (i := 5) (d_var 7)))))) cx hp)
 (ds_one (d_pre (M1 := [.s, .s, .s, .s, .s, .s, .u, .u, .u]) (d_asg (i := 3) (d_var 5) cx)))))) cx hp)
 (ds_one (d_ret (d_var 3)))))
theorem ok_law_begun (T : Fx K mg cls) : FnOk P w K mg base (L2.CX P w) 2 (He.ga K "_law_begun") T.d_law_begun ["_law_counts", "_law_rest"] (spD K cls [.s, .s] .s m_law_begun) := by
  refine fn_d (N := N_law_begun) (nk := 3) (M2 := []) (body := b_law_begun) T.F_law_begun sc_law_begun rfl rfl rfl (.inl rfl) fun cdv A outer s H E F hr cx hp => ?_
  exact (ds_cons (M1 := [.s, .s, .l, .u, .u]) (d_asg (i := 2) (d_bin o_mulL (d_lst (da_cons d_int da_nil)) (d_callB (c_len cx) (da_cons (d_b (d_var 0)) da_nil) T.n_len (by decide +kernel))) cx)
 (ds_cons (M1 := [.s, .s, .l, .u, .u]) (d_for (Mt := [.s, .s, .l, .s, .u]) (di_rng2 (da_cons (d_b d_int) (da_cons (d_b (d_callB (c_len cx) (da_cons (d_b (d_var 0)) da_nil) T.n_len (by decide +kernel))) da_nil)) T.n_range) (dg_name (i := 3) cx.nd)
 (ds_post (M1 := [.s, .s, .l, .s, .u]) (ds_one (d_setix (i := 2) (d_callB (c_sum cx) (da_cons (d_b (d_lc (own := [("_law_k", 4)]) (Mt := [.s, .s, .l, .s, .s]) cx (di_rng2 (da_cons (d_b d_int) (da_cons (d_b (d_bin (o_addA cx) (d_var 3) d_int)) da_nil)) T.n_range) (blkOk_by (N := N_law_begun) (sc := defScope s_law_begun) (by decide +kernel)) (fun _ _ _ _ _ => (dg_name (i := 4) cx.nd)) (fun _ _ _ _ _ => dts_nil) (fun _ _ _ _ _ cx => (d_bin (o_mulA cx) (d_bin (o_mulA cx) (d_call (ok_law_binomial T) (hr.mono (by omega)) cx T.g_law_binomial T.F_law_binomial.kp T.b_law_binomial (dm_cons (d_bin o_subI (d_var 3) d_int) (dm_cons (d_bin o_subI (d_var 4) d_int) dm_nil))) (d_ix (o_ix cx) (d_var 0) (d_var 4))) (d_ix (o_ix cx) (d_var 1) (d_bin o_subI (d_var 3) (d_var 4))))))) da_nil) T.n_sum (by decide +kernel)) (d_var 3)))) cx hp)
 (ds_one (d_pre (M1 := [.s, .s, .s, .u, .u]) (d_ret (d_var 2))))))
theorem ok_law_bag (T : Fx K mg cls) : FnOk P w K mg base (L2.CX P w) 2 (He.ga K "_law_bag") T.d_law_bag ["_law_counts", "_law_most"] (spD K cls [.s, .s] .s m_law_bag) := by
  refine fn_d (N := N_law_bag) (nk := 8) (M2 := []) (body := b_law_bag) T.F_law_bag sc_law_bag rfl rfl rfl (.inl rfl) fun cdv A outer s H E F hr cx hp => ?_
  exact (ds_cons (M1 := [.s, .s, .u, .u, .l, .u, .u, .u, .u, .u]) (d_asgLc (i := 4) (own := [("_law_m", 2)]) (Mt := [.s, .s, .s, .u, .u, .u, .u, .u, .u, .u]) cx (di_rng1 (da_cons (d_b (d_bin (o_addA cx) (d_var 1) d_int)) da_nil) T.n_range) (blkOk_by (N := N_law_bag) (sc := defScope s_law_bag) (by decide +kernel)) (fun _ _ _ _ _ => (dg_name (i := 2) cx.nd)) (fun _ _ _ _ _ => dts_nil) (fun _ _ _ _ _ cx => (d_s (d_lc (own := [("_law_n", 3)]) (Mt := [.s, .s, .s, .s, .u, .u, .u, .u, .u, .u]) cx (di_rng1 (da_cons (d_b (d_callB (c_len cx) (da_cons (d_b (d_var 0)) da_nil) T.n_len (by decide +kernel))) da_nil) T.n_range) (blkOk_by (N := N_law_bag) (sc := relS _ (defScope s_law_bag)) (by decide +kernel)) (fun _ _ _ _ _ => (dg_name (i := 3) cx.nd)) (fun _ _ _ _ _ => dts_nil) (fun _ _ _ _ _ cx => (d_callTy c_int (da_cons (d_b (d_and (d_cmp (o_eq cx) (d_var 2) d_int (nomark _)) (d_one (d_cmp (o_eq cx) (d_var 3) d_int (nomark _))))) da_nil) T.n_int (by decide +kernel)))))))
 (ds_cons (M1 := [.s, .s, .u, .u, .s, .u, .u, .u, .u, .u]) (d_pre (M1 := [.s, .s, .u, .u, .s, .u, .u, .u, .u, .u]) (d_for (Mt := [.s, .s, .u, .u, .s, .s, .u, .u, .u, .u]) (di_rng2 (da_cons (d_b d_int) (da_cons (d_b (d_callB (c_len cx) (da_cons (d_b (d_var 0)) da_nil) T.n_len (by decide +kernel))) da_nil)) T.n_range) (dg_name (i := 5) cx.nd)
 (ds_post (M1 := [.s, .s, .u, .u, .s, .s, .u, .u, .u, .u]) (d_rows (M := [.s, .s, .u, .u, .s, .s, .u, .u, .u, .u]) (Mx := []) (own := [("_law_m", 2)]) (Mt := [.s, .s, .s, .u, .s, .s, .u, .u, .u, .u]) (iT := 4) (iM := 2) (iR := 7) (iL := 6) cx hp (di_rng1 (da_cons (d_b (d_bin (o_addA cx) (d_var 1) d_int)) da_nil) T.n_range) (blkOk_by (N := N_law_bag) (sc := defScope s_law_bag) (by decide +kernel)) (fun _ _ _ _ _ => (dg_name (i := 2) cx.nd)) (fun _ _ _ _ _ cx => (d_bin o_mulL (d_lst (da_cons d_int da_nil)) (d_callB (c_len cx) (da_cons (d_b (d_var 0)) da_nil) T.n_len (by decide +kernel)))) (di_rng1 (da_cons (d_b (d_bin (o_addA cx) (d_var 1) d_int)) da_nil) T.n_range) (fun _ _ _ _ cx => (d_for (Mt := [.s, .s, .s, .s, .s, .s, .p, .i, .u, .u]) (di_rng1 (da_cons (d_b (d_callB (c_len cx) (da_cons (d_b (d_var 0)) da_nil) T.n_len (by decide +kernel))) da_nil) T.n_range) (dg_name (i := 3) cx.nd)
 (ds_post (M1 := [.s, .s, .s, .s, .s, .s, .p, .i, .s, .u]) (ds_cons (M1 := [.s, .s, .s, .s, .s, .s, .p, .i, .s, .u]) (d_asg (i := 8) d_int cx)
 (ds_cons (M1 := [.s, .s, .s, .s, .s, .s, .p, .i, .s, .u]) (d_for (Mt := [.s, .s, .s, .s, .s, .s, .p, .i, .s, .s]) (di_rng1 (da_cons (d_b (d_bin (o_addA cx) (d_callB (c_min2 cx) (da_cons (d_b (d_var 2)) (da_cons (d_b (d_bin o_fdivI (d_var 3) (d_var 5))) da_nil)) T.n_min (by decide +kernel)) d_int)) da_nil) T.n_range) (dg_name (i := 9) cx.nd)
 (ds_post (M1 := [.s, .s, .s, .s, .s, .s, .p, .i, .s, .s]) (ds_one (d_asg (i := 8) (d_bin (o_addA cx) (d_var 8) (d_bin (o_mulA cx) (d_ix (o_ix cx) (d_ix (o_ix cx) (d_var 4) (d_bin o_subI (d_var 2) (d_var 9))) (d_bin o_subI (d_var 3) (d_bin (o_mulA cx) (d_var 9) (d_var 5)))) (d_call (ok_law_binomial T) (hr.mono (by omega)) cx T.g_law_binomial T.F_law_binomial.kp T.b_law_binomial (dm_cons (d_bin o_subI (d_bin (o_addA cx) (d_ix (o_ix cx) (d_var 0) (d_var 5)) (d_var 9)) d_int) (dm_cons (d_var 9) dm_nil))))) cx))) cx hp)
 (ds_one (d_setix (i := 7) (d_var 8) (d_var 3)))))) cx hp)) (su_of rfl) rfl rfl rfl rfl (by decide) (by decide) (by decide) rfl rfl rfl rfl (.inl rfl) (.inl rfl) (.inl rfl) rfl rfl rfl rfl (.inl rfl) (.inl rfl) (by decide) (by decide) (by decide) (by decide) (sw_true rfl rfl rfl (by decide +kernel)) rfl rfl (by decide) (by intro _; rfl) (by intro _; rfl) (by intro _ _; rfl))) cx hp))
 (ds_one (d_ret (d_var 4)))))
theorem ok_law_common (T : Fx K mg cls) : FnOk P w K mg base (L2.CX P w) 1 (He.ga K "_law_common") T.d_law_common ["_law_a", "_law_b"] (spD K cls [.s, .s] .s m_law_common) := by
  refine fn_d (N := N_law_common) (nk := 1) (M2 := []) (body := b_law_common) T.F_law_common sc_law_common rfl rfl rfl (.inl rfl) fun cdv A outer s H E F hr cx hp => ?_
  exact (ds_cons (M1 := [.s, .s, .u]) (d_for (Mt := [.s, .s, .s]) (di_rng1 (da_cons (d_b d_int) da_nil) T.n_range) (dg_name (i := 2) cx.nd)
 (ds_post (M1 := [.s, .s, .s]) (ds_one (d_if (dt_cmp o_gt (d_var 1) d_int (nomark _))
 (ds_one (d_par (i := 0) (j := 1) (da_cons (d_var 1) (da_cons (d_bin o_modI (d_callTy c_int (da_cons (d_b (d_var 0)) da_nil) T.n_int (by decide +kernel)) (d_var 1)) da_nil)) cx))
 ds_nil))) cx hp)
 (ds_one (d_ret (d_var 0))))
theorem ok_law_turned (T : Fx K mg cls) : FnOk P w K mg base (L2.CX P w) 3 (He.ga K "_law_turned") T.d_law_turned ["_law_counts", "_law_members_here"] (spD K cls [.s, .s] .s m_law_turned) := by
  refine fn_d (N := N_law_turned) (nk := 6) (M2 := []) (body := b_law_turned) T.F_law_turned sc_law_turned rfl rfl rfl (.inl rfl) fun cdv A outer s H E F hr cx hp => ?_
  exact (ds_cons (M1 := [.s, .s, .l, .u, .u, .u, .u, .u]) (d_asg (i := 2) (d_bin o_mulL (d_lst (da_cons d_int da_nil)) (d_callB (c_len cx) (da_cons (d_b (d_var 0)) da_nil) T.n_len (by decide +kernel))) cx)
 (ds_cons (M1 := [.s, .s, .l, .u, .u, .u, .u, .u]) (d_for (Mt := [.s, .s, .l, .s, .u, .u, .u, .u]) (di_rng1 (da_cons (d_b (d_var 1)) da_nil) T.n_range) (dg_name (i := 3) cx.nd)
 (ds_post (M1 := [.s, .s, .l, .s, .s, .s, .u, .u]) (ds_cons (M1 := [.s, .s, .l, .s, .s, .u, .u, .u]) (d_asg (i := 4) (d_call (ok_law_common T) (hr.mono (by omega)) cx T.g_law_common T.F_law_common.kp T.b_law_common (dm_cons (d_var 1) (dm_cons (d_var 3) dm_nil))) cx)
 (ds_cons (M1 := [.s, .s, .l, .s, .s, .s, .u, .u]) (d_asg (i := 5) (d_call (ok_law_rows T) (hr.mono (by omega)) cx T.g_law_rows T.F_law_rows.kp T.b_law_rows (dm_cons (d_var 0) (dm_cons (d_var 4) (dm_cons d_bl dm_nil)))) cx)
 (ds_one (d_for (Mt := [.s, .s, .l, .s, .s, .s, .s, .u]) (di_rng1 (da_cons (d_b (d_callB (c_len cx) (da_cons (d_b (d_var 0)) da_nil) T.n_len (by decide +kernel))) da_nil) T.n_range) (dg_name (i := 6) cx.nd)
 (ds_post (M1 := [.s, .s, .l, .s, .s, .s, .s, .u]) (ds_one (d_if (dt_cmp (o_eq cx) (d_bin o_modI (d_callTy c_int (da_cons (d_b (d_bin (o_mulA cx) (d_var 6) (d_var 4))) da_nil) T.n_int (by decide +kernel)) (d_var 1)) d_int (nomark _))
 (ds_one (d_setix (i := 2) (d_bin (o_addA cx) (d_ix (o_ix cx) (d_varb 2) (d_var 6)) (d_ix (o_ix cx) (d_var 5) (d_bin o_fdivI (d_bin (o_mulA cx) (d_var 6) (d_var 4)) (d_var 1)))) (d_var 6)))
 ds_nil))) cx hp))))) cx hp)
 (ds_one (d_pre (M1 := [.s, .s, .s, .u, .u, .u, .u, .u]) (d_ret (d_s (d_lc (own := [("_law_one", 7)]) (Mt := [.s, .s, .s, .u, .u, .u, .u, .s]) cx (di_seq (d_var 2) cx) (blkOk_by (N := N_law_turned) (sc := defScope s_law_turned) (by decide +kernel)) (fun _ _ _ _ _ => (dg_name (i := 7) cx.nd)) (fun _ _ _ _ _ => dts_nil) (fun _ _ _ _ _ cx => (d_bin o_fdivI (d_var 7) (d_var 1))))))))))
theorem ok_law_members (T : Fx K mg cls) : ∀ n : Nat, FnOk P w K mg base (L2.CX P w) (4 + n) (He.ga K "_law_members") T.d_law_members ["_law_counts", "_law_word", "_law_m", "_law_labelled"] (spD K cls [.s, .s, .s, .s] .s (m_law_members n))
  | 0 => fn_bad
  | n + 1 => by
    have ih := ok_law_members T n
    refine fn_d (k := 4 + n) (N := N_law_members) (nk := 0) (M2 := []) (body := b_law_members (m_law_members n)) T.F_law_members sc_law_members rfl rfl rfl (.inl rfl) fun cdv A outer s H E F hr cx hp => ?_
    exact (ds_cons (M1 := [.s, .s, .s, .s]) (d_if (dt_cmp (o_eq cx) (d_var 2) d_int (nomark _))
 (ds_one (d_ret (d_bin (o_addA cx) (d_lst (da_cons d_int da_nil)) (d_bin (o_mulA cx) (d_lst (da_cons d_int da_nil)) (d_bin o_subI (d_callB (c_len cx) (da_cons (d_b (d_var 0)) da_nil) T.n_len (by decide +kernel)) d_int)))))
 ds_nil)
 (ds_cons (M1 := [.s, .s, .s, .s]) (d_if (PW.pt (dw_or (dt_cmp (o_eq cx) (d_var 1) d_str (nomark _)) (dw_or1 (dt_cmp (o_eq cx) (d_var 2) d_int (nomark _)))))
 (ds_one (d_ret (d_call (ok_law_rows T) (hr.mono (by omega)) cx T.g_law_rows T.F_law_rows.kp T.b_law_rows (dm_cons (d_var 0) (dm_cons (d_var 2) (dm_cons (d_var 3) dm_nil))))))
 ds_nil)
 (ds_cons (M1 := [.s, .s, .s, .s]) (d_if (dt_tru cx (d_var 3))
 (ds_cons (M1 := [.s, .s, .s, .s]) (d_if (dt_cmp (o_eq cx) (d_var 1) d_str (nomark _))
 (ds_one (d_ret (d_call (ok_law_begun T) (hr.mono (by omega)) cx T.g_law_begun T.F_law_begun.kp T.b_law_begun (dm_cons (d_var 0) (dm_cons (d_call (ok_law_rows T) (hr.mono (by omega)) cx T.g_law_rows T.F_law_rows.kp T.b_law_rows (dm_cons (d_var 0) (dm_cons (d_bin o_subI (d_var 2) d_int) (dm_cons d_bl dm_nil)))) dm_nil)))))
 ds_nil)
 (ds_one (d_ret (d_call (ok_law_begun T) (hr.mono (by omega)) cx T.g_law_begun T.F_law_begun.kp T.b_law_begun (dm_cons (d_var 0) (dm_cons (d_call ih hr cx T.g_law_members T.F_law_members.kp T.b_law_members (dm_cons (d_var 0) (dm_cons d_str (dm_cons (d_bin o_subI (d_var 2) d_int) (dm_cons d_bl dm_nil))))) dm_nil))))))
 ds_nil)
 (ds_cons (M1 := [.s, .s, .s, .s]) (d_if (dt_cmp (o_eq cx) (d_var 1) d_str (nomark _))
 (ds_one (d_ret (d_call (ok_law_turned T) (hr.mono (by omega)) cx T.g_law_turned T.F_law_turned.kp T.b_law_turned (dm_cons (d_var 0) (dm_cons (d_var 2) dm_nil)))))
 ds_nil)
 (ds_one (d_ret (d_ix (o_ix cx) (d_call (ok_law_bag T) (hr.mono (by omega)) cx T.g_law_bag T.F_law_bag.kp T.b_law_bag (dm_cons (d_var 0) (dm_cons (d_var 2) dm_nil))) (d_var 2))))))))
theorem ok_law (T : Fx K mg cls) : FnOk P w K mg base (L2.CX P w) 25 (He.ga K "law") T.d_law ["_law_script"] (spD K cls [.s] .s m_law) := by
  refine fn_d (N := N_law) (nk := 17) (M2 := []) (body := b_law) T.F_law sc_law rfl rfl rfl (.inl rfl) fun cdv A outer s H E F hr cx hp => ?_
  exact (ds_cons (M1 := [.s, .s, .u, .u, .u, .u, .u, .u, .u, .u, .u, .u, .u, .u, .u, .u, .u, .u]) (d_asg (i := 1) (d_call (ok_law_draws T) (hr.mono (by omega)) cx T.g_law_draws T.F_law_draws.kp T.b_law_draws (dm_cons (d_var 0) (dm_cons d_int dm_nil))) cx)
 (ds_cons (M1 := [.s, .s, .s, .s, .u, .u, .u, .u, .u, .u, .u, .u, .u, .u, .u, .u, .u, .u]) (d_asgG (d_tup (da_cons (d_bin (o_addA cx) d_int (d_bin o_modI (d_callTy c_int (da_cons (d_b (d_ix (o_ix cx) (d_var 1) d_int)) da_nil) T.n_int (by decide +kernel)) d_int)) (da_cons (d_cmp (o_eq cx) (d_bin o_modI (d_callTy c_int (da_cons (d_b (d_ix (o_ix cx) (d_var 1) d_int)) da_nil) T.n_int (by decide +kernel)) d_int) d_int (nomark _)) da_nil))) (dg_tup cx.calm cx.K (dgs_cons (dg_name (i := 2) cx.nd) (dgs_cons (dg_name (i := 3) cx.nd) dgs_nil)) (gs_lenS (gs_lenS gs_len0))))
 (ds_cons (M1 := [.s, .s, .s, .s, .s, .u, .u, .u, .u, .u, .u, .u, .u, .u, .u, .u, .u, .u]) (d_asg (i := 4) (d_s (d_lc (own := [("_law_j", 14)]) (Mt := [.s, .s, .s, .s, .u, .u, .u, .u, .u, .u, .u, .u, .u, .u, .s, .u, .u, .u]) cx (di_rng1 (da_cons (d_b (d_var 2)) da_nil) T.n_range) (blkOk_by (N := N_law) (sc := defScope s_law) (by decide +kernel)) (fun _ _ _ _ _ => (dg_name (i := 14) cx.nd)) (fun _ _ _ _ _ => dts_nil) (fun _ _ _ _ _ cx => (d_bin o_modI (d_callTy c_int (da_cons (d_b (d_ix (o_ix cx) (d_var 1) (d_bin (o_addA cx) d_int (d_var 14)))) da_nil) T.n_int (by decide +kernel)) (d_ix (o_ix cx) (d_lst (da_cons d_int (da_cons d_int (da_cons d_int da_nil)))) (d_bin o_modI (d_callTy c_int (da_cons (d_b (d_ix (o_ix cx) (d_var 1) d_int)) da_nil) T.n_int (by decide +kernel)) d_int)))))) cx)
 (ds_cons (M1 := [.s, .s, .s, .s, .s, .s, .u, .u, .u, .u, .u, .u, .u, .u, .u, .u, .u, .u]) (d_asg (i := 5) (d_s (d_lc (own := [("_law_j", 14)]) (Mt := [.s, .s, .s, .s, .s, .u, .u, .u, .u, .u, .u, .u, .u, .u, .s, .u, .u, .u]) cx (di_rng1 (da_cons (d_b (d_var 2)) da_nil) T.n_range) (blkOk_by (N := N_law) (sc := defScope s_law) (by decide +kernel)) (fun _ _ _ _ _ => (dg_name (i := 14) cx.nd)) (fun _ _ _ _ _ => dts_nil) (fun _ _ _ _ _ cx => (d_bin o_modI (d_callTy c_int (da_cons (d_b (d_ix (o_ix cx) (d_var 1) (d_bin (o_addA cx) d_int (d_var 14)))) da_nil) T.n_int (by decide +kernel)) d_int)))) cx)
 (ds_cons (M1 := [.s, .s, .s, .s, .s, .s, .u, .u, .u, .u, .u, .u, .u, .u, .u, .u, .u, .u]) (d_if (dt_cmp (o_ne cx) (d_call (ok_pairs T) (hr.mono (by omega)) cx T.g_pairs T.F_pairs.kp T.b_pairs (dm_cons (d_var 4) (dm_cons (d_var 5) (dm_cons (d_var 3) dm_nil)))) (d_lc (own := [("_law_n", 15)]) (Mt := [.s, .s, .s, .s, .s, .s, .u, .u, .u, .u, .u, .u, .u, .u, .u, .s, .u, .u]) cx (di_rng1 (da_cons (d_b (d_var 2)) da_nil) T.n_range) (blkOk_by (N := N_law) (sc := defScope s_law) (by decide +kernel)) (fun _ _ _ _ _ => (dg_name (i := 15) cx.nd)) (fun _ _ _ _ _ => dts_nil) (fun _ _ _ _ _ cx => (d_callB (c_sum cx) (da_cons (d_b (d_lc (own := [("_law_k", 16)]) (Mt := [.s, .s, .s, .s, .s, .s, .u, .u, .u, .u, .u, .u, .u, .u, .u, .s, .s, .u]) cx (di_rng1 (da_cons (d_b (d_bin (o_addA cx) (d_var 15) d_int)) da_nil) T.n_range) (blkOk_by (N := N_law) (sc := relS _ (defScope s_law)) (by decide +kernel)) (fun _ _ _ _ _ => (dg_name (i := 16) cx.nd)) (fun _ _ _ _ _ => dts_nil) (fun _ _ _ _ _ cx => (d_bin (o_mulA cx) (d_bin (o_mulA cx) (d_ix (o_ix cx) (d_var 4) (d_var 16)) (d_ix (o_ix cx) (d_var 5) (d_bin o_subI (d_var 15) (d_var 16)))) (d_ifExp (dt_tru cx (d_var 3)) (d_call (ok_law_binomial T) (hr.mono (by omega)) cx T.g_law_binomial T.F_law_binomial.kp T.b_law_binomial (dm_cons (d_var 15) (dm_cons (d_var 16) dm_nil))) d_int))))) da_nil) T.n_sum (by decide +kernel)))) (nomark _))
 (ds_one (d_ret d_bl))
 ds_nil)
 (ds_cons (M1 := [.s, .s, .s, .s, .s, .s, .u, .u, .u, .u, .u, .u, .u, .u, .u, .u, .u, .u]) (d_if (dt_cmp o_gt (d_bin o_modI (d_callTy c_int (da_cons (d_b (d_ix (o_ix cx) (d_var 1) d_int)) da_nil) T.n_int (by decide +kernel)) d_int) d_int (nomark _))
 (ds_one (d_asg (i := 4) (d_bin (o_addA cx) (d_lst (da_cons d_int da_nil)) (d_slA cx (d_var 4) (do_some d_int) do_none)) cx))
 ds_nil)
 (ds_cons (M1 := [.s, .s, .s, .s, .s, .s, .s, .u, .u, .u, .u, .u, .u, .u, .u, .u, .u, .u]) (d_asg (i := 6) (d_ix (o_ix cx) (d_lst (da_cons d_str (da_cons d_str (da_cons d_str da_nil)))) (d_bin o_modI (d_callTy c_int (da_cons (d_b (d_ix (o_ix cx) (d_var 1) d_int)) da_nil) T.n_int (by decide +kernel)) d_int)) cx)
 (ds_cons (M1 := [.s, .s, .s, .s, .s, .s, .s, .s, .u, .u, .u, .u, .u, .u, .u, .u, .u, .u]) (d_asg (i := 7) (d_callB (c_max2 cx) (da_cons (d_b (d_bin o_modI (d_callTy c_int (da_cons (d_b (d_ix (o_ix cx) (d_var 1) d_int)) da_nil) T.n_int (by decide +kernel)) d_int)) (da_cons (d_b (d_callTy c_int (da_cons (d_b (d_cmp (o_eq cx) (d_var 6) d_str (nomark _))) da_nil) T.n_int (by decide +kernel))) da_nil)) T.n_max (by decide +kernel)) cx)
 (ds_cons (M1 := [.s, .s, .s, .s, .s, .s, .s, .s, .s, .u, .u, .u, .u, .u, .u, .u, .u, .u]) (d_asg (i := 8) (d_ix (o_ix cx) (d_lst (da_cons d_non (da_cons (d_var 7) (da_cons (d_bin (o_addA cx) (d_var 7) d_int) (da_cons (d_bin (o_addA cx) (d_var 7) (d_bin o_modI (d_callTy c_int (da_cons (d_b (d_ix (o_ix cx) (d_var 1) d_int)) da_nil) T.n_int (by decide +kernel)) d_int)) da_nil))))) (d_bin o_modI (d_callTy c_int (da_cons (d_b (d_ix (o_ix cx) (d_var 1) d_int)) da_nil) T.n_int (by decide +kernel)) d_int)) cx)
 (ds_cons (M1 := [.s, .s, .s, .s, .s, .s, .s, .s, .s, .u, .u, .u, .u, .u, .u, .u, .u, .u]) (d_if (dt_cmp o_gt (d_ix (o_ix cx) (d_var 4) d_int) d_int (nomark _))
 (ds_cons (M1 := [.s, .s, .s, .s, .s, .s, .s, .s, .s, .u, .u, .u, .u, .u, .u, .u, .u, .u]) (d_asg (i := 7) (d_callB (c_max2 cx) (da_cons (d_b (d_bin o_modI (d_callTy c_int (da_cons (d_b (d_ix (o_ix cx) (d_var 1) d_int)) da_nil) T.n_int (by decide +kernel)) d_int)) (da_cons (d_b (d_callTy c_int (da_cons (d_b (d_cmp (o_eq cx) (d_var 6) d_str (nomark _))) da_nil) T.n_int (by decide +kernel))) da_nil)) T.n_max (by decide +kernel)) cx)
 (ds_one (d_asg (i := 8) (d_callB (c_max2 cx) (da_cons (d_b (d_var 7)) (da_cons (d_b (d_bin o_modI (d_callTy c_int (da_cons (d_b (d_ix (o_ix cx) (d_var 1) d_int)) da_nil) T.n_int (by decide +kernel)) d_int)) da_nil)) T.n_max (by decide +kernel)) cx)))
 ds_nil)
 (ds_cons (M1 := [.s, .s, .s, .s, .s, .s, .s, .s, .s, .s, .u, .u, .u, .u, .u, .u, .u, .u]) (d_asg (i := 9) (d_bin (o_mulA cx) (d_lst (da_cons d_int da_nil)) (d_var 2)) cx)
 (ds_cons (M1 := [.s, .s, .s, .s, .s, .s, .s, .s, .s, .s, .u, .u, .u, .u, .u, .u, .u, .u]) (d_for (Mt := [.s, .s, .s, .s, .s, .s, .s, .s, .s, .s, .s, .u, .u, .u, .u, .u, .u, .u]) (di_rng2 (da_cons (d_b (d_var 7)) (da_cons (d_b (d_callB (c_max2 cx) (da_cons (d_b (d_var 2)) (da_cons (d_b d_int) da_nil)) T.n_max (by decide +kernel))) da_nil)) T.n_range) (dg_name (i := 10) cx.nd)
 (ds_post (M1 := [.s, .s, .s, .s, .s, .s, .s, .s, .s, .s, .s, .u, .u, .u, .u, .u, .u, .u]) (ds_one (d_if (PW.pt (dw_and (PW.pt (dw_or (dt_cmp o_isN (d_var 8) d_non (nomark _)) (dw_or1 (dt_cmp o_le (d_var 10) (d_var 8) (nomark _))))) (dw_and1 (PW.pt (dw_or (dt_cmp (o_eq cx) (d_ix (o_ix cx) (d_var 4) d_int) d_int (nomark _)) (dw_or1 (dt_cmp o_lt (d_var 10) d_int (nomark _))))))))
 (ds_post (M1 := [.s, .s, .s, .s, .s, .s, .s, .s, .s, .s, .s, .s, .u, .u, .u, .u, .u, .u]) (ds_cons (M1 := [.s, .s, .s, .s, .s, .s, .s, .s, .s, .s, .s, .s, .u, .u, .u, .u, .u, .u]) (d_asg (i := 11) (d_call (ok_law_members T 20) (hr.mono (by omega)) cx T.g_law_members T.F_law_members.kp T.b_law_members (dm_cons (d_var 4) (dm_cons (d_var 6) (dm_cons (d_var 10) (dm_cons (d_var 3) dm_nil))))) cx)
 (ds_one (d_asg (i := 9) (d_s (d_lc (own := [("_law_n", 15)]) (Mt := [.s, .s, .s, .s, .s, .s, .s, .s, .s, .s, .s, .s, .u, .u, .u, .s, .u, .u]) cx (di_rng1 (da_cons (d_b (d_var 2)) da_nil) T.n_range) (blkOk_by (N := N_law) (sc := defScope s_law) (by decide +kernel)) (fun _ _ _ _ _ => (dg_name (i := 15) cx.nd)) (fun _ _ _ _ _ => dts_nil) (fun _ _ _ _ _ cx => (d_bin (o_addA cx) (d_ix (o_ix cx) (d_var 9) (d_var 15)) (d_ix (o_ix cx) (d_var 11) (d_var 15)))))) cx))))
 ds_nil))) cx hp)
 (ds_cons (M1 := [.s, .s, .s, .s, .s, .s, .s, .s, .s, .s, .u, .u, .s, .u, .u, .u, .u, .u]) (d_asg (i := 12) (d_s (d_callTy (c_list cx) (da_cons (d_b (d_var 4)) da_nil) T.n_list (by decide +kernel))) cx)
 (ds_cons (M1 := [.s, .s, .s, .s, .s, .s, .s, .s, .s, .s, .u, .u, .s, .s, .u, .u, .u, .u]) (d_if (dt_cmp (o_eq cx) (d_var 6) d_str (nomark _))
 (ds_one (d_asg (i := 13) (d_call (ok_rows T) (hr.mono (by omega)) cx T.g_rows T.F_rows.kp T.b_rows (dm_cons (d_var 4) (dm_cons (d_var 7) (dm_cons (d_var 8) (dm_cons (d_var 3) dm_nil))))) cx))
 (ds_one (d_if (dt_cmp (o_eq cx) (d_var 6) d_str (nomark _))
 (ds_one (d_asg (i := 13) (d_call (ok_sets T) (hr.mono (by omega)) cx T.g_sets T.F_sets.kp T.b_sets (dm_cons (d_var 4) (dm_cons (d_var 7) (dm_cons (d_var 8) (dm_cons (d_var 3) dm_nil))))) cx))
 (ds_one (d_asg (i := 13) (d_call (ok_rings T) (hr.mono (by omega)) cx T.g_rings T.F_rings.kp T.b_rings (dm_cons (d_var 4) (dm_cons (d_var 7) (dm_cons (d_var 8) (dm_cons (d_var 3) dm_nil))))) cx)))))
 (ds_one (d_ret (d_and (d_isi cx (d_var 13) T.n_isinstance T.n_list) (d_and (d_cmp (o_eq cx) (d_var 13) (d_var 9) (nomark _)) (d_and (d_cmp (o_eq cx) (d_var 4) (d_var 12) (nomark _)) (d_one (d_not (d_callB (c_any cx) (da_cons (d_b (d_lc (own := [("_law_one", 17)]) (Mt := [.s, .s, .s, .s, .s, .s, .s, .s, .s, .s, .u, .u, .s, .s, .u, .u, .u, .s]) cx (di_seq (d_var 13) cx) (blkOk_by (N := N_law) (sc := defScope s_law) (by decide +kernel)) (fun _ _ _ _ _ => (dg_name (i := 17) cx.nd)) (fun _ _ _ _ _ => dts_nil) (fun _ _ _ _ _ cx => (d_isi cx (d_var 17) T.n_isinstance T.n_bool)))) da_nil) T.n_any (by decide +kernel)))))))))))))))))))))))
end
end L2.DL.K20
set_option Elab.async false
set_option linter.all false
set_option maxRecDepth 100000
set_option autoImplicit false
namespace L2.DL.K20
open PySem PySem.Spec PyProof.Rows L2 L2.DL L2.SR
/-- C(n,k) at whole numbers -/
def chI (n k : Int) : Int := ch n.toNat k.toNat
abbrev il (n : Nat) (f : Int → Int) : D := .lst (tl n fun i => .int (f i))
theorem chI_0 (n : Int) : chI n 0 = 1 := by unfold chI; rw [show (0 : Int).toNat = 0 from rfl, ch_zero]; rfl
theorem chI_n (n : Int) : chI n n = 1 := by unfold chI; rw [ch_self]; rfl
theorem chI_s {n k : Int} (h : 0 ≤ n) (h2 : 0 < k) : chI (n + 1) k = chI n (k - 1) + chI n k := by
  unfold chI
  rw [show (n + 1).toNat = n.toNat + 1 by omega, show k.toNat = (k - 1).toNat + 1 by omega, ch]
  omega
theorem chI_nn (n k : Int) : 0 ≤ chI n k := by unfold chI; omega
theorem bin_ok (n : Nat) (hn : n ≤ 100) : m_binomials [.int n] = .ok (.lst (tl (n + 1) fun i => il (i + 1).toNat fun k => chI i k)) := by
  refine m_ok rfl ?_
  unfold b_binomials
  simp only [↓wE_var, ↓wE_c, ↓wE_bin, ↓wE_un, ↓wA_nil, ↓wA_cons, ↓wE_app, ↓wE_call, ↓wE_tup, ↓wE_lst, ↓wE_if, ↓wE_isi, ↓wE_sl, ↓wR_oNo, ↓wR_oAt, ↓ex_int, ↓ex_bl, ↓ex_lst, ↓ex_par, ↓wB_val, ↓wB_tru, ↓wB_not, ↓wB_and, ↓wB_or, ↓wB_yes, ↓wE_and, ↓wE_or, ↓wE_not, ↓wE_chain, ↓nxQ_nx, ↓nxQ_rt, ↓nxQ_ct, ↓nxQ_bk, ↓wS_nil, ↓wS_seq, ↓wS_bk, ↓wS_ct, ↓wS_exp, ↓wS_asg, ↓wS_ret, ↓wS_if, ↓wS_aug, ↓wS_asgG, ↓wS_par, ↓wS_app, ↓wS_setix, ↓wS_augix, ↓wS_for, ↓wA_seq, ↓wA_rng, ↓wE_lc, ↓o_add_ii, ↓o_add_ll, ↓o_addI_ii, ↓o_subI_ii, ↓o_mul_ii, ↓o_mulI_ii, ↓o_mul_li, ↓o_mulL_li, ↓o_fdiv_ii, ↓o_mod_ii, ↓o_pow_ii, ↓o_neg_i, ↓o_cmp_ii, ↓o_eq_ii, ↓o_ne_ii, ↓o_is_nn, ↓o_is_in, ↓o_not_nn, ↓o_not_in, ↓o_ix_lst, ↓o_ix_tup, ↓o_ix_scr, ↓o_at, ↓o_at_neg, ↓o_set, ↓o_rng1, ↓o_rng2, ↓o_seq_lst, ↓o_seq_tup, ↓o_seq_scr, ↓o_enum_lst, ↓o_len_l, ↓o_len_t, ↓o_abs, ↓o_max2, ↓o_min2, ↓o_int_i, ↓o_int_b, ↓o_list_l, ↓o_list_s, ↓o_list_t, ↓o_sum_tl, ↓o_tru_b, ↓o_isi_int_i, ↓o_isi_int_non, ↓o_isi_bool_i, ↓o_isi_list_l, ↓o_gN, ↓o_gT, ↓o_gsNil, ↓o_gsCons, ↓o_cut_l, ↓o_cut_s, ↓wO_some, ↓wR_ok, ↓wR_of, ↓lpQ_nx, ↓lpQ_ct, wE_var, wE_c, wE_bin, wE_un, wA_nil, wA_cons, wE_app, wE_call, wE_tup, wE_lst, wE_if, wE_isi, wE_sl, wR_oNo, wR_oAt, ex_int, ex_bl, ex_lst, ex_par, wB_val, wB_tru, wB_not, wB_and, wB_or, wB_yes, wE_and, wE_or, wE_not, wE_chain, nxQ_nx, nxQ_rt, nxQ_ct, nxQ_bk, wS_nil, wS_seq, wS_bk, wS_ct, wS_exp, wS_asg, wS_ret, wS_if, wS_aug, wS_asgG, wS_par, wS_app, wS_setix, wS_augix, wS_for, wA_seq, wA_rng, wE_lc, o_add_ii, o_add_ll, o_addI_ii, o_subI_ii, o_mul_ii, o_mulI_ii, o_mul_li, o_mulL_li, o_fdiv_ii, o_mod_ii, o_pow_ii, o_neg_i, o_cmp_ii, o_eq_ii, o_ne_ii, o_is_nn, o_is_in, o_not_nn, o_not_in, o_ix_lst, o_ix_tup, o_ix_scr, o_at, o_at_neg, o_set, o_rng1, o_rng2, o_seq_lst, o_seq_tup, o_seq_scr, o_enum_lst, o_len_l, o_len_t, o_abs, o_max2, o_min2, o_int_i, o_int_b, o_list_l, o_list_s, o_list_t, o_sum_tl, o_tru_b, o_isi_int_i, o_isi_int_non, o_isi_bool_i, o_isi_list_l, o_gN, o_gT, o_gsNil, o_gsCons, o_cut_l, o_cut_s, wO_some, wR_ok, wR_of, lpQ_nx, lpQ_ct, tl_set, tl_len, tl_cons, tl_snoc, enum_tl, List.getElem?_cons_zero, List.getElem?_cons_succ, List.set_cons_zero, List.set_cons_succ, List.length_cons, List.length_nil, List.length_map, List.length_range, List.cons_append, List.nil_append, List.replicate, Nat.reduceAdd, Nat.reduceSub, Int.toNat_natCast, decide_eq_true_eq, Bool.not_eq_true, Bool.not_true, Bool.not_false, if_true, Bool.false_eq_true, if_false, true_and, and_true, Int.reduceNeg, Int.reduceLE, Int.reduceLT, Nat.reduceLeDiff, Nat.reduceLT, Int.zero_add, Nat.zero_add, Int.sub_zero, ite_true, ite_false, reduceIte, Bool.not_eq_eq_eq_not]
  refine ⟨by omega, ?_⟩
  refine wF_rng (fun i Γ => ∃ L j1 j2, Γ = [.int n, .lst L, j1, j2, .non] ∧ L = tl (i + 1) fun i => il (i + 1).toNat fun k => chI i k) ?_ ?_ ?_
  · exact ⟨_, _, _, rfl, rfl⟩
  · rintro i Γ hi ⟨_, j1, j2, rfl, rfl⟩
    simp (disch := omega) only [↓wE_var, ↓wE_c, ↓wE_bin, ↓wE_un, ↓wA_nil, ↓wA_cons, ↓wE_app, ↓wE_call, ↓wE_tup, ↓wE_lst, ↓wE_if, ↓wE_isi, ↓wE_sl, ↓wR_oNo, ↓wR_oAt, ↓ex_int, ↓ex_bl, ↓ex_lst, ↓ex_par, ↓wB_val, ↓wB_tru, ↓wB_not, ↓wB_and, ↓wB_or, ↓wB_yes, ↓wE_and, ↓wE_or, ↓wE_not, ↓wE_chain, ↓nxQ_nx, ↓nxQ_rt, ↓nxQ_ct, ↓nxQ_bk, ↓wS_nil, ↓wS_seq, ↓wS_bk, ↓wS_ct, ↓wS_exp, ↓wS_asg, ↓wS_ret, ↓wS_if, ↓wS_aug, ↓wS_asgG, ↓wS_par, ↓wS_app, ↓wS_setix, ↓wS_augix, ↓wS_for, ↓wA_seq, ↓wA_rng, ↓wE_lc, ↓o_add_ii, ↓o_add_ll, ↓o_addI_ii, ↓o_subI_ii, ↓o_mul_ii, ↓o_mulI_ii, ↓o_mul_li, ↓o_mulL_li, ↓o_fdiv_ii, ↓o_mod_ii, ↓o_pow_ii, ↓o_neg_i, ↓o_cmp_ii, ↓o_eq_ii, ↓o_ne_ii, ↓o_is_nn, ↓o_is_in, ↓o_not_nn, ↓o_not_in, ↓o_ix_lst, ↓o_ix_tup, ↓o_ix_scr, ↓o_at, ↓o_at_neg, ↓o_set, ↓o_rng1, ↓o_rng2, ↓o_seq_lst, ↓o_seq_tup, ↓o_seq_scr, ↓o_enum_lst, ↓o_len_l, ↓o_len_t, ↓o_abs, ↓o_max2, ↓o_min2, ↓o_int_i, ↓o_int_b, ↓o_list_l, ↓o_list_s, ↓o_list_t, ↓o_sum_tl, ↓o_tru_b, ↓o_isi_int_i, ↓o_isi_int_non, ↓o_isi_bool_i, ↓o_isi_list_l, ↓o_gN, ↓o_gT, ↓o_gsNil, ↓o_gsCons, ↓o_cut_l, ↓o_cut_s, ↓wO_some, ↓wR_ok, ↓wR_of, ↓lpQ_nx, ↓lpQ_ct, wE_var, wE_c, wE_bin, wE_un, wA_nil, wA_cons, wE_app, wE_call, wE_tup, wE_lst, wE_if, wE_isi, wE_sl, wR_oNo, wR_oAt, ex_int, ex_bl, ex_lst, ex_par, wB_val, wB_tru, wB_not, wB_and, wB_or, wB_yes, wE_and, wE_or, wE_not, wE_chain, nxQ_nx, nxQ_rt, nxQ_ct, nxQ_bk, wS_nil, wS_seq, wS_bk, wS_ct, wS_exp, wS_asg, wS_ret, wS_if, wS_aug, wS_asgG, wS_par, wS_app, wS_setix, wS_augix, wS_for, wA_seq, wA_rng, wE_lc, o_add_ii, o_add_ll, o_addI_ii, o_subI_ii, o_mul_ii, o_mulI_ii, o_mul_li, o_mulL_li, o_fdiv_ii, o_mod_ii, o_pow_ii, o_neg_i, o_cmp_ii, o_eq_ii, o_ne_ii, o_is_nn, o_is_in, o_not_nn, o_not_in, o_ix_lst, o_ix_tup, o_ix_scr, o_at, o_at_neg, o_set, o_rng1, o_rng2, o_seq_lst, o_seq_tup, o_seq_scr, o_enum_lst, o_len_l, o_len_t, o_abs, o_max2, o_min2, o_int_i, o_int_b, o_list_l, o_list_s, o_list_t, o_sum_tl, o_tru_b, o_isi_int_i, o_isi_int_non, o_isi_bool_i, o_isi_list_l, o_gN, o_gT, o_gsNil, o_gsCons, o_cut_l, o_cut_s, wO_some, wR_ok, wR_of, lpQ_nx, lpQ_ct, tl_set, tl_len, tl_cons, tl_snoc, enum_tl, List.getElem?_cons_zero, List.getElem?_cons_succ, List.set_cons_zero, List.set_cons_succ, List.length_cons, List.length_nil, List.length_map, List.length_range, List.cons_append, List.nil_append, List.replicate, Nat.reduceAdd, Nat.reduceSub, Int.toNat_natCast, decide_eq_true_eq, Bool.not_eq_true, Bool.not_true, Bool.not_false, if_true, Bool.false_eq_true, if_false, true_and, and_true, Int.reduceNeg, Int.reduceLE, Int.reduceLT, Nat.reduceLeDiff, Nat.reduceLT, Int.zero_add, Nat.zero_add, Int.sub_zero, ite_true, ite_false, reduceIte, Bool.not_eq_eq_eq_not]
    have e1 : (((i + 1 : Nat) : Int) + -1 + 1).toNat = i + 1 := by omega
    have e2 : ((i + 1 : Nat) : Int) + -1 = i := by omega
    have e3 : (((i + 1 : Nat) : Int) - 1).toNat = i := by omega
    rw [e1, e2, e3]
    refine ⟨by omega, by omega, lc_tl (fun k => .int (chI i k + chI i (k + 1))) ?_ ?_⟩
    · intro k hk
      simp (disch := omega) only [↓wE_var, ↓wE_c, ↓wE_bin, ↓wE_un, ↓wA_nil, ↓wA_cons, ↓wE_app, ↓wE_call, ↓wE_tup, ↓wE_lst, ↓wE_if, ↓wE_isi, ↓wE_sl, ↓wR_oNo, ↓wR_oAt, ↓ex_int, ↓ex_bl, ↓ex_lst, ↓ex_par, ↓wB_val, ↓wB_tru, ↓wB_not, ↓wB_and, ↓wB_or, ↓wB_yes, ↓wE_and, ↓wE_or, ↓wE_not, ↓wE_chain, ↓nxQ_nx, ↓nxQ_rt, ↓nxQ_ct, ↓nxQ_bk, ↓wS_nil, ↓wS_seq, ↓wS_bk, ↓wS_ct, ↓wS_exp, ↓wS_asg, ↓wS_ret, ↓wS_if, ↓wS_aug, ↓wS_asgG, ↓wS_par, ↓wS_app, ↓wS_setix, ↓wS_augix, ↓wS_for, ↓wA_seq, ↓wA_rng, ↓wE_lc, ↓o_add_ii, ↓o_add_ll, ↓o_addI_ii, ↓o_subI_ii, ↓o_mul_ii, ↓o_mulI_ii, ↓o_mul_li, ↓o_mulL_li, ↓o_fdiv_ii, ↓o_mod_ii, ↓o_pow_ii, ↓o_neg_i, ↓o_cmp_ii, ↓o_eq_ii, ↓o_ne_ii, ↓o_is_nn, ↓o_is_in, ↓o_not_nn, ↓o_not_in, ↓o_ix_lst, ↓o_ix_tup, ↓o_ix_scr, ↓o_at, ↓o_at_neg, ↓o_set, ↓o_rng1, ↓o_rng2, ↓o_seq_lst, ↓o_seq_tup, ↓o_seq_scr, ↓o_enum_lst, ↓o_len_l, ↓o_len_t, ↓o_abs, ↓o_max2, ↓o_min2, ↓o_int_i, ↓o_int_b, ↓o_list_l, ↓o_list_s, ↓o_list_t, ↓o_sum_tl, ↓o_tru_b, ↓o_isi_int_i, ↓o_isi_int_non, ↓o_isi_bool_i, ↓o_isi_list_l, ↓o_gN, ↓o_gT, ↓o_gsNil, ↓o_gsCons, ↓o_cut_l, ↓o_cut_s, ↓wO_some, ↓wR_ok, ↓wR_of, ↓lpQ_nx, ↓lpQ_ct, wE_var, wE_c, wE_bin, wE_un, wA_nil, wA_cons, wE_app, wE_call, wE_tup, wE_lst, wE_if, wE_isi, wE_sl, wR_oNo, wR_oAt, ex_int, ex_bl, ex_lst, ex_par, wB_val, wB_tru, wB_not, wB_and, wB_or, wB_yes, wE_and, wE_or, wE_not, wE_chain, nxQ_nx, nxQ_rt, nxQ_ct, nxQ_bk, wS_nil, wS_seq, wS_bk, wS_ct, wS_exp, wS_asg, wS_ret, wS_if, wS_aug, wS_asgG, wS_par, wS_app, wS_setix, wS_augix, wS_for, wA_seq, wA_rng, wE_lc, o_add_ii, o_add_ll, o_addI_ii, o_subI_ii, o_mul_ii, o_mulI_ii, o_mul_li, o_mulL_li, o_fdiv_ii, o_mod_ii, o_pow_ii, o_neg_i, o_cmp_ii, o_eq_ii, o_ne_ii, o_is_nn, o_is_in, o_not_nn, o_not_in, o_ix_lst, o_ix_tup, o_ix_scr, o_at, o_at_neg, o_set, o_rng1, o_rng2, o_seq_lst, o_seq_tup, o_seq_scr, o_enum_lst, o_len_l, o_len_t, o_abs, o_max2, o_min2, o_int_i, o_int_b, o_list_l, o_list_s, o_list_t, o_sum_tl, o_tru_b, o_isi_int_i, o_isi_int_non, o_isi_bool_i, o_isi_list_l, o_gN, o_gT, o_gsNil, o_gsCons, o_cut_l, o_cut_s, wO_some, wR_ok, wR_of, lpQ_nx, lpQ_ct, tl_set, tl_len, tl_cons, tl_snoc, enum_tl, List.getElem?_cons_zero, List.getElem?_cons_succ, List.set_cons_zero, List.set_cons_succ, List.length_cons, List.length_nil, List.length_map, List.length_range, List.cons_append, List.nil_append, List.replicate, Nat.reduceAdd, Nat.reduceSub, Int.toNat_natCast, decide_eq_true_eq, Bool.not_eq_true, Bool.not_true, Bool.not_false, if_true, Bool.false_eq_true, if_false, true_and, and_true, Int.reduceNeg, Int.reduceLE, Int.reduceLT, Nat.reduceLeDiff, Nat.reduceLT, Int.zero_add, Nat.zero_add, Int.sub_zero, ite_true, ite_false, reduceIte, Bool.not_eq_eq_eq_not]
    · simp only [↓wE_var, ↓wE_c, ↓wE_bin, ↓wE_un, ↓wA_nil, ↓wA_cons, ↓wE_app, ↓wE_call, ↓wE_tup, ↓wE_lst, ↓wE_if, ↓wE_isi, ↓wE_sl, ↓wR_oNo, ↓wR_oAt, ↓ex_int, ↓ex_bl, ↓ex_lst, ↓ex_par, ↓wB_val, ↓wB_tru, ↓wB_not, ↓wB_and, ↓wB_or, ↓wB_yes, ↓wE_and, ↓wE_or, ↓wE_not, ↓wE_chain, ↓nxQ_nx, ↓nxQ_rt, ↓nxQ_ct, ↓nxQ_bk, ↓wS_nil, ↓wS_seq, ↓wS_bk, ↓wS_ct, ↓wS_exp, ↓wS_asg, ↓wS_ret, ↓wS_if, ↓wS_aug, ↓wS_asgG, ↓wS_par, ↓wS_app, ↓wS_setix, ↓wS_augix, ↓wS_for, ↓wA_seq, ↓wA_rng, ↓wE_lc, ↓o_add_ii, ↓o_add_ll, ↓o_addI_ii, ↓o_subI_ii, ↓o_mul_ii, ↓o_mulI_ii, ↓o_mul_li, ↓o_mulL_li, ↓o_fdiv_ii, ↓o_mod_ii, ↓o_pow_ii, ↓o_neg_i, ↓o_cmp_ii, ↓o_eq_ii, ↓o_ne_ii, ↓o_is_nn, ↓o_is_in, ↓o_not_nn, ↓o_not_in, ↓o_ix_lst, ↓o_ix_tup, ↓o_ix_scr, ↓o_at, ↓o_at_neg, ↓o_set, ↓o_rng1, ↓o_rng2, ↓o_seq_lst, ↓o_seq_tup, ↓o_seq_scr, ↓o_enum_lst, ↓o_len_l, ↓o_len_t, ↓o_abs, ↓o_max2, ↓o_min2, ↓o_int_i, ↓o_int_b, ↓o_list_l, ↓o_list_s, ↓o_list_t, ↓o_sum_tl, ↓o_tru_b, ↓o_isi_int_i, ↓o_isi_int_non, ↓o_isi_bool_i, ↓o_isi_list_l, ↓o_gN, ↓o_gT, ↓o_gsNil, ↓o_gsCons, ↓o_cut_l, ↓o_cut_s, ↓wO_some, ↓wR_ok, ↓wR_of, ↓lpQ_nx, ↓lpQ_ct, wE_var, wE_c, wE_bin, wE_un, wA_nil, wA_cons, wE_app, wE_call, wE_tup, wE_lst, wE_if, wE_isi, wE_sl, wR_oNo, wR_oAt, ex_int, ex_bl, ex_lst, ex_par, wB_val, wB_tru, wB_not, wB_and, wB_or, wB_yes, wE_and, wE_or, wE_not, wE_chain, nxQ_nx, nxQ_rt, nxQ_ct, nxQ_bk, wS_nil, wS_seq, wS_bk, wS_ct, wS_exp, wS_asg, wS_ret, wS_if, wS_aug, wS_asgG, wS_par, wS_app, wS_setix, wS_augix, wS_for, wA_seq, wA_rng, wE_lc, o_add_ii, o_add_ll, o_addI_ii, o_subI_ii, o_mul_ii, o_mulI_ii, o_mul_li, o_mulL_li, o_fdiv_ii, o_mod_ii, o_pow_ii, o_neg_i, o_cmp_ii, o_eq_ii, o_ne_ii, o_is_nn, o_is_in, o_not_nn, o_not_in, o_ix_lst, o_ix_tup, o_ix_scr, o_at, o_at_neg, o_set, o_rng1, o_rng2, o_seq_lst, o_seq_tup, o_seq_scr, o_enum_lst, o_len_l, o_len_t, o_abs, o_max2, o_min2, o_int_i, o_int_b, o_list_l, o_list_s, o_list_t, o_sum_tl, o_tru_b, o_isi_int_i, o_isi_int_non, o_isi_bool_i, o_isi_list_l, o_gN, o_gT, o_gsNil, o_gsCons, o_cut_l, o_cut_s, wO_some, wR_ok, wR_of, lpQ_nx, lpQ_ct, tl_set, tl_len, tl_cons, tl_snoc, enum_tl, List.getElem?_cons_zero, List.getElem?_cons_succ, List.set_cons_zero, List.set_cons_succ, List.length_cons, List.length_nil, List.length_map, List.length_range, List.cons_append, List.nil_append, List.replicate, Nat.reduceAdd, Nat.reduceSub, Int.toNat_natCast, decide_eq_true_eq, Bool.not_eq_true, Bool.not_true, Bool.not_false, if_true, Bool.false_eq_true, if_false, true_and, and_true, Int.reduceNeg, Int.reduceLE, Int.reduceLT, Nat.reduceLeDiff, Nat.reduceLT, Int.zero_add, Nat.zero_add, Int.sub_zero, ite_true, ite_false, reduceIte, Bool.not_eq_eq_eq_not]
      refine ⟨by omega, by omega, by omega, _, _, _, rfl, ?_⟩
      refine tl_congr fun k h0 h1 => ?_
      by_cases hk : k = ((i + 1 : Nat) : Int)
      · subst hk
        rw [if_pos rfl, show (((i + 1 : Nat) : Int) + 1).toNat = i + 1 + 1 by omega]
        refine congrArg _ (tl_congr fun j h2 h3 => ?_)
        by_cases hj : j = 0
        · subst hj
          rw [if_pos rfl]; dsimp only; rw [chI_0]
        · rw [if_neg hj]
          by_cases hj2 : j - 1 = i
          · rw [if_pos hj2, show j = ((i + 1 : Nat) : Int) by omega]; dsimp only; rw [chI_n]
          · rw [if_neg hj2]; dsimp only; rw [show ((i + 1 : Nat) : Int) = (i : Int) + 1 by omega, chI_s (by omega) (by omega), show j - 1 + 1 = j by omega]
      · rw [if_neg hk]
  · rintro Γ' ⟨_, j1, j2, rfl, rfl⟩
    simp only [↓wE_var, ↓wE_c, ↓wE_bin, ↓wE_un, ↓wA_nil, ↓wA_cons, ↓wE_app, ↓wE_call, ↓wE_tup, ↓wE_lst, ↓wE_if, ↓wE_isi, ↓wE_sl, ↓wR_oNo, ↓wR_oAt, ↓ex_int, ↓ex_bl, ↓ex_lst, ↓ex_par, ↓wB_val, ↓wB_tru, ↓wB_not, ↓wB_and, ↓wB_or, ↓wB_yes, ↓wE_and, ↓wE_or, ↓wE_not, ↓wE_chain, ↓nxQ_nx, ↓nxQ_rt, ↓nxQ_ct, ↓nxQ_bk, ↓wS_nil, ↓wS_seq, ↓wS_bk, ↓wS_ct, ↓wS_exp, ↓wS_asg, ↓wS_ret, ↓wS_if, ↓wS_aug, ↓wS_asgG, ↓wS_par, ↓wS_app, ↓wS_setix, ↓wS_augix, ↓wS_for, ↓wA_seq, ↓wA_rng, ↓wE_lc, ↓o_add_ii, ↓o_add_ll, ↓o_addI_ii, ↓o_subI_ii, ↓o_mul_ii, ↓o_mulI_ii, ↓o_mul_li, ↓o_mulL_li, ↓o_fdiv_ii, ↓o_mod_ii, ↓o_pow_ii, ↓o_neg_i, ↓o_cmp_ii, ↓o_eq_ii, ↓o_ne_ii, ↓o_is_nn, ↓o_is_in, ↓o_not_nn, ↓o_not_in, ↓o_ix_lst, ↓o_ix_tup, ↓o_ix_scr, ↓o_at, ↓o_at_neg, ↓o_set, ↓o_rng1, ↓o_rng2, ↓o_seq_lst, ↓o_seq_tup, ↓o_seq_scr, ↓o_enum_lst, ↓o_len_l, ↓o_len_t, ↓o_abs, ↓o_max2, ↓o_min2, ↓o_int_i, ↓o_int_b, ↓o_list_l, ↓o_list_s, ↓o_list_t, ↓o_sum_tl, ↓o_tru_b, ↓o_isi_int_i, ↓o_isi_int_non, ↓o_isi_bool_i, ↓o_isi_list_l, ↓o_gN, ↓o_gT, ↓o_gsNil, ↓o_gsCons, ↓o_cut_l, ↓o_cut_s, ↓wO_some, ↓wR_ok, ↓wR_of, ↓lpQ_nx, ↓lpQ_ct, wE_var, wE_c, wE_bin, wE_un, wA_nil, wA_cons, wE_app, wE_call, wE_tup, wE_lst, wE_if, wE_isi, wE_sl, wR_oNo, wR_oAt, ex_int, ex_bl, ex_lst, ex_par, wB_val, wB_tru, wB_not, wB_and, wB_or, wB_yes, wE_and, wE_or, wE_not, wE_chain, nxQ_nx, nxQ_rt, nxQ_ct, nxQ_bk, wS_nil, wS_seq, wS_bk, wS_ct, wS_exp, wS_asg, wS_ret, wS_if, wS_aug, wS_asgG, wS_par, wS_app, wS_setix, wS_augix, wS_for, wA_seq, wA_rng, wE_lc, o_add_ii, o_add_ll, o_addI_ii, o_subI_ii, o_mul_ii, o_mulI_ii, o_mul_li, o_mulL_li, o_fdiv_ii, o_mod_ii, o_pow_ii, o_neg_i, o_cmp_ii, o_eq_ii, o_ne_ii, o_is_nn, o_is_in, o_not_nn, o_not_in, o_ix_lst, o_ix_tup, o_ix_scr, o_at, o_at_neg, o_set, o_rng1, o_rng2, o_seq_lst, o_seq_tup, o_seq_scr, o_enum_lst, o_len_l, o_len_t, o_abs, o_max2, o_min2, o_int_i, o_int_b, o_list_l, o_list_s, o_list_t, o_sum_tl, o_tru_b, o_isi_int_i, o_isi_int_non, o_isi_bool_i, o_isi_list_l, o_gN, o_gT, o_gsNil, o_gsCons, o_cut_l, o_cut_s, wO_some, wR_ok, wR_of, lpQ_nx, lpQ_ct, tl_set, tl_len, tl_cons, tl_snoc, enum_tl, List.getElem?_cons_zero, List.getElem?_cons_succ, List.set_cons_zero, List.set_cons_succ, List.length_cons, List.length_nil, List.length_map, List.length_range, List.cons_append, List.nil_append, List.replicate, Nat.reduceAdd, Nat.reduceSub, Int.toNat_natCast, decide_eq_true_eq, Bool.not_eq_true, Bool.not_true, Bool.not_false, if_true, Bool.false_eq_true, if_false, true_and, and_true, Int.reduceNeg, Int.reduceLE, Int.reduceLT, Nat.reduceLeDiff, Nat.reduceLT, Int.zero_add, Nat.zero_add, Int.sub_zero, ite_true, ite_false, reduceIte, Bool.not_eq_eq_eq_not]
/-- the weight of a product -/
def wt (l : Bool) (n k : Int) : Int := if l = true then chI n k else 1
/-- the product of two series, at a size -/
def cv (l : Bool) (f g : Int → Int) (n : Int) : Int := sm (n + 1).toNat fun k => f k * g (n - k) * wt l n k
theorem sm_congr {n : Nat} {h k : Int → Int} (e : ∀ i : Int, 0 ≤ i → i < n → h i = k i) : sm n h = sm n k := by
  induction n with
  | zero => rfl
  | succ n ih => rw [sm, sm, ih fun i h0 hi => e i h0 (by omega), e n (by omega) (by omega)]
theorem sm_cut {n : Nat} {m : Int} {h : Int → Int} (hm : 0 ≤ m ∧ m < n) : (sm n fun k => if k ≤ m then h k else 0) = sm (m + 1).toNat h := by
  induction n with
  | zero => omega
  | succ n ih =>
    rw [sm]
    by_cases e : m = n
    · subst e
      rw [if_pos (by omega), show ((n : Int) + 1).toNat = n + 1 by omega, sm]
      congr 1
      exact sm_congr fun i h0 h1 => if_pos (by omega)
    · rw [if_neg (by omega), ih (by omega), Int.add_zero]
def small (f : Int → Int) : Prop := ∀ i, -(2 ^ 64) < f i ∧ f i < 2 ^ 64
theorem ch_le : ∀ n k : Nat, ch n k ≤ 2 ^ n
  | n, 0 => by rw [ch_zero]; exact Nat.one_le_two_pow
  | 0, k + 1 => by simp [ch]
  | n + 1, k + 1 => by
    have := ch_le n k
    have := ch_le n (k + 1)
    rw [ch, Nat.pow_succ]; omega
theorem wt_small {l : Bool} {n k : Int} (h : n ≤ 60) : -(2 ^ 64) < wt l n k ∧ wt l n k < 2 ^ 64 := by
  unfold wt
  cases l with
  | false => simp
  | true =>
    have h1 := ch_le n.toNat k.toNat
    have h2 : 2 ^ n.toNat ≤ 2 ^ 60 := Nat.pow_le_pow_right (by omega) (by omega)
    simp only [if_true, chI]
    omega
theorem prod_ok (n : Nat) (l : Bool) (f g : Int → Int) (hn : 1 ≤ n) (hn2 : n ≤ 60) (hs : small f ∨ small g) : m_product [il n f, il n g, .bl l] = .ok (il n (cv l f g)) := by
  refine m_ok rfl ?_
  unfold b_product
  rw [wS_seq, wS_asg]
  refine wR_mono (Q := fun c => l = true → c = .lst (tl n fun i => il (i + 1).toNat fun k => chI i k)) ?_ fun c hc => ?_
  · change wE _ _ _
    cases l with
    | false => simp only [↓wE_var, ↓wE_c, ↓wE_bin, ↓wE_un, ↓wA_nil, ↓wA_cons, ↓wE_app, ↓wE_call, ↓wE_tup, ↓wE_lst, ↓wE_if, ↓wE_isi, ↓wE_sl, ↓wR_oNo, ↓wR_oAt, ↓ex_int, ↓ex_bl, ↓ex_lst, ↓ex_par, ↓wB_val, ↓wB_tru, ↓wB_not, ↓wB_and, ↓wB_or, ↓wB_yes, ↓wE_and, ↓wE_or, ↓wE_not, ↓wE_chain, ↓nxQ_nx, ↓nxQ_rt, ↓nxQ_ct, ↓nxQ_bk, ↓wS_nil, ↓wS_seq, ↓wS_bk, ↓wS_ct, ↓wS_exp, ↓wS_asg, ↓wS_ret, ↓wS_if, ↓wS_aug, ↓wS_asgG, ↓wS_par, ↓wS_app, ↓wS_setix, ↓wS_augix, ↓wS_for, ↓wA_seq, ↓wA_rng, ↓wE_lc, ↓o_add_ii, ↓o_add_ll, ↓o_addI_ii, ↓o_subI_ii, ↓o_mul_ii, ↓o_mulI_ii, ↓o_mul_li, ↓o_mulL_li, ↓o_fdiv_ii, ↓o_mod_ii, ↓o_pow_ii, ↓o_neg_i, ↓o_cmp_ii, ↓o_eq_ii, ↓o_ne_ii, ↓o_is_nn, ↓o_is_in, ↓o_not_nn, ↓o_not_in, ↓o_ix_lst, ↓o_ix_tup, ↓o_ix_scr, ↓o_at, ↓o_at_neg, ↓o_set, ↓o_rng1, ↓o_rng2, ↓o_seq_lst, ↓o_seq_tup, ↓o_seq_scr, ↓o_enum_lst, ↓o_len_l, ↓o_len_t, ↓o_abs, ↓o_max2, ↓o_min2, ↓o_int_i, ↓o_int_b, ↓o_list_l, ↓o_list_s, ↓o_list_t, ↓o_sum_tl, ↓o_tru_b, ↓o_isi_int_i, ↓o_isi_int_non, ↓o_isi_bool_i, ↓o_isi_list_l, ↓o_gN, ↓o_gT, ↓o_gsNil, ↓o_gsCons, ↓o_cut_l, ↓o_cut_s, ↓wO_some, ↓wR_ok, ↓wR_of, ↓lpQ_nx, ↓lpQ_ct, wE_var, wE_c, wE_bin, wE_un, wA_nil, wA_cons, wE_app, wE_call, wE_tup, wE_lst, wE_if, wE_isi, wE_sl, wR_oNo, wR_oAt, ex_int, ex_bl, ex_lst, ex_par, wB_val, wB_tru, wB_not, wB_and, wB_or, wB_yes, wE_and, wE_or, wE_not, wE_chain, nxQ_nx, nxQ_rt, nxQ_ct, nxQ_bk, wS_nil, wS_seq, wS_bk, wS_ct, wS_exp, wS_asg, wS_ret, wS_if, wS_aug, wS_asgG, wS_par, wS_app, wS_setix, wS_augix, wS_for, wA_seq, wA_rng, wE_lc, o_add_ii, o_add_ll, o_addI_ii, o_subI_ii, o_mul_ii, o_mulI_ii, o_mul_li, o_mulL_li, o_fdiv_ii, o_mod_ii, o_pow_ii, o_neg_i, o_cmp_ii, o_eq_ii, o_ne_ii, o_is_nn, o_is_in, o_not_nn, o_not_in, o_ix_lst, o_ix_tup, o_ix_scr, o_at, o_at_neg, o_set, o_rng1, o_rng2, o_seq_lst, o_seq_tup, o_seq_scr, o_enum_lst, o_len_l, o_len_t, o_abs, o_max2, o_min2, o_int_i, o_int_b, o_list_l, o_list_s, o_list_t, o_sum_tl, o_tru_b, o_isi_int_i, o_isi_int_non, o_isi_bool_i, o_isi_list_l, o_gN, o_gT, o_gsNil, o_gsCons, o_cut_l, o_cut_s, wO_some, wR_ok, wR_of, lpQ_nx, lpQ_ct, tl_set, tl_len, tl_cons, tl_snoc, enum_tl, List.getElem?_cons_zero, List.getElem?_cons_succ, List.set_cons_zero, List.set_cons_succ, List.length_cons, List.length_nil, List.length_map, List.length_range, List.cons_append, List.nil_append, List.replicate, Nat.reduceAdd, Nat.reduceSub, Int.toNat_natCast, decide_eq_true_eq, Bool.not_eq_true, Bool.not_true, Bool.not_false, if_true, Bool.false_eq_true, if_false, true_and, and_true, Int.reduceNeg, Int.reduceLE, Int.reduceLT, Nat.reduceLeDiff, Nat.reduceLT, Int.zero_add, Nat.zero_add, Int.sub_zero, ite_true, ite_false, reduceIte, Bool.not_eq_eq_eq_not]; intro h; cases h
    | true =>
      have := bin_ok (n - 1) (by omega)
      simp only [↓wE_var, ↓wE_c, ↓wE_bin, ↓wE_un, ↓wA_nil, ↓wA_cons, ↓wE_app, ↓wE_call, ↓wE_tup, ↓wE_lst, ↓wE_if, ↓wE_isi, ↓wE_sl, ↓wR_oNo, ↓wR_oAt, ↓ex_int, ↓ex_bl, ↓ex_lst, ↓ex_par, ↓wB_val, ↓wB_tru, ↓wB_not, ↓wB_and, ↓wB_or, ↓wB_yes, ↓wE_and, ↓wE_or, ↓wE_not, ↓wE_chain, ↓nxQ_nx, ↓nxQ_rt, ↓nxQ_ct, ↓nxQ_bk, ↓wS_nil, ↓wS_seq, ↓wS_bk, ↓wS_ct, ↓wS_exp, ↓wS_asg, ↓wS_ret, ↓wS_if, ↓wS_aug, ↓wS_asgG, ↓wS_par, ↓wS_app, ↓wS_setix, ↓wS_augix, ↓wS_for, ↓wA_seq, ↓wA_rng, ↓wE_lc, ↓o_add_ii, ↓o_add_ll, ↓o_addI_ii, ↓o_subI_ii, ↓o_mul_ii, ↓o_mulI_ii, ↓o_mul_li, ↓o_mulL_li, ↓o_fdiv_ii, ↓o_mod_ii, ↓o_pow_ii, ↓o_neg_i, ↓o_cmp_ii, ↓o_eq_ii, ↓o_ne_ii, ↓o_is_nn, ↓o_is_in, ↓o_not_nn, ↓o_not_in, ↓o_ix_lst, ↓o_ix_tup, ↓o_ix_scr, ↓o_at, ↓o_at_neg, ↓o_set, ↓o_rng1, ↓o_rng2, ↓o_seq_lst, ↓o_seq_tup, ↓o_seq_scr, ↓o_enum_lst, ↓o_len_l, ↓o_len_t, ↓o_abs, ↓o_max2, ↓o_min2, ↓o_int_i, ↓o_int_b, ↓o_list_l, ↓o_list_s, ↓o_list_t, ↓o_sum_tl, ↓o_tru_b, ↓o_isi_int_i, ↓o_isi_int_non, ↓o_isi_bool_i, ↓o_isi_list_l, ↓o_gN, ↓o_gT, ↓o_gsNil, ↓o_gsCons, ↓o_cut_l, ↓o_cut_s, ↓wO_some, ↓wR_ok, ↓wR_of, ↓lpQ_nx, ↓lpQ_ct, wE_var, wE_c, wE_bin, wE_un, wA_nil, wA_cons, wE_app, wE_call, wE_tup, wE_lst, wE_if, wE_isi, wE_sl, wR_oNo, wR_oAt, ex_int, ex_bl, ex_lst, ex_par, wB_val, wB_tru, wB_not, wB_and, wB_or, wB_yes, wE_and, wE_or, wE_not, wE_chain, nxQ_nx, nxQ_rt, nxQ_ct, nxQ_bk, wS_nil, wS_seq, wS_bk, wS_ct, wS_exp, wS_asg, wS_ret, wS_if, wS_aug, wS_asgG, wS_par, wS_app, wS_setix, wS_augix, wS_for, wA_seq, wA_rng, wE_lc, o_add_ii, o_add_ll, o_addI_ii, o_subI_ii, o_mul_ii, o_mulI_ii, o_mul_li, o_mulL_li, o_fdiv_ii, o_mod_ii, o_pow_ii, o_neg_i, o_cmp_ii, o_eq_ii, o_ne_ii, o_is_nn, o_is_in, o_not_nn, o_not_in, o_ix_lst, o_ix_tup, o_ix_scr, o_at, o_at_neg, o_set, o_rng1, o_rng2, o_seq_lst, o_seq_tup, o_seq_scr, o_enum_lst, o_len_l, o_len_t, o_abs, o_max2, o_min2, o_int_i, o_int_b, o_list_l, o_list_s, o_list_t, o_sum_tl, o_tru_b, o_isi_int_i, o_isi_int_non, o_isi_bool_i, o_isi_list_l, o_gN, o_gT, o_gsNil, o_gsCons, o_cut_l, o_cut_s, wO_some, wR_ok, wR_of, lpQ_nx, lpQ_ct, tl_set, tl_len, tl_cons, tl_snoc, enum_tl, List.getElem?_cons_zero, List.getElem?_cons_succ, List.set_cons_zero, List.set_cons_succ, List.length_cons, List.length_nil, List.length_map, List.length_range, List.cons_append, List.nil_append, List.replicate, Nat.reduceAdd, Nat.reduceSub, Int.toNat_natCast, decide_eq_true_eq, Bool.not_eq_true, Bool.not_true, Bool.not_false, if_true, Bool.false_eq_true, if_false, true_and, and_true, Int.reduceNeg, Int.reduceLE, Int.reduceLT, Nat.reduceLeDiff, Nat.reduceLT, Int.zero_add, Nat.zero_add, Int.sub_zero, ite_true, ite_false, reduceIte, Bool.not_eq_eq_eq_not]
      rw [show ((n : Int) - 1) = ((n - 1 : Nat) : Int) by omega, this, show n - 1 + 1 = n by omega, wR_ok]
      intro _; rfl
  · simp only [↓wE_var, ↓wE_c, ↓wE_bin, ↓wE_un, ↓wA_nil, ↓wA_cons, ↓wE_app, ↓wE_call, ↓wE_tup, ↓wE_lst, ↓wE_if, ↓wE_isi, ↓wE_sl, ↓wR_oNo, ↓wR_oAt, ↓ex_int, ↓ex_bl, ↓ex_lst, ↓ex_par, ↓wB_val, ↓wB_tru, ↓wB_not, ↓wB_and, ↓wB_or, ↓wB_yes, ↓wE_and, ↓wE_or, ↓wE_not, ↓wE_chain, ↓nxQ_nx, ↓nxQ_rt, ↓nxQ_ct, ↓nxQ_bk, ↓wS_nil, ↓wS_seq, ↓wS_bk, ↓wS_ct, ↓wS_exp, ↓wS_asg, ↓wS_ret, ↓wS_if, ↓wS_aug, ↓wS_asgG, ↓wS_par, ↓wS_app, ↓wS_setix, ↓wS_augix, ↓wS_for, ↓wA_seq, ↓wA_rng, ↓wE_lc, ↓o_add_ii, ↓o_add_ll, ↓o_addI_ii, ↓o_subI_ii, ↓o_mul_ii, ↓o_mulI_ii, ↓o_mul_li, ↓o_mulL_li, ↓o_fdiv_ii, ↓o_mod_ii, ↓o_pow_ii, ↓o_neg_i, ↓o_cmp_ii, ↓o_eq_ii, ↓o_ne_ii, ↓o_is_nn, ↓o_is_in, ↓o_not_nn, ↓o_not_in, ↓o_ix_lst, ↓o_ix_tup, ↓o_ix_scr, ↓o_at, ↓o_at_neg, ↓o_set, ↓o_rng1, ↓o_rng2, ↓o_seq_lst, ↓o_seq_tup, ↓o_seq_scr, ↓o_enum_lst, ↓o_len_l, ↓o_len_t, ↓o_abs, ↓o_max2, ↓o_min2, ↓o_int_i, ↓o_int_b, ↓o_list_l, ↓o_list_s, ↓o_list_t, ↓o_sum_tl, ↓o_tru_b, ↓o_isi_int_i, ↓o_isi_int_non, ↓o_isi_bool_i, ↓o_isi_list_l, ↓o_gN, ↓o_gT, ↓o_gsNil, ↓o_gsCons, ↓o_cut_l, ↓o_cut_s, ↓wO_some, ↓wR_ok, ↓wR_of, ↓lpQ_nx, ↓lpQ_ct, wE_var, wE_c, wE_bin, wE_un, wA_nil, wA_cons, wE_app, wE_call, wE_tup, wE_lst, wE_if, wE_isi, wE_sl, wR_oNo, wR_oAt, ex_int, ex_bl, ex_lst, ex_par, wB_val, wB_tru, wB_not, wB_and, wB_or, wB_yes, wE_and, wE_or, wE_not, wE_chain, nxQ_nx, nxQ_rt, nxQ_ct, nxQ_bk, wS_nil, wS_seq, wS_bk, wS_ct, wS_exp, wS_asg, wS_ret, wS_if, wS_aug, wS_asgG, wS_par, wS_app, wS_setix, wS_augix, wS_for, wA_seq, wA_rng, wE_lc, o_add_ii, o_add_ll, o_addI_ii, o_subI_ii, o_mul_ii, o_mulI_ii, o_mul_li, o_mulL_li, o_fdiv_ii, o_mod_ii, o_pow_ii, o_neg_i, o_cmp_ii, o_eq_ii, o_ne_ii, o_is_nn, o_is_in, o_not_nn, o_not_in, o_ix_lst, o_ix_tup, o_ix_scr, o_at, o_at_neg, o_set, o_rng1, o_rng2, o_seq_lst, o_seq_tup, o_seq_scr, o_enum_lst, o_len_l, o_len_t, o_abs, o_max2, o_min2, o_int_i, o_int_b, o_list_l, o_list_s, o_list_t, o_sum_tl, o_tru_b, o_isi_int_i, o_isi_int_non, o_isi_bool_i, o_isi_list_l, o_gN, o_gT, o_gsNil, o_gsCons, o_cut_l, o_cut_s, wO_some, wR_ok, wR_of, lpQ_nx, lpQ_ct, tl_set, tl_len, tl_cons, tl_snoc, enum_tl, List.getElem?_cons_zero, List.getElem?_cons_succ, List.set_cons_zero, List.set_cons_succ, List.length_cons, List.length_nil, List.length_map, List.length_range, List.cons_append, List.nil_append, List.replicate, Nat.reduceAdd, Nat.reduceSub, Int.toNat_natCast, decide_eq_true_eq, Bool.not_eq_true, Bool.not_true, Bool.not_false, if_true, Bool.false_eq_true, if_false, true_and, and_true, Int.reduceNeg, Int.reduceLE, Int.reduceLT, Nat.reduceLeDiff, Nat.reduceLT, Int.zero_add, Nat.zero_add, Int.sub_zero, ite_true, ite_false, reduceIte, Bool.not_eq_eq_eq_not]
    refine ⟨by omega, wF_rng (fun i Γ => ∃ L j1 j2 j3 j4, Γ = [il n f, il n g, .bl l, c, .lst L, j1, j2, j3, j4] ∧ L = tl n fun m => .int (sm i fun k => if k ≤ m then f k * g (m - k) * wt l m k else 0)) ⟨_, _, _, _, _, rfl, rfl⟩ ?_ ?_⟩
    · rintro i Γ hi ⟨_, j1, j2, j3, j4, rfl, rfl⟩
      simp only [↓wE_var, ↓wE_c, ↓wE_bin, ↓wE_un, ↓wA_nil, ↓wA_cons, ↓wE_app, ↓wE_call, ↓wE_tup, ↓wE_lst, ↓wE_if, ↓wE_isi, ↓wE_sl, ↓wR_oNo, ↓wR_oAt, ↓ex_int, ↓ex_bl, ↓ex_lst, ↓ex_par, ↓wB_val, ↓wB_tru, ↓wB_not, ↓wB_and, ↓wB_or, ↓wB_yes, ↓wE_and, ↓wE_or, ↓wE_not, ↓wE_chain, ↓nxQ_nx, ↓nxQ_rt, ↓nxQ_ct, ↓nxQ_bk, ↓wS_nil, ↓wS_seq, ↓wS_bk, ↓wS_ct, ↓wS_exp, ↓wS_asg, ↓wS_ret, ↓wS_if, ↓wS_aug, ↓wS_asgG, ↓wS_par, ↓wS_app, ↓wS_setix, ↓wS_augix, ↓wS_for, ↓wA_seq, ↓wA_rng, ↓wE_lc, ↓o_add_ii, ↓o_add_ll, ↓o_addI_ii, ↓o_subI_ii, ↓o_mul_ii, ↓o_mulI_ii, ↓o_mul_li, ↓o_mulL_li, ↓o_fdiv_ii, ↓o_mod_ii, ↓o_pow_ii, ↓o_neg_i, ↓o_cmp_ii, ↓o_eq_ii, ↓o_ne_ii, ↓o_is_nn, ↓o_is_in, ↓o_not_nn, ↓o_not_in, ↓o_ix_lst, ↓o_ix_tup, ↓o_ix_scr, ↓o_at, ↓o_at_neg, ↓o_set, ↓o_rng1, ↓o_rng2, ↓o_seq_lst, ↓o_seq_tup, ↓o_seq_scr, ↓o_enum_lst, ↓o_len_l, ↓o_len_t, ↓o_abs, ↓o_max2, ↓o_min2, ↓o_int_i, ↓o_int_b, ↓o_list_l, ↓o_list_s, ↓o_list_t, ↓o_sum_tl, ↓o_tru_b, ↓o_isi_int_i, ↓o_isi_int_non, ↓o_isi_bool_i, ↓o_isi_list_l, ↓o_gN, ↓o_gT, ↓o_gsNil, ↓o_gsCons, ↓o_cut_l, ↓o_cut_s, ↓wO_some, ↓wR_ok, ↓wR_of, ↓lpQ_nx, ↓lpQ_ct, wE_var, wE_c, wE_bin, wE_un, wA_nil, wA_cons, wE_app, wE_call, wE_tup, wE_lst, wE_if, wE_isi, wE_sl, wR_oNo, wR_oAt, ex_int, ex_bl, ex_lst, ex_par, wB_val, wB_tru, wB_not, wB_and, wB_or, wB_yes, wE_and, wE_or, wE_not, wE_chain, nxQ_nx, nxQ_rt, nxQ_ct, nxQ_bk, wS_nil, wS_seq, wS_bk, wS_ct, wS_exp, wS_asg, wS_ret, wS_if, wS_aug, wS_asgG, wS_par, wS_app, wS_setix, wS_augix, wS_for, wA_seq, wA_rng, wE_lc, o_add_ii, o_add_ll, o_addI_ii, o_subI_ii, o_mul_ii, o_mulI_ii, o_mul_li, o_mulL_li, o_fdiv_ii, o_mod_ii, o_pow_ii, o_neg_i, o_cmp_ii, o_eq_ii, o_ne_ii, o_is_nn, o_is_in, o_not_nn, o_not_in, o_ix_lst, o_ix_tup, o_ix_scr, o_at, o_at_neg, o_set, o_rng1, o_rng2, o_seq_lst, o_seq_tup, o_seq_scr, o_enum_lst, o_len_l, o_len_t, o_abs, o_max2, o_min2, o_int_i, o_int_b, o_list_l, o_list_s, o_list_t, o_sum_tl, o_tru_b, o_isi_int_i, o_isi_int_non, o_isi_bool_i, o_isi_list_l, o_gN, o_gT, o_gsNil, o_gsCons, o_cut_l, o_cut_s, wO_some, wR_ok, wR_of, lpQ_nx, lpQ_ct, tl_set, tl_len, tl_cons, tl_snoc, enum_tl, List.getElem?_cons_zero, List.getElem?_cons_succ, List.set_cons_zero, List.set_cons_succ, List.length_cons, List.length_nil, List.length_map, List.length_range, List.cons_append, List.nil_append, List.replicate, Nat.reduceAdd, Nat.reduceSub, Int.toNat_natCast, decide_eq_true_eq, Bool.not_eq_true, Bool.not_true, Bool.not_false, if_true, Bool.false_eq_true, if_false, true_and, and_true, Int.reduceNeg, Int.reduceLE, Int.reduceLT, Nat.reduceLeDiff, Nat.reduceLT, Int.zero_add, Nat.zero_add, Int.sub_zero, ite_true, ite_false, reduceIte, Bool.not_eq_eq_eq_not]
      split
      · rename_i h0
        refine ⟨_, _, _, _, _, rfl, tl_congr fun m h1 h2 => ?_⟩
        rw [sm, h0]
        split <;> simp
      · rename_i h0
        refine ⟨by omega, wF_rng (fun j Γ => ∃ L j1 j2, Γ = [il n f, il n g, .bl l, c, .lst L, .int i, .int (f i), j1, j2] ∧ L = tl n fun m => .int ((sm i fun k => if k ≤ m then f k * g (m - k) * wt l m k else 0) + if i ≤ m ∧ m < i + j then f i * g (m - i) * wt l m i else 0)) ?_ ?_ ?_⟩
        · refine ⟨_, _, _, rfl, tl_congr fun m h1 h2 => ?_⟩
          rw [if_neg (by omega), Int.add_zero]
        · rintro j Γ hj ⟨_, j1, j2, rfl, rfl⟩
          have hm : ∀ i j, mOk (f i) (g j) := by
            intro i j
            rcases hs with h | h
            · exact .inl (h _)
            · exact .inr (h _)
          have hw : mOk (f i * g j) (chI (i + j) i) := .inr (by have := wt_small (l := true) (n := i + j) (k := i) (by omega); simpa [wt] using this)
          have key : ∀ v : Int, v = f i * g j * wt l (i + j) i → (tl n fun m => if m = (i : Int) + j then D.int ((sm i fun k => if k ≤ (i : Int) + j then f k * g (i + j - k) * wt l (i + j) k else 0) + (if (i : Int) ≤ i + j ∧ (i : Int) + j < i + j then f i * g (i + j - i) * wt l (i + j) i else 0) + v) else .int ((sm i fun k => if k ≤ m then f k * g (m - k) * wt l m k else 0) + if i ≤ m ∧ m < i + j then f i * g (m - i) * wt l m i else 0)) = tl n fun m => .int ((sm i fun k => if k ≤ m then f k * g (m - k) * wt l m k else 0) + if i ≤ m ∧ m < i + ((j + 1 : Nat) : Int) then f i * g (m - i) * wt l m i else 0) := by
            intro v hv
            refine tl_congr fun m h1 h2 => ?_
            by_cases hmm : m = (i : Int) + j
            · subst hmm
              rw [if_pos rfl, if_neg (by omega), if_pos (by omega), hv, show (i : Int) + j - i = j by omega, Int.add_zero]
            · rw [if_neg hmm]
              congr 3
              simp only [eq_iff_iff]
              omega
          cases l with
          | false =>
            simp (disch := omega) only [↓wE_var, ↓wE_c, ↓wE_bin, ↓wE_un, ↓wA_nil, ↓wA_cons, ↓wE_app, ↓wE_call, ↓wE_tup, ↓wE_lst, ↓wE_if, ↓wE_isi, ↓wE_sl, ↓wR_oNo, ↓wR_oAt, ↓ex_int, ↓ex_bl, ↓ex_lst, ↓ex_par, ↓wB_val, ↓wB_tru, ↓wB_not, ↓wB_and, ↓wB_or, ↓wB_yes, ↓wE_and, ↓wE_or, ↓wE_not, ↓wE_chain, ↓nxQ_nx, ↓nxQ_rt, ↓nxQ_ct, ↓nxQ_bk, ↓wS_nil, ↓wS_seq, ↓wS_bk, ↓wS_ct, ↓wS_exp, ↓wS_asg, ↓wS_ret, ↓wS_if, ↓wS_aug, ↓wS_asgG, ↓wS_par, ↓wS_app, ↓wS_setix, ↓wS_augix, ↓wS_for, ↓wA_seq, ↓wA_rng, ↓wE_lc, ↓o_add_ii, ↓o_add_ll, ↓o_addI_ii, ↓o_subI_ii, ↓o_mul_ii, ↓o_mulI_ii, ↓o_mul_li, ↓o_mulL_li, ↓o_fdiv_ii, ↓o_mod_ii, ↓o_pow_ii, ↓o_neg_i, ↓o_cmp_ii, ↓o_eq_ii, ↓o_ne_ii, ↓o_is_nn, ↓o_is_in, ↓o_not_nn, ↓o_not_in, ↓o_ix_lst, ↓o_ix_tup, ↓o_ix_scr, ↓o_at, ↓o_at_neg, ↓o_set, ↓o_rng1, ↓o_rng2, ↓o_seq_lst, ↓o_seq_tup, ↓o_seq_scr, ↓o_enum_lst, ↓o_len_l, ↓o_len_t, ↓o_abs, ↓o_max2, ↓o_min2, ↓o_int_i, ↓o_int_b, ↓o_list_l, ↓o_list_s, ↓o_list_t, ↓o_sum_tl, ↓o_tru_b, ↓o_isi_int_i, ↓o_isi_int_non, ↓o_isi_bool_i, ↓o_isi_list_l, ↓o_gN, ↓o_gT, ↓o_gsNil, ↓o_gsCons, ↓o_cut_l, ↓o_cut_s, ↓wO_some, ↓wR_ok, ↓wR_of, ↓lpQ_nx, ↓lpQ_ct, wE_var, wE_c, wE_bin, wE_un, wA_nil, wA_cons, wE_app, wE_call, wE_tup, wE_lst, wE_if, wE_isi, wE_sl, wR_oNo, wR_oAt, ex_int, ex_bl, ex_lst, ex_par, wB_val, wB_tru, wB_not, wB_and, wB_or, wB_yes, wE_and, wE_or, wE_not, wE_chain, nxQ_nx, nxQ_rt, nxQ_ct, nxQ_bk, wS_nil, wS_seq, wS_bk, wS_ct, wS_exp, wS_asg, wS_ret, wS_if, wS_aug, wS_asgG, wS_par, wS_app, wS_setix, wS_augix, wS_for, wA_seq, wA_rng, wE_lc, o_add_ii, o_add_ll, o_addI_ii, o_subI_ii, o_mul_ii, o_mulI_ii, o_mul_li, o_mulL_li, o_fdiv_ii, o_mod_ii, o_pow_ii, o_neg_i, o_cmp_ii, o_eq_ii, o_ne_ii, o_is_nn, o_is_in, o_not_nn, o_not_in, o_ix_lst, o_ix_tup, o_ix_scr, o_at, o_at_neg, o_set, o_rng1, o_rng2, o_seq_lst, o_seq_tup, o_seq_scr, o_enum_lst, o_len_l, o_len_t, o_abs, o_max2, o_min2, o_int_i, o_int_b, o_list_l, o_list_s, o_list_t, o_sum_tl, o_tru_b, o_isi_int_i, o_isi_int_non, o_isi_bool_i, o_isi_list_l, o_gN, o_gT, o_gsNil, o_gsCons, o_cut_l, o_cut_s, wO_some, wR_ok, wR_of, lpQ_nx, lpQ_ct, tl_set, tl_len, tl_cons, tl_snoc, enum_tl, List.getElem?_cons_zero, List.getElem?_cons_succ, List.set_cons_zero, List.set_cons_succ, List.length_cons, List.length_nil, List.length_map, List.length_range, List.cons_append, List.nil_append, List.replicate, Nat.reduceAdd, Nat.reduceSub, Int.toNat_natCast, decide_eq_true_eq, Bool.not_eq_true, Bool.not_true, Bool.not_false, if_true, Bool.false_eq_true, if_false, true_and, and_true, Int.reduceNeg, Int.reduceLE, Int.reduceLT, Nat.reduceLeDiff, Nat.reduceLT, Int.zero_add, Nat.zero_add, Int.sub_zero, ite_true, ite_false, reduceIte, Bool.not_eq_eq_eq_not]
            exact ⟨hm _ _, _, _, _, rfl, key _ (by simp [wt])⟩
          | true =>
            rw [hc rfl]
            simp (disch := omega) only [↓wE_var, ↓wE_c, ↓wE_bin, ↓wE_un, ↓wA_nil, ↓wA_cons, ↓wE_app, ↓wE_call, ↓wE_tup, ↓wE_lst, ↓wE_if, ↓wE_isi, ↓wE_sl, ↓wR_oNo, ↓wR_oAt, ↓ex_int, ↓ex_bl, ↓ex_lst, ↓ex_par, ↓wB_val, ↓wB_tru, ↓wB_not, ↓wB_and, ↓wB_or, ↓wB_yes, ↓wE_and, ↓wE_or, ↓wE_not, ↓wE_chain, ↓nxQ_nx, ↓nxQ_rt, ↓nxQ_ct, ↓nxQ_bk, ↓wS_nil, ↓wS_seq, ↓wS_bk, ↓wS_ct, ↓wS_exp, ↓wS_asg, ↓wS_ret, ↓wS_if, ↓wS_aug, ↓wS_asgG, ↓wS_par, ↓wS_app, ↓wS_setix, ↓wS_augix, ↓wS_for, ↓wA_seq, ↓wA_rng, ↓wE_lc, ↓o_add_ii, ↓o_add_ll, ↓o_addI_ii, ↓o_subI_ii, ↓o_mul_ii, ↓o_mulI_ii, ↓o_mul_li, ↓o_mulL_li, ↓o_fdiv_ii, ↓o_mod_ii, ↓o_pow_ii, ↓o_neg_i, ↓o_cmp_ii, ↓o_eq_ii, ↓o_ne_ii, ↓o_is_nn, ↓o_is_in, ↓o_not_nn, ↓o_not_in, ↓o_ix_lst, ↓o_ix_tup, ↓o_ix_scr, ↓o_at, ↓o_at_neg, ↓o_set, ↓o_rng1, ↓o_rng2, ↓o_seq_lst, ↓o_seq_tup, ↓o_seq_scr, ↓o_enum_lst, ↓o_len_l, ↓o_len_t, ↓o_abs, ↓o_max2, ↓o_min2, ↓o_int_i, ↓o_int_b, ↓o_list_l, ↓o_list_s, ↓o_list_t, ↓o_sum_tl, ↓o_tru_b, ↓o_isi_int_i, ↓o_isi_int_non, ↓o_isi_bool_i, ↓o_isi_list_l, ↓o_gN, ↓o_gT, ↓o_gsNil, ↓o_gsCons, ↓o_cut_l, ↓o_cut_s, ↓wO_some, ↓wR_ok, ↓wR_of, ↓lpQ_nx, ↓lpQ_ct, wE_var, wE_c, wE_bin, wE_un, wA_nil, wA_cons, wE_app, wE_call, wE_tup, wE_lst, wE_if, wE_isi, wE_sl, wR_oNo, wR_oAt, ex_int, ex_bl, ex_lst, ex_par, wB_val, wB_tru, wB_not, wB_and, wB_or, wB_yes, wE_and, wE_or, wE_not, wE_chain, nxQ_nx, nxQ_rt, nxQ_ct, nxQ_bk, wS_nil, wS_seq, wS_bk, wS_ct, wS_exp, wS_asg, wS_ret, wS_if, wS_aug, wS_asgG, wS_par, wS_app, wS_setix, wS_augix, wS_for, wA_seq, wA_rng, wE_lc, o_add_ii, o_add_ll, o_addI_ii, o_subI_ii, o_mul_ii, o_mulI_ii, o_mul_li, o_mulL_li, o_fdiv_ii, o_mod_ii, o_pow_ii, o_neg_i, o_cmp_ii, o_eq_ii, o_ne_ii, o_is_nn, o_is_in, o_not_nn, o_not_in, o_ix_lst, o_ix_tup, o_ix_scr, o_at, o_at_neg, o_set, o_rng1, o_rng2, o_seq_lst, o_seq_tup, o_seq_scr, o_enum_lst, o_len_l, o_len_t, o_abs, o_max2, o_min2, o_int_i, o_int_b, o_list_l, o_list_s, o_list_t, o_sum_tl, o_tru_b, o_isi_int_i, o_isi_int_non, o_isi_bool_i, o_isi_list_l, o_gN, o_gT, o_gsNil, o_gsCons, o_cut_l, o_cut_s, wO_some, wR_ok, wR_of, lpQ_nx, lpQ_ct, tl_set, tl_len, tl_cons, tl_snoc, enum_tl, List.getElem?_cons_zero, List.getElem?_cons_succ, List.set_cons_zero, List.set_cons_succ, List.length_cons, List.length_nil, List.length_map, List.length_range, List.cons_append, List.nil_append, List.replicate, Nat.reduceAdd, Nat.reduceSub, Int.toNat_natCast, decide_eq_true_eq, Bool.not_eq_true, Bool.not_true, Bool.not_false, if_true, Bool.false_eq_true, if_false, true_and, and_true, Int.reduceNeg, Int.reduceLE, Int.reduceLT, Nat.reduceLeDiff, Nat.reduceLT, Int.zero_add, Nat.zero_add, Int.sub_zero, ite_true, ite_false, reduceIte, Bool.not_eq_eq_eq_not]
            exact ⟨hm _ _, hw, _, _, _, rfl, key _ (by simp [wt])⟩
        · rintro Γ' ⟨_, j1, j2, rfl, rfl⟩
          refine ⟨_, _, _, _, _, rfl, tl_congr fun m h1 h2 => ?_⟩
          rw [sm]
          congr 3
          simp only [eq_iff_iff]
          omega
    · rintro Γ' ⟨_, j1, j2, j3, j4, rfl, rfl⟩
      simp only [↓wE_var, ↓wE_c, ↓wE_bin, ↓wE_un, ↓wA_nil, ↓wA_cons, ↓wE_app, ↓wE_call, ↓wE_tup, ↓wE_lst, ↓wE_if, ↓wE_isi, ↓wE_sl, ↓wR_oNo, ↓wR_oAt, ↓ex_int, ↓ex_bl, ↓ex_lst, ↓ex_par, ↓wB_val, ↓wB_tru, ↓wB_not, ↓wB_and, ↓wB_or, ↓wB_yes, ↓wE_and, ↓wE_or, ↓wE_not, ↓wE_chain, ↓nxQ_nx, ↓nxQ_rt, ↓nxQ_ct, ↓nxQ_bk, ↓wS_nil, ↓wS_seq, ↓wS_bk, ↓wS_ct, ↓wS_exp, ↓wS_asg, ↓wS_ret, ↓wS_if, ↓wS_aug, ↓wS_asgG, ↓wS_par, ↓wS_app, ↓wS_setix, ↓wS_augix, ↓wS_for, ↓wA_seq, ↓wA_rng, ↓wE_lc, ↓o_add_ii, ↓o_add_ll, ↓o_addI_ii, ↓o_subI_ii, ↓o_mul_ii, ↓o_mulI_ii, ↓o_mul_li, ↓o_mulL_li, ↓o_fdiv_ii, ↓o_mod_ii, ↓o_pow_ii, ↓o_neg_i, ↓o_cmp_ii, ↓o_eq_ii, ↓o_ne_ii, ↓o_is_nn, ↓o_is_in, ↓o_not_nn, ↓o_not_in, ↓o_ix_lst, ↓o_ix_tup, ↓o_ix_scr, ↓o_at, ↓o_at_neg, ↓o_set, ↓o_rng1, ↓o_rng2, ↓o_seq_lst, ↓o_seq_tup, ↓o_seq_scr, ↓o_enum_lst, ↓o_len_l, ↓o_len_t, ↓o_abs, ↓o_max2, ↓o_min2, ↓o_int_i, ↓o_int_b, ↓o_list_l, ↓o_list_s, ↓o_list_t, ↓o_sum_tl, ↓o_tru_b, ↓o_isi_int_i, ↓o_isi_int_non, ↓o_isi_bool_i, ↓o_isi_list_l, ↓o_gN, ↓o_gT, ↓o_gsNil, ↓o_gsCons, ↓o_cut_l, ↓o_cut_s, ↓wO_some, ↓wR_ok, ↓wR_of, ↓lpQ_nx, ↓lpQ_ct, wE_var, wE_c, wE_bin, wE_un, wA_nil, wA_cons, wE_app, wE_call, wE_tup, wE_lst, wE_if, wE_isi, wE_sl, wR_oNo, wR_oAt, ex_int, ex_bl, ex_lst, ex_par, wB_val, wB_tru, wB_not, wB_and, wB_or, wB_yes, wE_and, wE_or, wE_not, wE_chain, nxQ_nx, nxQ_rt, nxQ_ct, nxQ_bk, wS_nil, wS_seq, wS_bk, wS_ct, wS_exp, wS_asg, wS_ret, wS_if, wS_aug, wS_asgG, wS_par, wS_app, wS_setix, wS_augix, wS_for, wA_seq, wA_rng, wE_lc, o_add_ii, o_add_ll, o_addI_ii, o_subI_ii, o_mul_ii, o_mulI_ii, o_mul_li, o_mulL_li, o_fdiv_ii, o_mod_ii, o_pow_ii, o_neg_i, o_cmp_ii, o_eq_ii, o_ne_ii, o_is_nn, o_is_in, o_not_nn, o_not_in, o_ix_lst, o_ix_tup, o_ix_scr, o_at, o_at_neg, o_set, o_rng1, o_rng2, o_seq_lst, o_seq_tup, o_seq_scr, o_enum_lst, o_len_l, o_len_t, o_abs, o_max2, o_min2, o_int_i, o_int_b, o_list_l, o_list_s, o_list_t, o_sum_tl, o_tru_b, o_isi_int_i, o_isi_int_non, o_isi_bool_i, o_isi_list_l, o_gN, o_gT, o_gsNil, o_gsCons, o_cut_l, o_cut_s, wO_some, wR_ok, wR_of, lpQ_nx, lpQ_ct, tl_set, tl_len, tl_cons, tl_snoc, enum_tl, List.getElem?_cons_zero, List.getElem?_cons_succ, List.set_cons_zero, List.set_cons_succ, List.length_cons, List.length_nil, List.length_map, List.length_range, List.cons_append, List.nil_append, List.replicate, Nat.reduceAdd, Nat.reduceSub, Int.toNat_natCast, decide_eq_true_eq, Bool.not_eq_true, Bool.not_true, Bool.not_false, if_true, Bool.false_eq_true, if_false, true_and, and_true, Int.reduceNeg, Int.reduceLE, Int.reduceLT, Nat.reduceLeDiff, Nat.reduceLT, Int.zero_add, Nat.zero_add, Int.sub_zero, ite_true, ite_false, reduceIte, Bool.not_eq_eq_eq_not]
      refine congrArg (fun z => Fl.rt (.lst z)) (tl_congr fun m h1 h2 => ?_)
      rw [cv, sm_cut (by omega)]
end L2.DL.K20
set_option Elab.async false
set_option linter.all false
set_option maxRecDepth 100000
set_option autoImplicit false
namespace L2.DL.K20
open PySem PySem.Spec PyProof.Rows L2 L2.DL L2.SR
def u1 (i : Int) : Int := if i = 0 then 1 else 0
theorem unit_ok (n : Nat) (hn : 1 ≤ n) (hn2 : n ≤ 60) : m_unit [.int n] = .ok (il n u1) := by
  refine m_ok rfl ?_
  unfold b_unit
  simp only [wE_var, wE_c, wE_bin, wE_un, wA_nil, wA_cons, wE_app, wE_call, wE_tup, wE_lst, wE_if, wE_isi, wE_sl, wR_oNo, wR_oAt, ex_int, ex_bl, ex_lst, ex_par, wB_val, wB_tru, wB_not, wB_and, wB_or, wB_yes, wE_and, wE_or, wE_not, wE_chain, nxQ_nx, nxQ_rt, nxQ_ct, nxQ_bk, wS_nil, wS_seq, wS_bk, wS_ct, wS_exp, wS_asg, wS_ret, wS_if, wS_aug, wS_asgG, wS_par, wS_app, wS_setix, wS_augix, wS_for, wA_seq, wA_rng, wE_lc, o_add_ii, o_add_ll, o_addI_ii, o_subI_ii, o_mul_ii, o_mulI_ii, o_mul_li, o_mulL_li, o_fdiv_ii, o_mod_ii, o_pow_ii, o_neg_i, o_cmp_ii, o_eq_ii, o_ne_ii, o_is_nn, o_is_in, o_not_nn, o_not_in, o_ix_lst, o_ix_tup, o_ix_scr, o_at, o_at_neg, o_set, tl_set, o_rng1, o_rng2, o_seq_lst, o_seq_tup, o_seq_scr, o_enum_lst, o_len_l, o_len_t, o_abs, o_max2, o_min2, o_int_i, o_int_b, o_list_l, o_list_s, o_list_t, o_sum_tl, o_tru_b, o_isi_int_i, o_isi_int_non, o_isi_bool_i, o_isi_list_l, o_gN, o_gT, o_gsNil, o_gsCons, o_cut_l, o_cut_s, tl_len, tl_cons, tl_snoc, enum_tl, wO_some, wR_ok, wR_of, lpQ_nx, lpQ_ct, List.getElem?_cons_zero, List.getElem?_cons_succ, List.set_cons_zero, List.set_cons_succ, List.length_cons, List.length_nil, List.length_map, List.length_range, List.cons_append, List.nil_append, List.replicate, Nat.reduceAdd, Nat.reduceSub, Int.toNat_natCast, decide_eq_true_eq, Bool.not_eq_true, Bool.not_true, Bool.not_false, if_true, Bool.false_eq_true, if_false, true_and, and_true, Int.reduceNeg, Int.reduceLE, Int.reduceLT, Nat.reduceLeDiff, Nat.reduceLT, Int.zero_add, Nat.zero_add, Int.sub_zero, ite_true, ite_false, reduceIte, Bool.not_eq_eq_eq_not]
  refine ⟨by omega, by omega, ?_⟩
  rw [show ((n : Int) - 1).toNat + 1 = n by omega]
  refine congrArg (fun z => Fl.rt (.lst z)) (tl_congr fun i h0 h1 => ?_)
  unfold u1
  split <;> rfl
def pwN (l : Bool) (f : Int → Int) : Nat → Int → Int
  | 0 => u1
  | k + 1 => cv l (pwN l f k) f
def pw (l : Bool) (f : Int → Int) (i : Int) : Int → Int := pwN l f i.toNat
theorem pow_ok (n m : Nat) (l : Bool) (f : Int → Int) (hn : 1 ≤ n) (hn2 : n ≤ 60) (hm : m ≤ 1000) (hs : small f) : m_powers [il n f, .int m, .bl l] = .ok (.lst (tl (m + 1) fun i => il n (pw l f i))) := by
  refine m_ok rfl ?_
  unfold b_powers
  simp only [wE_var, wE_c, wE_bin, wE_un, wA_nil, wA_cons, wE_app, wE_call, wE_tup, wE_lst, wE_if, wE_isi, wE_sl, wR_oNo, wR_oAt, ex_int, ex_bl, ex_lst, ex_par, wB_val, wB_tru, wB_not, wB_and, wB_or, wB_yes, wE_and, wE_or, wE_not, wE_chain, nxQ_nx, nxQ_rt, nxQ_ct, nxQ_bk, wS_nil, wS_seq, wS_bk, wS_ct, wS_exp, wS_asg, wS_ret, wS_if, wS_aug, wS_asgG, wS_par, wS_app, wS_setix, wS_augix, wS_for, wA_seq, wA_rng, wE_lc, o_add_ii, o_add_ll, o_addI_ii, o_subI_ii, o_mul_ii, o_mulI_ii, o_mul_li, o_mulL_li, o_fdiv_ii, o_mod_ii, o_pow_ii, o_neg_i, o_cmp_ii, o_eq_ii, o_ne_ii, o_is_nn, o_is_in, o_not_nn, o_not_in, o_ix_lst, o_ix_tup, o_ix_scr, o_at, o_at_neg, o_set, tl_set, o_rng1, o_rng2, o_seq_lst, o_seq_tup, o_seq_scr, o_enum_lst, o_len_l, o_len_t, o_abs, o_max2, o_min2, o_int_i, o_int_b, o_list_l, o_list_s, o_list_t, o_sum_tl, o_tru_b, o_isi_int_i, o_isi_int_non, o_isi_bool_i, o_isi_list_l, o_gN, o_gT, o_gsNil, o_gsCons, o_cut_l, o_cut_s, tl_len, tl_cons, tl_snoc, enum_tl, wO_some, wR_ok, wR_of, lpQ_nx, lpQ_ct, List.getElem?_cons_zero, List.getElem?_cons_succ, List.set_cons_zero, List.set_cons_succ, List.length_cons, List.length_nil, List.length_map, List.length_range, List.cons_append, List.nil_append, List.replicate, Nat.reduceAdd, Nat.reduceSub, Int.toNat_natCast, decide_eq_true_eq, Bool.not_eq_true, Bool.not_true, Bool.not_false, if_true, Bool.false_eq_true, if_false, true_and, and_true, Int.reduceNeg, Int.reduceLE, Int.reduceLT, Nat.reduceLeDiff, Nat.reduceLT, Int.zero_add, Nat.zero_add, Int.sub_zero, ite_true, ite_false, reduceIte, Bool.not_eq_eq_eq_not, unit_ok n hn hn2]
  refine ⟨by omega, wF_rng (fun i Γ => ∃ L j1, Γ = [il n f, .int m, .bl l, .lst L, j1] ∧ L = tl (i + 1) fun i => il n (pw l f i)) ⟨_, _, rfl, rfl⟩ ?_ ?_⟩
  · rintro i Γ hi ⟨_, j1, rfl, rfl⟩
    simp (disch := omega) only [wE_var, wE_c, wE_bin, wE_un, wA_nil, wA_cons, wE_app, wE_call, wE_tup, wE_lst, wE_if, wE_isi, wE_sl, wR_oNo, wR_oAt, ex_int, ex_bl, ex_lst, ex_par, wB_val, wB_tru, wB_not, wB_and, wB_or, wB_yes, wE_and, wE_or, wE_not, wE_chain, nxQ_nx, nxQ_rt, nxQ_ct, nxQ_bk, wS_nil, wS_seq, wS_bk, wS_ct, wS_exp, wS_asg, wS_ret, wS_if, wS_aug, wS_asgG, wS_par, wS_app, wS_setix, wS_augix, wS_for, wA_seq, wA_rng, wE_lc, o_add_ii, o_add_ll, o_addI_ii, o_subI_ii, o_mul_ii, o_mulI_ii, o_mul_li, o_mulL_li, o_fdiv_ii, o_mod_ii, o_pow_ii, o_neg_i, o_cmp_ii, o_eq_ii, o_ne_ii, o_is_nn, o_is_in, o_not_nn, o_not_in, o_ix_lst, o_ix_tup, o_ix_scr, o_at, o_at_neg, o_set, tl_set, o_rng1, o_rng2, o_seq_lst, o_seq_tup, o_seq_scr, o_enum_lst, o_len_l, o_len_t, o_abs, o_max2, o_min2, o_int_i, o_int_b, o_list_l, o_list_s, o_list_t, o_sum_tl, o_tru_b, o_isi_int_i, o_isi_int_non, o_isi_bool_i, o_isi_list_l, o_gN, o_gT, o_gsNil, o_gsCons, o_cut_l, o_cut_s, tl_len, tl_cons, tl_snoc, enum_tl, wO_some, wR_ok, wR_of, lpQ_nx, lpQ_ct, List.getElem?_cons_zero, List.getElem?_cons_succ, List.set_cons_zero, List.set_cons_succ, List.length_cons, List.length_nil, List.length_map, List.length_range, List.cons_append, List.nil_append, List.replicate, Nat.reduceAdd, Nat.reduceSub, Int.toNat_natCast, decide_eq_true_eq, Bool.not_eq_true, Bool.not_true, Bool.not_false, if_true, Bool.false_eq_true, if_false, true_and, and_true, Int.reduceNeg, Int.reduceLE, Int.reduceLT, Nat.reduceLeDiff, Nat.reduceLT, Int.zero_add, Nat.zero_add, Int.sub_zero, ite_true, ite_false, reduceIte, Bool.not_eq_eq_eq_not]
    rw [prod_ok n l _ f hn hn2 (.inr hs), wR_ok]
    refine ⟨by omega, _, _, rfl, tl_congr fun k h0 h1 => ?_⟩
    by_cases hk : k = ((i + 1 : Nat) : Int)
    · subst hk
      rw [if_pos rfl]
      unfold pw
      rw [show (((i + 1 : Nat) : Int) + -1).toNat = i by omega, show ((i + 1 : Nat) : Int).toNat = i + 1 by omega, pwN]
    · rw [if_neg hk]
  · rintro Γ' ⟨_, j1, rfl, rfl⟩
    simp only [wE_var, wE_c, wE_bin, wE_un, wA_nil, wA_cons, wE_app, wE_call, wE_tup, wE_lst, wE_if, wE_isi, wE_sl, wR_oNo, wR_oAt, ex_int, ex_bl, ex_lst, ex_par, wB_val, wB_tru, wB_not, wB_and, wB_or, wB_yes, wE_and, wE_or, wE_not, wE_chain, nxQ_nx, nxQ_rt, nxQ_ct, nxQ_bk, wS_nil, wS_seq, wS_bk, wS_ct, wS_exp, wS_asg, wS_ret, wS_if, wS_aug, wS_asgG, wS_par, wS_app, wS_setix, wS_augix, wS_for, wA_seq, wA_rng, wE_lc, o_add_ii, o_add_ll, o_addI_ii, o_subI_ii, o_mul_ii, o_mulI_ii, o_mul_li, o_mulL_li, o_fdiv_ii, o_mod_ii, o_pow_ii, o_neg_i, o_cmp_ii, o_eq_ii, o_ne_ii, o_is_nn, o_is_in, o_not_nn, o_not_in, o_ix_lst, o_ix_tup, o_ix_scr, o_at, o_at_neg, o_set, tl_set, o_rng1, o_rng2, o_seq_lst, o_seq_tup, o_seq_scr, o_enum_lst, o_len_l, o_len_t, o_abs, o_max2, o_min2, o_int_i, o_int_b, o_list_l, o_list_s, o_list_t, o_sum_tl, o_tru_b, o_isi_int_i, o_isi_int_non, o_isi_bool_i, o_isi_list_l, o_gN, o_gT, o_gsNil, o_gsCons, o_cut_l, o_cut_s, tl_len, tl_cons, tl_snoc, enum_tl, wO_some, wR_ok, wR_of, lpQ_nx, lpQ_ct, List.getElem?_cons_zero, List.getElem?_cons_succ, List.set_cons_zero, List.set_cons_succ, List.length_cons, List.length_nil, List.length_map, List.length_range, List.cons_append, List.nil_append, List.replicate, Nat.reduceAdd, Nat.reduceSub, Int.toNat_natCast, decide_eq_true_eq, Bool.not_eq_true, Bool.not_true, Bool.not_false, if_true, Bool.false_eq_true, if_false, true_and, and_true, Int.reduceNeg, Int.reduceLE, Int.reduceLT, Nat.reduceLeDiff, Nat.reduceLT, Int.zero_add, Nat.zero_add, Int.sub_zero, ite_true, ite_false, reduceIte, Bool.not_eq_eq_eq_not]
def st (t : Int) (f : Int → Int) (i : Int) : Int := if i % t = 0 then f (i / t) else 0
theorem st_ok (n : Nat) (t : Int) (f : Int → Int) (hn : 1 ≤ n) (hn2 : n ≤ 60) (ht : 1 ≤ t) (ht2 : t ≤ 1000) : m_stretched [il n f, .int t] = .ok (il n (st t f)) := by
  refine m_ok rfl ?_
  unfold b_stretched
  simp only [wE_var, wE_c, wE_bin, wE_un, wA_nil, wA_cons, wE_app, wE_call, wE_tup, wE_lst, wE_if, wE_isi, wE_sl, wR_oNo, wR_oAt, ex_int, ex_bl, ex_lst, ex_par, wB_val, wB_tru, wB_not, wB_and, wB_or, wB_yes, wE_and, wE_or, wE_not, wE_chain, nxQ_nx, nxQ_rt, nxQ_ct, nxQ_bk, wS_nil, wS_seq, wS_bk, wS_ct, wS_exp, wS_asg, wS_ret, wS_if, wS_aug, wS_asgG, wS_par, wS_app, wS_setix, wS_augix, wS_for, wA_seq, wA_rng, wE_lc, o_add_ii, o_add_ll, o_addI_ii, o_subI_ii, o_mul_ii, o_mulI_ii, o_mul_li, o_mulL_li, o_fdiv_ii, o_mod_ii, o_pow_ii, o_neg_i, o_cmp_ii, o_eq_ii, o_ne_ii, o_is_nn, o_is_in, o_not_nn, o_not_in, o_ix_lst, o_ix_tup, o_ix_scr, o_at, o_at_neg, o_set, tl_set, o_rng1, o_rng2, o_seq_lst, o_seq_tup, o_seq_scr, o_enum_lst, o_len_l, o_len_t, o_abs, o_max2, o_min2, o_int_i, o_int_b, o_list_l, o_list_s, o_list_t, o_sum_tl, o_tru_b, o_isi_int_i, o_isi_int_non, o_isi_bool_i, o_isi_list_l, o_gN, o_gT, o_gsNil, o_gsCons, o_cut_l, o_cut_s, tl_len, tl_cons, tl_snoc, enum_tl, wO_some, wR_ok, wR_of, lpQ_nx, lpQ_ct, List.getElem?_cons_zero, List.getElem?_cons_succ, List.set_cons_zero, List.set_cons_succ, List.length_cons, List.length_nil, List.length_map, List.length_range, List.cons_append, List.nil_append, List.replicate, Nat.reduceAdd, Nat.reduceSub, Int.toNat_natCast, decide_eq_true_eq, Bool.not_eq_true, Bool.not_true, Bool.not_false, if_true, Bool.false_eq_true, if_false, true_and, and_true, Int.reduceNeg, Int.reduceLE, Int.reduceLT, Nat.reduceLeDiff, Nat.reduceLT, Int.zero_add, Nat.zero_add, Int.sub_zero, ite_true, ite_false, reduceIte, Bool.not_eq_eq_eq_not]
  have hd : ((n : Int) - 1) / t < n := by
    have := Int.ediv_le_self t (show 0 ≤ (n : Int) - 1 by omega)
    omega
  have hd0 : 0 ≤ ((n : Int) - 1) / t := Int.ediv_nonneg (by omega) (by omega)
  refine ⟨by omega, by omega, by omega, wF_rng (fun i Γ => ∃ L j1, Γ = [il n f, .int t, .lst L, j1] ∧ L = tl n fun x => .int (if x % t = 0 ∧ x / t < i then f (x / t) else 0)) ⟨_, _, rfl, ?_⟩ ?_ ?_⟩
  · refine tl_congr fun x h0 h1 => ?_
    have : 0 ≤ x / t := Int.ediv_nonneg (by omega) (by omega)
    rw [if_neg (by omega)]
  · rintro i Γ hi ⟨_, j1, rfl, rfl⟩
    have hi2 : (i : Int) ≤ ((n : Int) - 1) / t := by omega
    have hit : (i : Int) * t ≤ (n : Int) - 1 := by
      have h1 := Int.mul_le_mul_of_nonneg_right hi2 (show 0 ≤ t by omega)
      have h2 := Int.ediv_mul_le ((n : Int) - 1) (show t ≠ 0 by omega)
      omega
    have hit0 : 0 ≤ (i : Int) * t := Int.mul_nonneg (by omega) (by omega)
    simp (disch := omega) only [wE_var, wE_c, wE_bin, wE_un, wA_nil, wA_cons, wE_app, wE_call, wE_tup, wE_lst, wE_if, wE_isi, wE_sl, wR_oNo, wR_oAt, ex_int, ex_bl, ex_lst, ex_par, wB_val, wB_tru, wB_not, wB_and, wB_or, wB_yes, wE_and, wE_or, wE_not, wE_chain, nxQ_nx, nxQ_rt, nxQ_ct, nxQ_bk, wS_nil, wS_seq, wS_bk, wS_ct, wS_exp, wS_asg, wS_ret, wS_if, wS_aug, wS_asgG, wS_par, wS_app, wS_setix, wS_augix, wS_for, wA_seq, wA_rng, wE_lc, o_add_ii, o_add_ll, o_addI_ii, o_subI_ii, o_mul_ii, o_mulI_ii, o_mul_li, o_mulL_li, o_fdiv_ii, o_mod_ii, o_pow_ii, o_neg_i, o_cmp_ii, o_eq_ii, o_ne_ii, o_is_nn, o_is_in, o_not_nn, o_not_in, o_ix_lst, o_ix_tup, o_ix_scr, o_at, o_at_neg, o_set, tl_set, o_rng1, o_rng2, o_seq_lst, o_seq_tup, o_seq_scr, o_enum_lst, o_len_l, o_len_t, o_abs, o_max2, o_min2, o_int_i, o_int_b, o_list_l, o_list_s, o_list_t, o_sum_tl, o_tru_b, o_isi_int_i, o_isi_int_non, o_isi_bool_i, o_isi_list_l, o_gN, o_gT, o_gsNil, o_gsCons, o_cut_l, o_cut_s, tl_len, tl_cons, tl_snoc, enum_tl, wO_some, wR_ok, wR_of, lpQ_nx, lpQ_ct, List.getElem?_cons_zero, List.getElem?_cons_succ, List.set_cons_zero, List.set_cons_succ, List.length_cons, List.length_nil, List.length_map, List.length_range, List.cons_append, List.nil_append, List.replicate, Nat.reduceAdd, Nat.reduceSub, Int.toNat_natCast, decide_eq_true_eq, Bool.not_eq_true, Bool.not_true, Bool.not_false, if_true, Bool.false_eq_true, if_false, true_and, and_true, Int.reduceNeg, Int.reduceLE, Int.reduceLT, Nat.reduceLeDiff, Nat.reduceLT, Int.zero_add, Nat.zero_add, Int.sub_zero, ite_true, ite_false, reduceIte, Bool.not_eq_eq_eq_not]
    refine ⟨.inl (by omega), _, _, rfl, tl_congr fun x h0 h1 => ?_⟩
    by_cases hx : x = (i : Int) * t
    · subst hx
      rw [if_pos rfl, if_pos ?_]
      · rw [Int.mul_ediv_cancel _ (by omega)]
      · rw [Int.mul_emod_left, Int.mul_ediv_cancel _ (by omega)]; omega
    · rw [if_neg hx]
      congr 2
      simp only [eq_iff_iff]
      constructor
      · rintro ⟨h2, h3⟩; exact ⟨h2, by omega⟩
      · rintro ⟨h2, h3⟩
        refine ⟨h2, ?_⟩
        have h4 := Int.mul_ediv_add_emod x t
        by_cases h5 : x / t = i
        · exfalso
          apply hx
          rw [← h5, Int.mul_comm]; omega
        · omega
  · rintro Γ' ⟨_, j1, rfl, rfl⟩
    simp only [wE_var, wE_c, wE_bin, wE_un, wA_nil, wA_cons, wE_app, wE_call, wE_tup, wE_lst, wE_if, wE_isi, wE_sl, wR_oNo, wR_oAt, ex_int, ex_bl, ex_lst, ex_par, wB_val, wB_tru, wB_not, wB_and, wB_or, wB_yes, wE_and, wE_or, wE_not, wE_chain, nxQ_nx, nxQ_rt, nxQ_ct, nxQ_bk, wS_nil, wS_seq, wS_bk, wS_ct, wS_exp, wS_asg, wS_ret, wS_if, wS_aug, wS_asgG, wS_par, wS_app, wS_setix, wS_augix, wS_for, wA_seq, wA_rng, wE_lc, o_add_ii, o_add_ll, o_addI_ii, o_subI_ii, o_mul_ii, o_mulI_ii, o_mul_li, o_mulL_li, o_fdiv_ii, o_mod_ii, o_pow_ii, o_neg_i, o_cmp_ii, o_eq_ii, o_ne_ii, o_is_nn, o_is_in, o_not_nn, o_not_in, o_ix_lst, o_ix_tup, o_ix_scr, o_at, o_at_neg, o_set, tl_set, o_rng1, o_rng2, o_seq_lst, o_seq_tup, o_seq_scr, o_enum_lst, o_len_l, o_len_t, o_abs, o_max2, o_min2, o_int_i, o_int_b, o_list_l, o_list_s, o_list_t, o_sum_tl, o_tru_b, o_isi_int_i, o_isi_int_non, o_isi_bool_i, o_isi_list_l, o_gN, o_gT, o_gsNil, o_gsCons, o_cut_l, o_cut_s, tl_len, tl_cons, tl_snoc, enum_tl, wO_some, wR_ok, wR_of, lpQ_nx, lpQ_ct, List.getElem?_cons_zero, List.getElem?_cons_succ, List.set_cons_zero, List.set_cons_succ, List.length_cons, List.length_nil, List.length_map, List.length_range, List.cons_append, List.nil_append, List.replicate, Nat.reduceAdd, Nat.reduceSub, Int.toNat_natCast, decide_eq_true_eq, Bool.not_eq_true, Bool.not_true, Bool.not_false, if_true, Bool.false_eq_true, if_false, true_and, and_true, Int.reduceNeg, Int.reduceLE, Int.reduceLT, Nat.reduceLeDiff, Nat.reduceLT, Int.zero_add, Nat.zero_add, Int.sub_zero, ite_true, ite_false, reduceIte, Bool.not_eq_eq_eq_not]
    refine congrArg (fun z => Fl.rt (.lst z)) (tl_congr fun x h0 h1 => ?_)
    unfold st
    have h2 : x / t ≤ ((n : Int) - 1) / t := Int.ediv_le_ediv (by omega) (by omega)
    congr 2
    simp only [eq_iff_iff]
    constructor
    · exact fun h => h.1
    · exact fun h => ⟨h, by omega⟩
/-- m! or m: what the members may be moved by -/
def fac : Nat → Int
  | 0 => 1
  | n + 1 => fac n * (n + 1)
def den (set : Bool) (i : Int) : Int := if set = true then fac i.toNat else i
def lab (set : Bool) (f : Int → Int) (i : Int) (x : Int) : Int := if i = 0 then pw true f i x else pw true f i x / den set i
def word (set : Bool) : Str := if set = true then "set" else "ring"
theorem fac_pos : ∀ n, 0 < fac n
  | 0 => by decide
  | n + 1 => Int.mul_pos (fac_pos n) (by omega)
theorem fac_le {n m : Nat} (h : n ≤ m) : fac n ≤ fac m := by
  induction m with
  | zero => rw [show n = 0 by omega]; exact Int.le_refl _
  | succ m ih =>
    by_cases e : n = m + 1
    · rw [e]; exact Int.le_refl _
    · have h1 := ih (by omega)
      have h2 := fac_pos m
      rw [fac]
      have : fac m * 1 ≤ fac m * (m + 1) := Int.mul_le_mul_of_nonneg_left (by omega) (by omega)
      omega
theorem lab_ok (n m : Nat) (set : Bool) (f : Int → Int) (hn : 1 ≤ n) (hn2 : n ≤ 60) (hm : m ≤ 11) (hs : small f) : m_labelled_members [il n f, .str (word set), .int m] = .ok (.lst (tl (m + 1) fun i => il n (lab set f i))) := by
  refine m_ok rfl ?_
  unfold b_labelled_members
  simp only [wE_var, wE_c, wE_bin, wE_un, wA_nil, wA_cons, wE_app, wE_call, wE_tup, wE_lst, wE_if, wE_isi, wE_sl, wR_oNo, wR_oAt, ex_int, ex_bl, ex_lst, ex_par, wB_val, wB_tru, wB_not, wB_and, wB_or, wB_yes, wE_and, wE_or, wE_not, wE_chain, nxQ_nx, nxQ_rt, nxQ_ct, nxQ_bk, wS_nil, wS_seq, wS_bk, wS_ct, wS_exp, wS_asg, wS_ret, wS_if, wS_aug, wS_asgG, wS_par, wS_app, wS_setix, wS_augix, wS_for, wA_seq, wA_rng, wE_lc, o_add_ii, o_add_ll, o_addI_ii, o_subI_ii, o_mul_ii, o_mulI_ii, o_mul_li, o_mulL_li, o_fdiv_ii, o_mod_ii, o_pow_ii, o_neg_i, o_cmp_ii, o_eq_ii, o_ne_ii, o_is_nn, o_is_in, o_not_nn, o_not_in, o_ix_lst, o_ix_tup, o_ix_scr, o_at, o_at_neg, o_set, tl_set, o_rng1, o_rng2, o_seq_lst, o_seq_tup, o_seq_scr, o_enum_lst, o_len_l, o_len_t, o_abs, o_max2, o_min2, o_int_i, o_int_b, o_list_l, o_list_s, o_list_t, o_sum_tl, o_tru_b, o_isi_int_i, o_isi_int_non, o_isi_bool_i, o_isi_list_l, o_gN, o_gT, o_gsNil, o_gsCons, o_cut_l, o_cut_s, tl_len, tl_cons, tl_snoc, enum_tl, wO_some, wR_ok, wR_of, lpQ_nx, lpQ_ct, List.getElem?_cons_zero, List.getElem?_cons_succ, List.set_cons_zero, List.set_cons_succ, List.length_cons, List.length_nil, List.length_map, List.length_range, List.cons_append, List.nil_append, List.replicate, Nat.reduceAdd, Nat.reduceSub, Int.toNat_natCast, decide_eq_true_eq, Bool.not_eq_true, Bool.not_true, Bool.not_false, if_true, Bool.false_eq_true, if_false, true_and, and_true, Int.reduceNeg, Int.reduceLE, Int.reduceLT, Nat.reduceLeDiff, Nat.reduceLT, Int.zero_add, Nat.zero_add, Int.sub_zero, ite_true, ite_false, reduceIte, Bool.not_eq_eq_eq_not, pow_ok n m true f hn hn2 (by omega) hs]
  refine ⟨by omega, wF_rng (fun i Γ => ∃ L x j1 j2, Γ = [il n f, .str (word set), .int m, .lst L, .int x, j1, j2] ∧ (L = tl (m + 1) fun k => il n (if k ≤ i then lab set f k else pw true f k)) ∧ x = if i = 0 then 1 else den set i) ⟨_, _, _, _, rfl, ?_, rfl⟩ ?_ ?_⟩
  · refine tl_congr fun k h0 h1 => ?_
    by_cases hk : k ≤ (0 : Nat)
    · rw [if_pos hk]
      refine congrArg D.lst (tl_congr fun x _ _ => ?_)
      unfold lab
      rw [if_pos (by omega)]
    · rw [if_neg hk]
  · rintro i Γ hi ⟨_, _, j1, j2, rfl, rfl, rfl⟩
    have e1 : (PyData.strOk (word set) && PyData.strOk "set") = true := by cases set <;> decide +kernel
    have e2 : (PyData.strOk (word set) && PyData.strOk "row") = true := by cases set <;> decide +kernel
    have e3 : (word set == ("set" : Str)) = set := by cases set <;> decide +kernel
    have e4 : (word set == ("row" : Str)) = false := by cases set <;> decide +kernel
    have hd : den set (1 + i) = if set = true then (if i = 0 then 1 else den set i) * (1 + i) else 1 + i := by
      cases set with
      | false => simp [den]
      | true =>
        simp only [den, if_true]
        rw [show (1 + (i : Int)).toNat = i + 1 by omega, fac]
        by_cases h0 : i = 0
        · subst h0; rfl
        · rw [if_neg h0, Int.toNat_natCast, Int.add_comm]
    have hpos : 0 < den set (1 + i) ∧ den set (1 + i) < 1073741824 := by
      cases set with
      | false => simp only [den]; simp; omega
      | true =>
        simp only [den, if_true]
        have h1 := fac_pos (1 + (i : Int)).toNat
        have h2 : fac (1 + (i : Int)).toNat ≤ fac 11 := fac_le (by omega)
        have h3 : fac 11 = 39916800 := rfl
        omega
    have key : ∀ r, r = tl n (fun x => D.int (pw true f (1 + i) x / den set (1 + i))) → (tl (m + 1) fun k => if k = 1 + (i : Int) then D.lst r else il n (if k ≤ i then lab set f k else pw true f k)) = tl (m + 1) fun k => il n (if k ≤ ((i + 1 : Nat) : Int) then lab set f k else pw true f k) := by
      rintro r rfl
      refine tl_congr fun k h0 h1 => ?_
      by_cases hk : k = 1 + (i : Int)
      · subst hk
        rw [if_pos rfl, if_pos (by omega)]
        refine congrArg D.lst (tl_congr fun x _ _ => ?_)
        unfold lab
        rw [if_neg (by omega)]
      · rw [if_neg hk]
        have e : (k ≤ (i : Int)) = (k ≤ ((i + 1 : Nat) : Int)) := by rw [eq_iff_iff]; omega
        simp only [e]
    rw [o_gN, wS_seq, wS_asg]
    refine wR_mono (Q := fun d => d = .int (den set (1 + i))) ?_ ?_
    · change wE _ _ _
      simp only [wE_var, wE_c, wE_bin, wE_un, wA_nil, wA_cons, wE_app, wE_call, wE_tup, wE_lst, wE_if, wE_isi, wE_sl, wR_oNo, wR_oAt, ex_int, ex_bl, ex_lst, ex_par, wB_val, wB_tru, wB_not, wB_and, wB_or, wB_yes, wE_and, wE_or, wE_not, wE_chain, nxQ_nx, nxQ_rt, nxQ_ct, nxQ_bk, wS_nil, wS_seq, wS_bk, wS_ct, wS_exp, wS_asg, wS_ret, wS_if, wS_aug, wS_asgG, wS_par, wS_app, wS_setix, wS_augix, wS_for, wA_seq, wA_rng, wE_lc, o_add_ii, o_add_ll, o_addI_ii, o_subI_ii, o_mul_ii, o_mulI_ii, o_mul_li, o_mulL_li, o_fdiv_ii, o_mod_ii, o_pow_ii, o_neg_i, o_cmp_ii, o_eq_ii, o_ne_ii, o_is_nn, o_is_in, o_not_nn, o_not_in, o_ix_lst, o_ix_tup, o_ix_scr, o_at, o_at_neg, o_set, tl_set, o_rng1, o_rng2, o_seq_lst, o_seq_tup, o_seq_scr, o_enum_lst, o_len_l, o_len_t, o_abs, o_max2, o_min2, o_int_i, o_int_b, o_list_l, o_list_s, o_list_t, o_sum_tl, o_tru_b, o_isi_int_i, o_isi_int_non, o_isi_bool_i, o_isi_list_l, o_gN, o_gT, o_gsNil, o_gsCons, o_cut_l, o_cut_s, tl_len, tl_cons, tl_snoc, enum_tl, wO_some, wR_ok, wR_of, lpQ_nx, lpQ_ct, List.getElem?_cons_zero, List.getElem?_cons_succ, List.set_cons_zero, List.set_cons_succ, List.length_cons, List.length_nil, List.length_map, List.length_range, List.cons_append, List.nil_append, List.replicate, Nat.reduceAdd, Nat.reduceSub, Int.toNat_natCast, decide_eq_true_eq, Bool.not_eq_true, Bool.not_true, Bool.not_false, if_true, Bool.false_eq_true, if_false, true_and, and_true, Int.reduceNeg, Int.reduceLE, Int.reduceLT, Nat.reduceLeDiff, Nat.reduceLT, Int.zero_add, Nat.zero_add, Int.sub_zero, ite_true, ite_false, reduceIte, Bool.not_eq_eq_eq_not, o_eq_ss, e1, e3]
      rw [hd]
      cases set with
      | false => simp only [wE_var, wE_c, wE_bin, wE_un, wA_nil, wA_cons, wE_app, wE_call, wE_tup, wE_lst, wE_if, wE_isi, wE_sl, wR_oNo, wR_oAt, ex_int, ex_bl, ex_lst, ex_par, wB_val, wB_tru, wB_not, wB_and, wB_or, wB_yes, wE_and, wE_or, wE_not, wE_chain, nxQ_nx, nxQ_rt, nxQ_ct, nxQ_bk, wS_nil, wS_seq, wS_bk, wS_ct, wS_exp, wS_asg, wS_ret, wS_if, wS_aug, wS_asgG, wS_par, wS_app, wS_setix, wS_augix, wS_for, wA_seq, wA_rng, wE_lc, o_add_ii, o_add_ll, o_addI_ii, o_subI_ii, o_mul_ii, o_mulI_ii, o_mul_li, o_mulL_li, o_fdiv_ii, o_mod_ii, o_pow_ii, o_neg_i, o_cmp_ii, o_eq_ii, o_ne_ii, o_is_nn, o_is_in, o_not_nn, o_not_in, o_ix_lst, o_ix_tup, o_ix_scr, o_at, o_at_neg, o_set, tl_set, o_rng1, o_rng2, o_seq_lst, o_seq_tup, o_seq_scr, o_enum_lst, o_len_l, o_len_t, o_abs, o_max2, o_min2, o_int_i, o_int_b, o_list_l, o_list_s, o_list_t, o_sum_tl, o_tru_b, o_isi_int_i, o_isi_int_non, o_isi_bool_i, o_isi_list_l, o_gN, o_gT, o_gsNil, o_gsCons, o_cut_l, o_cut_s, tl_len, tl_cons, tl_snoc, enum_tl, wO_some, wR_ok, wR_of, lpQ_nx, lpQ_ct, List.getElem?_cons_zero, List.getElem?_cons_succ, List.set_cons_zero, List.set_cons_succ, List.length_cons, List.length_nil, List.length_map, List.length_range, List.cons_append, List.nil_append, List.replicate, Nat.reduceAdd, Nat.reduceSub, Int.toNat_natCast, decide_eq_true_eq, Bool.not_eq_true, Bool.not_true, Bool.not_false, if_true, Bool.false_eq_true, if_false, true_and, and_true, Int.reduceNeg, Int.reduceLE, Int.reduceLT, Nat.reduceLeDiff, Nat.reduceLT, Int.zero_add, Nat.zero_add, Int.sub_zero, ite_true, ite_false, reduceIte, Bool.not_eq_eq_eq_not]
      | true => simp only [wE_var, wE_c, wE_bin, wE_un, wA_nil, wA_cons, wE_app, wE_call, wE_tup, wE_lst, wE_if, wE_isi, wE_sl, wR_oNo, wR_oAt, ex_int, ex_bl, ex_lst, ex_par, wB_val, wB_tru, wB_not, wB_and, wB_or, wB_yes, wE_and, wE_or, wE_not, wE_chain, nxQ_nx, nxQ_rt, nxQ_ct, nxQ_bk, wS_nil, wS_seq, wS_bk, wS_ct, wS_exp, wS_asg, wS_ret, wS_if, wS_aug, wS_asgG, wS_par, wS_app, wS_setix, wS_augix, wS_for, wA_seq, wA_rng, wE_lc, o_add_ii, o_add_ll, o_addI_ii, o_subI_ii, o_mul_ii, o_mulI_ii, o_mul_li, o_mulL_li, o_fdiv_ii, o_mod_ii, o_pow_ii, o_neg_i, o_cmp_ii, o_eq_ii, o_ne_ii, o_is_nn, o_is_in, o_not_nn, o_not_in, o_ix_lst, o_ix_tup, o_ix_scr, o_at, o_at_neg, o_set, tl_set, o_rng1, o_rng2, o_seq_lst, o_seq_tup, o_seq_scr, o_enum_lst, o_len_l, o_len_t, o_abs, o_max2, o_min2, o_int_i, o_int_b, o_list_l, o_list_s, o_list_t, o_sum_tl, o_tru_b, o_isi_int_i, o_isi_int_non, o_isi_bool_i, o_isi_list_l, o_gN, o_gT, o_gsNil, o_gsCons, o_cut_l, o_cut_s, tl_len, tl_cons, tl_snoc, enum_tl, wO_some, wR_ok, wR_of, lpQ_nx, lpQ_ct, List.getElem?_cons_zero, List.getElem?_cons_succ, List.set_cons_zero, List.set_cons_succ, List.length_cons, List.length_nil, List.length_map, List.length_range, List.cons_append, List.nil_append, List.replicate, Nat.reduceAdd, Nat.reduceSub, Int.toNat_natCast, decide_eq_true_eq, Bool.not_eq_true, Bool.not_true, Bool.not_false, if_true, Bool.false_eq_true, if_false, true_and, and_true, Int.reduceNeg, Int.reduceLE, Int.reduceLT, Nat.reduceLeDiff, Nat.reduceLT, Int.zero_add, Nat.zero_add, Int.sub_zero, ite_true, ite_false, reduceIte, Bool.not_eq_eq_eq_not]; exact .inr (by omega)
    · rintro d rfl
      simp (disch := omega) only [wE_var, wE_c, wE_bin, wE_un, wA_nil, wA_cons, wE_app, wE_call, wE_tup, wE_lst, wE_if, wE_isi, wE_sl, wR_oNo, wR_oAt, ex_int, ex_bl, ex_lst, ex_par, wB_val, wB_tru, wB_not, wB_and, wB_or, wB_yes, wE_and, wE_or, wE_not, wE_chain, nxQ_nx, nxQ_rt, nxQ_ct, nxQ_bk, wS_nil, wS_seq, wS_bk, wS_ct, wS_exp, wS_asg, wS_ret, wS_if, wS_aug, wS_asgG, wS_par, wS_app, wS_setix, wS_augix, wS_for, wA_seq, wA_rng, wE_lc, o_add_ii, o_add_ll, o_addI_ii, o_subI_ii, o_mul_ii, o_mulI_ii, o_mul_li, o_mulL_li, o_fdiv_ii, o_mod_ii, o_pow_ii, o_neg_i, o_cmp_ii, o_eq_ii, o_ne_ii, o_is_nn, o_is_in, o_not_nn, o_not_in, o_ix_lst, o_ix_tup, o_ix_scr, o_at, o_at_neg, o_set, tl_set, o_rng1, o_rng2, o_seq_lst, o_seq_tup, o_seq_scr, o_enum_lst, o_len_l, o_len_t, o_abs, o_max2, o_min2, o_int_i, o_int_b, o_list_l, o_list_s, o_list_t, o_sum_tl, o_tru_b, o_isi_int_i, o_isi_int_non, o_isi_bool_i, o_isi_list_l, o_gN, o_gT, o_gsNil, o_gsCons, o_cut_l, o_cut_s, tl_len, tl_cons, tl_snoc, enum_tl, wO_some, wR_ok, wR_of, lpQ_nx, lpQ_ct, List.getElem?_cons_zero, List.getElem?_cons_succ, List.set_cons_zero, List.set_cons_succ, List.length_cons, List.length_nil, List.length_map, List.length_range, List.cons_append, List.nil_append, List.replicate, Nat.reduceAdd, Nat.reduceSub, Int.toNat_natCast, decide_eq_true_eq, Bool.not_eq_true, Bool.not_true, Bool.not_false, if_true, Bool.false_eq_true, if_false, true_and, and_true, Int.reduceNeg, Int.reduceLE, Int.reduceLT, Nat.reduceLeDiff, Nat.reduceLT, Int.zero_add, Nat.zero_add, Int.sub_zero, ite_true, ite_false, reduceIte, Bool.not_eq_eq_eq_not, o_ne_ss, e2, e4]
      refine ⟨by omega, lc_tl2 (fun x => .int (pw true f (1 + i) x / den set (1 + i))) ?_ ?_⟩
      · intro x hx
        simp only [wE_var, wE_c, wE_bin, wE_un, wA_nil, wA_cons, wE_app, wE_call, wE_tup, wE_lst, wE_if, wE_isi, wE_sl, wR_oNo, wR_oAt, ex_int, ex_bl, ex_lst, ex_par, wB_val, wB_tru, wB_not, wB_and, wB_or, wB_yes, wE_and, wE_or, wE_not, wE_chain, nxQ_nx, nxQ_rt, nxQ_ct, nxQ_bk, wS_nil, wS_seq, wS_bk, wS_ct, wS_exp, wS_asg, wS_ret, wS_if, wS_aug, wS_asgG, wS_par, wS_app, wS_setix, wS_augix, wS_for, wA_seq, wA_rng, wE_lc, o_add_ii, o_add_ll, o_addI_ii, o_subI_ii, o_mul_ii, o_mulI_ii, o_mul_li, o_mulL_li, o_fdiv_ii, o_mod_ii, o_pow_ii, o_neg_i, o_cmp_ii, o_eq_ii, o_ne_ii, o_is_nn, o_is_in, o_not_nn, o_not_in, o_ix_lst, o_ix_tup, o_ix_scr, o_at, o_at_neg, o_set, tl_set, o_rng1, o_rng2, o_seq_lst, o_seq_tup, o_seq_scr, o_enum_lst, o_len_l, o_len_t, o_abs, o_max2, o_min2, o_int_i, o_int_b, o_list_l, o_list_s, o_list_t, o_sum_tl, o_tru_b, o_isi_int_i, o_isi_int_non, o_isi_bool_i, o_isi_list_l, o_gN, o_gT, o_gsNil, o_gsCons, o_cut_l, o_cut_s, tl_len, tl_cons, tl_snoc, enum_tl, wO_some, wR_ok, wR_of, lpQ_nx, lpQ_ct, List.getElem?_cons_zero, List.getElem?_cons_succ, List.set_cons_zero, List.set_cons_succ, List.length_cons, List.length_nil, List.length_map, List.length_range, List.cons_append, List.nil_append, List.replicate, Nat.reduceAdd, Nat.reduceSub, Int.toNat_natCast, decide_eq_true_eq, Bool.not_eq_true, Bool.not_true, Bool.not_false, if_true, Bool.false_eq_true, if_false, true_and, and_true, Int.reduceNeg, Int.reduceLE, Int.reduceLT, Nat.reduceLeDiff, Nat.reduceLT, Int.zero_add, Nat.zero_add, Int.sub_zero, ite_true, ite_false, reduceIte, Bool.not_eq_eq_eq_not]
        rw [if_neg (by omega)]
        exact ⟨hpos, rfl⟩
      · refine ⟨_, _, _, _, rfl, key _ rfl, ?_⟩
        rw [if_neg (by omega)]
        congr 1
        omega
  · rintro Γ' ⟨_, _, j1, j2, rfl, rfl, rfl⟩
    simp only [wE_var, wE_c, wE_bin, wE_un, wA_nil, wA_cons, wE_app, wE_call, wE_tup, wE_lst, wE_if, wE_isi, wE_sl, wR_oNo, wR_oAt, ex_int, ex_bl, ex_lst, ex_par, wB_val, wB_tru, wB_not, wB_and, wB_or, wB_yes, wE_and, wE_or, wE_not, wE_chain, nxQ_nx, nxQ_rt, nxQ_ct, nxQ_bk, wS_nil, wS_seq, wS_bk, wS_ct, wS_exp, wS_asg, wS_ret, wS_if, wS_aug, wS_asgG, wS_par, wS_app, wS_setix, wS_augix, wS_for, wA_seq, wA_rng, wE_lc, o_add_ii, o_add_ll, o_addI_ii, o_subI_ii, o_mul_ii, o_mulI_ii, o_mul_li, o_mulL_li, o_fdiv_ii, o_mod_ii, o_pow_ii, o_neg_i, o_cmp_ii, o_eq_ii, o_ne_ii, o_is_nn, o_is_in, o_not_nn, o_not_in, o_ix_lst, o_ix_tup, o_ix_scr, o_at, o_at_neg, o_set, tl_set, o_rng1, o_rng2, o_seq_lst, o_seq_tup, o_seq_scr, o_enum_lst, o_len_l, o_len_t, o_abs, o_max2, o_min2, o_int_i, o_int_b, o_list_l, o_list_s, o_list_t, o_sum_tl, o_tru_b, o_isi_int_i, o_isi_int_non, o_isi_bool_i, o_isi_list_l, o_gN, o_gT, o_gsNil, o_gsCons, o_cut_l, o_cut_s, tl_len, tl_cons, tl_snoc, enum_tl, wO_some, wR_ok, wR_of, lpQ_nx, lpQ_ct, List.getElem?_cons_zero, List.getElem?_cons_succ, List.set_cons_zero, List.set_cons_succ, List.length_cons, List.length_nil, List.length_map, List.length_range, List.cons_append, List.nil_append, List.replicate, Nat.reduceAdd, Nat.reduceSub, Int.toNat_natCast, decide_eq_true_eq, Bool.not_eq_true, Bool.not_true, Bool.not_false, if_true, Bool.false_eq_true, if_false, true_and, and_true, Int.reduceNeg, Int.reduceLE, Int.reduceLT, Nat.reduceLeDiff, Nat.reduceLT, Int.zero_add, Nat.zero_add, Int.sub_zero, ite_true, ite_false, reduceIte, Bool.not_eq_eq_eq_not]
    refine congrArg (fun z => Fl.rt (.lst z)) (tl_congr fun k h0 h1 => ?_)
    rw [if_pos (by omega)]
/-- Σ over t from 1 to i -/
def s1 (i : Nat) (h : Int → Int) : Int := sm i fun t => h (1 + t)
theorem prod_ok' (n : Nat) (f g : Int → Int) (hn : 1 ≤ n) (hn2 : n ≤ 60) (hs : small f) : m_product [il n f, il n g, .bl false] = .ok (il n (cv false f g)) := prod_ok n false f g hn hn2 (.inl hs)
theorem st_small {t : Int} {f : Int → Int} (h : small f) : small (st t f) := by
  intro i
  unfold st
  split
  · exact h _
  · omega
theorem ms_ok (n m : Nat) (f : Int → Int) (H : Int → Int → Int) (hn : 1 ≤ n) (hn2 : n ≤ 60) (hm : m ≤ 11) (hs : small f) (h0 : ∀ x : Int, 0 ≤ x → x < n → H 0 x = u1 x)
    (hH : ∀ i : Nat, 1 ≤ i → i ≤ m → ∀ x : Int, 0 ≤ x → x < n → s1 i (fun t => cv false (st t f) (H (i - t)) x) = H i x * i) : m_multisets [il n f, .int m] = .ok (.lst (tl (m + 1) fun i => il n (H i))) := by
  refine m_ok rfl ?_
  unfold b_multisets
  simp only [wE_var, wE_c, wE_bin, wE_un, wA_nil, wA_cons, wE_app, wE_call, wE_tup, wE_lst, wE_if, wE_isi, wE_sl, wR_oNo, wR_oAt, ex_int, ex_bl, ex_lst, ex_par, wB_val, wB_tru, wB_not, wB_and, wB_or, wB_yes, wE_and, wE_or, wE_not, wE_chain, nxQ_nx, nxQ_rt, nxQ_ct, nxQ_bk, wS_nil, wS_seq, wS_bk, wS_ct, wS_exp, wS_asg, wS_ret, wS_if, wS_aug, wS_asgG, wS_par, wS_app, wS_setix, wS_augix, wS_for, wA_seq, wA_rng, wE_lc, o_add_ii, o_add_ll, o_addI_ii, o_subI_ii, o_mul_ii, o_mulI_ii, o_mul_li, o_mulL_li, o_fdiv_ii, o_mod_ii, o_pow_ii, o_neg_i, o_cmp_ii, o_eq_ii, o_ne_ii, o_is_nn, o_is_in, o_not_nn, o_not_in, o_ix_lst, o_ix_tup, o_ix_scr, o_at, o_at_neg, o_set, tl_set, o_rng1, o_rng2, o_seq_lst, o_seq_tup, o_seq_scr, o_enum_lst, o_len_l, o_len_t, o_abs, o_max2, o_min2, o_int_i, o_int_b, o_list_l, o_list_s, o_list_t, o_sum_tl, o_tru_b, o_isi_int_i, o_isi_int_non, o_isi_bool_i, o_isi_list_l, o_gN, o_gT, o_gsNil, o_gsCons, o_cut_l, o_cut_s, tl_len, tl_cons, tl_snoc, enum_tl, wO_some, wR_ok, wR_of, lpQ_nx, lpQ_ct, List.getElem?_cons_zero, List.getElem?_cons_succ, List.set_cons_zero, List.set_cons_succ, List.length_cons, List.length_nil, List.length_map, List.length_range, List.cons_append, List.nil_append, List.replicate, Nat.reduceAdd, Nat.reduceSub, Int.toNat_natCast, decide_eq_true_eq, Bool.not_eq_true, Bool.not_true, Bool.not_false, if_true, Bool.false_eq_true, if_false, true_and, and_true, Int.reduceNeg, Int.reduceLE, Int.reduceLT, Nat.reduceLeDiff, Nat.reduceLT, Int.zero_add, Nat.zero_add, Int.sub_zero, ite_true, ite_false, reduceIte, Bool.not_eq_eq_eq_not, unit_ok n hn hn2]
  refine ⟨by omega, wF_rng (fun i Γ => ∃ L j1 j2 j3 j4 j5 j6, Γ = [il n f, .int m, .lst L, j1, j2, j3, j4, j5, j6] ∧ L = tl (i + 1) fun k => il n (H k)) ⟨_, _, _, _, _, _, _, rfl, ?_⟩ ?_ ?_⟩
  · refine congrArg (fun z => [D.lst z]) (tl_congr fun x hx0 hx1 => ?_)
    exact congrArg D.int (h0 x hx0 hx1).symm
  · rintro i Γ hi ⟨_, j1, j2, j3, j4, j5, j6, rfl, rfl⟩
    simp (disch := omega) only [wE_var, wE_c, wE_bin, wE_un, wA_nil, wA_cons, wE_app, wE_call, wE_tup, wE_lst, wE_if, wE_isi, wE_sl, wR_oNo, wR_oAt, ex_int, ex_bl, ex_lst, ex_par, wB_val, wB_tru, wB_not, wB_and, wB_or, wB_yes, wE_and, wE_or, wE_not, wE_chain, nxQ_nx, nxQ_rt, nxQ_ct, nxQ_bk, wS_nil, wS_seq, wS_bk, wS_ct, wS_exp, wS_asg, wS_ret, wS_if, wS_aug, wS_asgG, wS_par, wS_app, wS_setix, wS_augix, wS_for, wA_seq, wA_rng, wE_lc, o_add_ii, o_add_ll, o_addI_ii, o_subI_ii, o_mul_ii, o_mulI_ii, o_mul_li, o_mulL_li, o_fdiv_ii, o_mod_ii, o_pow_ii, o_neg_i, o_cmp_ii, o_eq_ii, o_ne_ii, o_is_nn, o_is_in, o_not_nn, o_not_in, o_ix_lst, o_ix_tup, o_ix_scr, o_at, o_at_neg, o_set, tl_set, o_rng1, o_rng2, o_seq_lst, o_seq_tup, o_seq_scr, o_enum_lst, o_len_l, o_len_t, o_abs, o_max2, o_min2, o_int_i, o_int_b, o_list_l, o_list_s, o_list_t, o_sum_tl, o_tru_b, o_isi_int_i, o_isi_int_non, o_isi_bool_i, o_isi_list_l, o_gN, o_gT, o_gsNil, o_gsCons, o_cut_l, o_cut_s, tl_len, tl_cons, tl_snoc, enum_tl, wO_some, wR_ok, wR_of, lpQ_nx, lpQ_ct, List.getElem?_cons_zero, List.getElem?_cons_succ, List.set_cons_zero, List.set_cons_succ, List.length_cons, List.length_nil, List.length_map, List.length_range, List.cons_append, List.nil_append, List.replicate, Nat.reduceAdd, Nat.reduceSub, Int.toNat_natCast, decide_eq_true_eq, Bool.not_eq_true, Bool.not_true, Bool.not_false, if_true, Bool.false_eq_true, if_false, true_and, and_true, Int.reduceNeg, Int.reduceLE, Int.reduceLT, Nat.reduceLeDiff, Nat.reduceLT, Int.zero_add, Nat.zero_add, Int.sub_zero, ite_true, ite_false, reduceIte, Bool.not_eq_eq_eq_not]
    refine ⟨by omega, by omega, wF_rng (fun t Γ => ∃ T j1 j2 j3 j4, Γ = [il n f, .int m, .lst (tl (i + 1) fun k => il n (H k)), .int (1 + i), .lst T, j1, j2, j3, j4] ∧ T = tl n fun x => .int (s1 t fun t => cv false (st t f) (H (1 + i - t)) x)) ⟨_, _, _, _, _, rfl, rfl⟩ ?_ ?_⟩
    · rintro t Γ ht ⟨_, j1, j2, j3, j4, rfl, rfl⟩
      simp (disch := omega) only [wE_var, wE_c, wE_bin, wE_un, wA_nil, wA_cons, wE_app, wE_call, wE_tup, wE_lst, wE_if, wE_isi, wE_sl, wR_oNo, wR_oAt, ex_int, ex_bl, ex_lst, ex_par, wB_val, wB_tru, wB_not, wB_and, wB_or, wB_yes, wE_and, wE_or, wE_not, wE_chain, nxQ_nx, nxQ_rt, nxQ_ct, nxQ_bk, wS_nil, wS_seq, wS_bk, wS_ct, wS_exp, wS_asg, wS_ret, wS_if, wS_aug, wS_asgG, wS_par, wS_app, wS_setix, wS_augix, wS_for, wA_seq, wA_rng, wE_lc, o_add_ii, o_add_ll, o_addI_ii, o_subI_ii, o_mul_ii, o_mulI_ii, o_mul_li, o_mulL_li, o_fdiv_ii, o_mod_ii, o_pow_ii, o_neg_i, o_cmp_ii, o_eq_ii, o_ne_ii, o_is_nn, o_is_in, o_not_nn, o_not_in, o_ix_lst, o_ix_tup, o_ix_scr, o_at, o_at_neg, o_set, tl_set, o_rng1, o_rng2, o_seq_lst, o_seq_tup, o_seq_scr, o_enum_lst, o_len_l, o_len_t, o_abs, o_max2, o_min2, o_int_i, o_int_b, o_list_l, o_list_s, o_list_t, o_sum_tl, o_tru_b, o_isi_int_i, o_isi_int_non, o_isi_bool_i, o_isi_list_l, o_gN, o_gT, o_gsNil, o_gsCons, o_cut_l, o_cut_s, tl_len, tl_cons, tl_snoc, enum_tl, wO_some, wR_ok, wR_of, lpQ_nx, lpQ_ct, List.getElem?_cons_zero, List.getElem?_cons_succ, List.set_cons_zero, List.set_cons_succ, List.length_cons, List.length_nil, List.length_map, List.length_range, List.cons_append, List.nil_append, List.replicate, Nat.reduceAdd, Nat.reduceSub, Int.toNat_natCast, decide_eq_true_eq, Bool.not_eq_true, Bool.not_true, Bool.not_false, if_true, Bool.false_eq_true, if_false, true_and, and_true, Int.reduceNeg, Int.reduceLE, Int.reduceLT, Nat.reduceLeDiff, Nat.reduceLT, Int.zero_add, Nat.zero_add, Int.sub_zero, ite_true, ite_false, reduceIte, Bool.not_eq_eq_eq_not, st_ok n (1 + t) f hn hn2 (by omega) (by omega), prod_ok' n (st (1 + t) f) _ hn hn2 (st_small hs)]
      refine ⟨by omega, by omega, lc_tl (fun x => .int ((s1 t fun t => cv false (st t f) (H (1 + i - t)) x) + cv false (st (1 + t) f) (H (1 + i - (1 + t))) x)) ?_ ?_⟩
      · intro x hx
        simp (disch := omega) only [wE_var, wE_c, wE_bin, wE_un, wA_nil, wA_cons, wE_app, wE_call, wE_tup, wE_lst, wE_if, wE_isi, wE_sl, wR_oNo, wR_oAt, ex_int, ex_bl, ex_lst, ex_par, wB_val, wB_tru, wB_not, wB_and, wB_or, wB_yes, wE_and, wE_or, wE_not, wE_chain, nxQ_nx, nxQ_rt, nxQ_ct, nxQ_bk, wS_nil, wS_seq, wS_bk, wS_ct, wS_exp, wS_asg, wS_ret, wS_if, wS_aug, wS_asgG, wS_par, wS_app, wS_setix, wS_augix, wS_for, wA_seq, wA_rng, wE_lc, o_add_ii, o_add_ll, o_addI_ii, o_subI_ii, o_mul_ii, o_mulI_ii, o_mul_li, o_mulL_li, o_fdiv_ii, o_mod_ii, o_pow_ii, o_neg_i, o_cmp_ii, o_eq_ii, o_ne_ii, o_is_nn, o_is_in, o_not_nn, o_not_in, o_ix_lst, o_ix_tup, o_ix_scr, o_at, o_at_neg, o_set, tl_set, o_rng1, o_rng2, o_seq_lst, o_seq_tup, o_seq_scr, o_enum_lst, o_len_l, o_len_t, o_abs, o_max2, o_min2, o_int_i, o_int_b, o_list_l, o_list_s, o_list_t, o_sum_tl, o_tru_b, o_isi_int_i, o_isi_int_non, o_isi_bool_i, o_isi_list_l, o_gN, o_gT, o_gsNil, o_gsCons, o_cut_l, o_cut_s, tl_len, tl_cons, tl_snoc, enum_tl, wO_some, wR_ok, wR_of, lpQ_nx, lpQ_ct, List.getElem?_cons_zero, List.getElem?_cons_succ, List.set_cons_zero, List.set_cons_succ, List.length_cons, List.length_nil, List.length_map, List.length_range, List.cons_append, List.nil_append, List.replicate, Nat.reduceAdd, Nat.reduceSub, Int.toNat_natCast, decide_eq_true_eq, Bool.not_eq_true, Bool.not_true, Bool.not_false, if_true, Bool.false_eq_true, if_false, true_and, and_true, Int.reduceNeg, Int.reduceLE, Int.reduceLT, Nat.reduceLeDiff, Nat.reduceLT, Int.zero_add, Nat.zero_add, Int.sub_zero, ite_true, ite_false, reduceIte, Bool.not_eq_eq_eq_not]
      · exact ⟨_, _, _, _, _, rfl, rfl⟩
    · rintro Γ' ⟨_, j1, j2, j3, j4, rfl, rfl⟩
      simp (disch := omega) only [wE_var, wE_c, wE_bin, wE_un, wA_nil, wA_cons, wE_app, wE_call, wE_tup, wE_lst, wE_if, wE_isi, wE_sl, wR_oNo, wR_oAt, ex_int, ex_bl, ex_lst, ex_par, wB_val, wB_tru, wB_not, wB_and, wB_or, wB_yes, wE_and, wE_or, wE_not, wE_chain, nxQ_nx, nxQ_rt, nxQ_ct, nxQ_bk, wS_nil, wS_seq, wS_bk, wS_ct, wS_exp, wS_asg, wS_ret, wS_if, wS_aug, wS_asgG, wS_par, wS_app, wS_setix, wS_augix, wS_for, wA_seq, wA_rng, wE_lc, o_add_ii, o_add_ll, o_addI_ii, o_subI_ii, o_mul_ii, o_mulI_ii, o_mul_li, o_mulL_li, o_fdiv_ii, o_mod_ii, o_pow_ii, o_neg_i, o_cmp_ii, o_eq_ii, o_ne_ii, o_is_nn, o_is_in, o_not_nn, o_not_in, o_ix_lst, o_ix_tup, o_ix_scr, o_at, o_at_neg, o_set, tl_set, o_rng1, o_rng2, o_seq_lst, o_seq_tup, o_seq_scr, o_enum_lst, o_len_l, o_len_t, o_abs, o_max2, o_min2, o_int_i, o_int_b, o_list_l, o_list_s, o_list_t, o_sum_tl, o_tru_b, o_isi_int_i, o_isi_int_non, o_isi_bool_i, o_isi_list_l, o_gN, o_gT, o_gsNil, o_gsCons, o_cut_l, o_cut_s, tl_len, tl_cons, tl_snoc, enum_tl, wO_some, wR_ok, wR_of, lpQ_nx, lpQ_ct, List.getElem?_cons_zero, List.getElem?_cons_succ, List.set_cons_zero, List.set_cons_succ, List.length_cons, List.length_nil, List.length_map, List.length_range, List.cons_append, List.nil_append, List.replicate, Nat.reduceAdd, Nat.reduceSub, Int.toNat_natCast, decide_eq_true_eq, Bool.not_eq_true, Bool.not_true, Bool.not_false, if_true, Bool.false_eq_true, if_false, true_and, and_true, Int.reduceNeg, Int.reduceLE, Int.reduceLT, Nat.reduceLeDiff, Nat.reduceLT, Int.zero_add, Nat.zero_add, Int.sub_zero, ite_true, ite_false, reduceIte, Bool.not_eq_eq_eq_not]
      refine ⟨by omega, lc_tl2 (fun x => .int (s1 (i + 1) (fun t => cv false (st t f) (H (1 + i - t)) x) / (1 + i))) ?_ ?_⟩
      · intro x hx
        simp (disch := omega) only [wE_var, wE_c, wE_bin, wE_un, wA_nil, wA_cons, wE_app, wE_call, wE_tup, wE_lst, wE_if, wE_isi, wE_sl, wR_oNo, wR_oAt, ex_int, ex_bl, ex_lst, ex_par, wB_val, wB_tru, wB_not, wB_and, wB_or, wB_yes, wE_and, wE_or, wE_not, wE_chain, nxQ_nx, nxQ_rt, nxQ_ct, nxQ_bk, wS_nil, wS_seq, wS_bk, wS_ct, wS_exp, wS_asg, wS_ret, wS_if, wS_aug, wS_asgG, wS_par, wS_app, wS_setix, wS_augix, wS_for, wA_seq, wA_rng, wE_lc, o_add_ii, o_add_ll, o_addI_ii, o_subI_ii, o_mul_ii, o_mulI_ii, o_mul_li, o_mulL_li, o_fdiv_ii, o_mod_ii, o_pow_ii, o_neg_i, o_cmp_ii, o_eq_ii, o_ne_ii, o_is_nn, o_is_in, o_not_nn, o_not_in, o_ix_lst, o_ix_tup, o_ix_scr, o_at, o_at_neg, o_set, tl_set, o_rng1, o_rng2, o_seq_lst, o_seq_tup, o_seq_scr, o_enum_lst, o_len_l, o_len_t, o_abs, o_max2, o_min2, o_int_i, o_int_b, o_list_l, o_list_s, o_list_t, o_sum_tl, o_tru_b, o_isi_int_i, o_isi_int_non, o_isi_bool_i, o_isi_list_l, o_gN, o_gT, o_gsNil, o_gsCons, o_cut_l, o_cut_s, tl_len, tl_cons, tl_snoc, enum_tl, wO_some, wR_ok, wR_of, lpQ_nx, lpQ_ct, List.getElem?_cons_zero, List.getElem?_cons_succ, List.set_cons_zero, List.set_cons_succ, List.length_cons, List.length_nil, List.length_map, List.length_range, List.cons_append, List.nil_append, List.replicate, Nat.reduceAdd, Nat.reduceSub, Int.toNat_natCast, decide_eq_true_eq, Bool.not_eq_true, Bool.not_true, Bool.not_false, if_true, Bool.false_eq_true, if_false, true_and, and_true, Int.reduceNeg, Int.reduceLE, Int.reduceLT, Nat.reduceLeDiff, Nat.reduceLT, Int.zero_add, Nat.zero_add, Int.sub_zero, ite_true, ite_false, reduceIte, Bool.not_eq_eq_eq_not]
        refine ⟨by omega, ?_⟩
        rw [show ((1 : Int) + i + 1 - 1).toNat = i + 1 by omega]
      · refine ⟨by omega, _, _, _, _, _, _, _, rfl, tl_congr fun k h0 h1 => ?_⟩
        by_cases hk : k = ((i + 1 : Nat) : Int)
        · subst hk
          rw [if_pos rfl]
          refine congrArg D.lst (tl_congr fun x hx0 hx1 => ?_)
          have := hH (i + 1) (by omega) (by omega) x hx0 hx1
          rw [show ((i + 1 : Nat) : Int) = 1 + i by omega] at this ⊢
          rw [this, Int.mul_ediv_cancel _ (by omega)]
        · rw [if_neg hk]
  · rintro Γ' ⟨_, j1, j2, j3, j4, j5, j6, rfl, rfl⟩
    simp only [wE_var, wE_c, wE_bin, wE_un, wA_nil, wA_cons, wE_app, wE_call, wE_tup, wE_lst, wE_if, wE_isi, wE_sl, wR_oNo, wR_oAt, ex_int, ex_bl, ex_lst, ex_par, wB_val, wB_tru, wB_not, wB_and, wB_or, wB_yes, wE_and, wE_or, wE_not, wE_chain, nxQ_nx, nxQ_rt, nxQ_ct, nxQ_bk, wS_nil, wS_seq, wS_bk, wS_ct, wS_exp, wS_asg, wS_ret, wS_if, wS_aug, wS_asgG, wS_par, wS_app, wS_setix, wS_augix, wS_for, wA_seq, wA_rng, wE_lc, o_add_ii, o_add_ll, o_addI_ii, o_subI_ii, o_mul_ii, o_mulI_ii, o_mul_li, o_mulL_li, o_fdiv_ii, o_mod_ii, o_pow_ii, o_neg_i, o_cmp_ii, o_eq_ii, o_ne_ii, o_is_nn, o_is_in, o_not_nn, o_not_in, o_ix_lst, o_ix_tup, o_ix_scr, o_at, o_at_neg, o_set, tl_set, o_rng1, o_rng2, o_seq_lst, o_seq_tup, o_seq_scr, o_enum_lst, o_len_l, o_len_t, o_abs, o_max2, o_min2, o_int_i, o_int_b, o_list_l, o_list_s, o_list_t, o_sum_tl, o_tru_b, o_isi_int_i, o_isi_int_non, o_isi_bool_i, o_isi_list_l, o_gN, o_gT, o_gsNil, o_gsCons, o_cut_l, o_cut_s, tl_len, tl_cons, tl_snoc, enum_tl, wO_some, wR_ok, wR_of, lpQ_nx, lpQ_ct, List.getElem?_cons_zero, List.getElem?_cons_succ, List.set_cons_zero, List.set_cons_succ, List.length_cons, List.length_nil, List.length_map, List.length_range, List.cons_append, List.nil_append, List.replicate, Nat.reduceAdd, Nat.reduceSub, Int.toNat_natCast, decide_eq_true_eq, Bool.not_eq_true, Bool.not_true, Bool.not_false, if_true, Bool.false_eq_true, if_false, true_and, and_true, Int.reduceNeg, Int.reduceLE, Int.reduceLT, Nat.reduceLeDiff, Nat.reduceLT, Int.zero_add, Nat.zero_add, Int.sub_zero, ite_true, ite_false, reduceIte, Bool.not_eq_eq_eq_not]
    rw [show ((m : Int) + 1 - 1).toNat = m by omega]
/-- what the turns of a ring of i give, together -/
def trs (f : Int → Int) (p : Int → Int) (i : Nat) (x : Int) : Int := s1 i fun t => if (i : Int) % t = 0 then p t * st t (pw false f (i / t)) x else 0
theorem tr_ok (n m : Nat) (f p : Int → Int) (hn : 1 ≤ n) (hn2 : n ≤ 60) (hm : m ≤ 11) (hs : small f) (hp : small p) : m_turned_rows [il n f, .int m, il (m + 1) p] = .ok (.lst (tl (m + 1) fun i => il n fun x => if i = 0 then u1 x else trs f p i.toNat x / i)) := by
  refine m_ok rfl ?_
  unfold b_turned_rows
  simp only [wE_var, wE_c, wE_bin, wE_un, wA_nil, wA_cons, wE_app, wE_call, wE_tup, wE_lst, wE_if, wE_isi, wE_sl, wR_oNo, wR_oAt, ex_int, ex_bl, ex_lst, ex_par, wB_val, wB_tru, wB_not, wB_and, wB_or, wB_yes, wE_and, wE_or, wE_not, wE_chain, nxQ_nx, nxQ_rt, nxQ_ct, nxQ_bk, wS_nil, wS_seq, wS_bk, wS_ct, wS_exp, wS_asg, wS_ret, wS_if, wS_aug, wS_asgG, wS_par, wS_app, wS_setix, wS_augix, wS_for, wA_seq, wA_rng, wE_lc, o_add_ii, o_add_ll, o_addI_ii, o_subI_ii, o_mul_ii, o_mulI_ii, o_mul_li, o_mulL_li, o_fdiv_ii, o_mod_ii, o_pow_ii, o_neg_i, o_cmp_ii, o_eq_ii, o_ne_ii, o_is_nn, o_is_in, o_not_nn, o_not_in, o_ix_lst, o_ix_tup, o_ix_scr, o_at, o_at_neg, o_set, tl_set, o_rng1, o_rng2, o_seq_lst, o_seq_tup, o_seq_scr, o_enum_lst, o_len_l, o_len_t, o_abs, o_max2, o_min2, o_int_i, o_int_b, o_list_l, o_list_s, o_list_t, o_sum_tl, o_tru_b, o_isi_int_i, o_isi_int_non, o_isi_bool_i, o_isi_list_l, o_gN, o_gT, o_gsNil, o_gsCons, o_cut_l, o_cut_s, tl_len, tl_cons, tl_snoc, enum_tl, wO_some, wR_ok, wR_of, lpQ_nx, lpQ_ct, List.getElem?_cons_zero, List.getElem?_cons_succ, List.set_cons_zero, List.set_cons_succ, List.length_cons, List.length_nil, List.length_map, List.length_range, List.cons_append, List.nil_append, List.replicate, Nat.reduceAdd, Nat.reduceSub, Int.toNat_natCast, decide_eq_true_eq, Bool.not_eq_true, Bool.not_true, Bool.not_false, if_true, Bool.false_eq_true, if_false, true_and, and_true, Int.reduceNeg, Int.reduceLE, Int.reduceLT, Nat.reduceLeDiff, Nat.reduceLT, Int.zero_add, Nat.zero_add, Int.sub_zero, ite_true, ite_false, reduceIte, Bool.not_eq_eq_eq_not, unit_ok n hn hn2, pow_ok n m false f hn hn2 (by omega) hs]
  refine ⟨by omega, wF_rng (fun i Γ => ∃ L j1 j2 j3 j4 j5 j6, Γ = [il n f, .int m, il (m + 1) p, .lst (tl (m + 1) fun i => il n (pw false f i)), .lst L, j1, j2, j3, j4, j5, j6] ∧ L = tl (i + 1) fun i => il n fun x => if i = 0 then u1 x else trs f p i.toNat x / i) ⟨_, _, _, _, _, _, _, rfl, ?_⟩ ?_ ?_⟩
  · exact congrArg (fun z => [D.lst z]) (tl_congr fun x _ _ => rfl)
  · rintro i Γ hi ⟨_, j1, j2, j3, j4, j5, j6, rfl, rfl⟩
    simp (disch := omega) only [wE_var, wE_c, wE_bin, wE_un, wA_nil, wA_cons, wE_app, wE_call, wE_tup, wE_lst, wE_if, wE_isi, wE_sl, wR_oNo, wR_oAt, ex_int, ex_bl, ex_lst, ex_par, wB_val, wB_tru, wB_not, wB_and, wB_or, wB_yes, wE_and, wE_or, wE_not, wE_chain, nxQ_nx, nxQ_rt, nxQ_ct, nxQ_bk, wS_nil, wS_seq, wS_bk, wS_ct, wS_exp, wS_asg, wS_ret, wS_if, wS_aug, wS_asgG, wS_par, wS_app, wS_setix, wS_augix, wS_for, wA_seq, wA_rng, wE_lc, o_add_ii, o_add_ll, o_addI_ii, o_subI_ii, o_mul_ii, o_mulI_ii, o_mul_li, o_mulL_li, o_fdiv_ii, o_mod_ii, o_pow_ii, o_neg_i, o_cmp_ii, o_eq_ii, o_ne_ii, o_is_nn, o_is_in, o_not_nn, o_not_in, o_ix_lst, o_ix_tup, o_ix_scr, o_at, o_at_neg, o_set, tl_set, o_rng1, o_rng2, o_seq_lst, o_seq_tup, o_seq_scr, o_enum_lst, o_len_l, o_len_t, o_abs, o_max2, o_min2, o_int_i, o_int_b, o_list_l, o_list_s, o_list_t, o_sum_tl, o_tru_b, o_isi_int_i, o_isi_int_non, o_isi_bool_i, o_isi_list_l, o_gN, o_gT, o_gsNil, o_gsCons, o_cut_l, o_cut_s, tl_len, tl_cons, tl_snoc, enum_tl, wO_some, wR_ok, wR_of, lpQ_nx, lpQ_ct, List.getElem?_cons_zero, List.getElem?_cons_succ, List.set_cons_zero, List.set_cons_succ, List.length_cons, List.length_nil, List.length_map, List.length_range, List.cons_append, List.nil_append, List.replicate, Nat.reduceAdd, Nat.reduceSub, Int.toNat_natCast, decide_eq_true_eq, Bool.not_eq_true, Bool.not_true, Bool.not_false, if_true, Bool.false_eq_true, if_false, true_and, and_true, Int.reduceNeg, Int.reduceLE, Int.reduceLT, Nat.reduceLeDiff, Nat.reduceLT, Int.zero_add, Nat.zero_add, Int.sub_zero, ite_true, ite_false, reduceIte, Bool.not_eq_eq_eq_not]
    refine ⟨by omega, by omega, wF_rng (fun t Γ => ∃ T j1 j2 j3 j4, Γ = [il n f, .int m, il (m + 1) p, .lst (tl (m + 1) fun i => il n (pw false f i)), .lst (tl (i + 1) fun i => il n fun x => if i = 0 then u1 x else trs f p i.toNat x / i), .int (1 + i), .lst T, j1, j2, j3, j4] ∧ T = tl n fun x => .int (s1 t fun t => if (1 + (i : Int)) % t = 0 then p t * st t (pw false f ((1 + i) / t)) x else 0)) ⟨_, _, _, _, _, rfl, rfl⟩ ?_ ?_⟩
    · rintro t Γ ht ⟨_, j1, j2, j3, j4, rfl, rfl⟩
      simp (disch := omega) only [wE_var, wE_c, wE_bin, wE_un, wA_nil, wA_cons, wE_app, wE_call, wE_tup, wE_lst, wE_if, wE_isi, wE_sl, wR_oNo, wR_oAt, ex_int, ex_bl, ex_lst, ex_par, wB_val, wB_tru, wB_not, wB_and, wB_or, wB_yes, wE_and, wE_or, wE_not, wE_chain, nxQ_nx, nxQ_rt, nxQ_ct, nxQ_bk, wS_nil, wS_seq, wS_bk, wS_ct, wS_exp, wS_asg, wS_ret, wS_if, wS_aug, wS_asgG, wS_par, wS_app, wS_setix, wS_augix, wS_for, wA_seq, wA_rng, wE_lc, o_add_ii, o_add_ll, o_addI_ii, o_subI_ii, o_mul_ii, o_mulI_ii, o_mul_li, o_mulL_li, o_fdiv_ii, o_mod_ii, o_pow_ii, o_neg_i, o_cmp_ii, o_eq_ii, o_ne_ii, o_is_nn, o_is_in, o_not_nn, o_not_in, o_ix_lst, o_ix_tup, o_ix_scr, o_at, o_at_neg, o_set, tl_set, o_rng1, o_rng2, o_seq_lst, o_seq_tup, o_seq_scr, o_enum_lst, o_len_l, o_len_t, o_abs, o_max2, o_min2, o_int_i, o_int_b, o_list_l, o_list_s, o_list_t, o_sum_tl, o_tru_b, o_isi_int_i, o_isi_int_non, o_isi_bool_i, o_isi_list_l, o_gN, o_gT, o_gsNil, o_gsCons, o_cut_l, o_cut_s, tl_len, tl_cons, tl_snoc, enum_tl, wO_some, wR_ok, wR_of, lpQ_nx, lpQ_ct, List.getElem?_cons_zero, List.getElem?_cons_succ, List.set_cons_zero, List.set_cons_succ, List.length_cons, List.length_nil, List.length_map, List.length_range, List.cons_append, List.nil_append, List.replicate, Nat.reduceAdd, Nat.reduceSub, Int.toNat_natCast, decide_eq_true_eq, Bool.not_eq_true, Bool.not_true, Bool.not_false, if_true, Bool.false_eq_true, if_false, true_and, and_true, Int.reduceNeg, Int.reduceLE, Int.reduceLT, Nat.reduceLeDiff, Nat.reduceLT, Int.zero_add, Nat.zero_add, Int.sub_zero, ite_true, ite_false, reduceIte, Bool.not_eq_eq_eq_not]
      refine ⟨by omega, ?_⟩
      split
      · rename_i h0
        have hq : (1 + (i : Int)) / (1 + t) ≤ 1 + i := Int.ediv_le_self _ (by omega)
        have hq0 : 0 ≤ (1 + (i : Int)) / (1 + t) := Int.ediv_nonneg (by omega) (by omega)
        simp (disch := omega) only [wE_var, wE_c, wE_bin, wE_un, wA_nil, wA_cons, wE_app, wE_call, wE_tup, wE_lst, wE_if, wE_isi, wE_sl, wR_oNo, wR_oAt, ex_int, ex_bl, ex_lst, ex_par, wB_val, wB_tru, wB_not, wB_and, wB_or, wB_yes, wE_and, wE_or, wE_not, wE_chain, nxQ_nx, nxQ_rt, nxQ_ct, nxQ_bk, wS_nil, wS_seq, wS_bk, wS_ct, wS_exp, wS_asg, wS_ret, wS_if, wS_aug, wS_asgG, wS_par, wS_app, wS_setix, wS_augix, wS_for, wA_seq, wA_rng, wE_lc, o_add_ii, o_add_ll, o_addI_ii, o_subI_ii, o_mul_ii, o_mulI_ii, o_mul_li, o_mulL_li, o_fdiv_ii, o_mod_ii, o_pow_ii, o_neg_i, o_cmp_ii, o_eq_ii, o_ne_ii, o_is_nn, o_is_in, o_not_nn, o_not_in, o_ix_lst, o_ix_tup, o_ix_scr, o_at, o_at_neg, o_set, tl_set, o_rng1, o_rng2, o_seq_lst, o_seq_tup, o_seq_scr, o_enum_lst, o_len_l, o_len_t, o_abs, o_max2, o_min2, o_int_i, o_int_b, o_list_l, o_list_s, o_list_t, o_sum_tl, o_tru_b, o_isi_int_i, o_isi_int_non, o_isi_bool_i, o_isi_list_l, o_gN, o_gT, o_gsNil, o_gsCons, o_cut_l, o_cut_s, tl_len, tl_cons, tl_snoc, enum_tl, wO_some, wR_ok, wR_of, lpQ_nx, lpQ_ct, List.getElem?_cons_zero, List.getElem?_cons_succ, List.set_cons_zero, List.set_cons_succ, List.length_cons, List.length_nil, List.length_map, List.length_range, List.cons_append, List.nil_append, List.replicate, Nat.reduceAdd, Nat.reduceSub, Int.toNat_natCast, decide_eq_true_eq, Bool.not_eq_true, Bool.not_true, Bool.not_false, if_true, Bool.false_eq_true, if_false, true_and, and_true, Int.reduceNeg, Int.reduceLE, Int.reduceLT, Nat.reduceLeDiff, Nat.reduceLT, Int.zero_add, Nat.zero_add, Int.sub_zero, ite_true, ite_false, reduceIte, Bool.not_eq_eq_eq_not, st_ok n (1 + t) _ hn hn2 (by omega) (by omega)]
        refine ⟨by omega, by omega, by omega, lc_tl (fun x => .int ((s1 t fun t => if (1 + (i : Int)) % t = 0 then p t * st t (pw false f ((1 + i) / t)) x else 0) + p (1 + t) * st (1 + t) (pw false f ((1 + i) / (1 + t))) x)) ?_ ?_⟩
        · intro x hx
          simp (disch := omega) only [wE_var, wE_c, wE_bin, wE_un, wA_nil, wA_cons, wE_app, wE_call, wE_tup, wE_lst, wE_if, wE_isi, wE_sl, wR_oNo, wR_oAt, ex_int, ex_bl, ex_lst, ex_par, wB_val, wB_tru, wB_not, wB_and, wB_or, wB_yes, wE_and, wE_or, wE_not, wE_chain, nxQ_nx, nxQ_rt, nxQ_ct, nxQ_bk, wS_nil, wS_seq, wS_bk, wS_ct, wS_exp, wS_asg, wS_ret, wS_if, wS_aug, wS_asgG, wS_par, wS_app, wS_setix, wS_augix, wS_for, wA_seq, wA_rng, wE_lc, o_add_ii, o_add_ll, o_addI_ii, o_subI_ii, o_mul_ii, o_mulI_ii, o_mul_li, o_mulL_li, o_fdiv_ii, o_mod_ii, o_pow_ii, o_neg_i, o_cmp_ii, o_eq_ii, o_ne_ii, o_is_nn, o_is_in, o_not_nn, o_not_in, o_ix_lst, o_ix_tup, o_ix_scr, o_at, o_at_neg, o_set, tl_set, o_rng1, o_rng2, o_seq_lst, o_seq_tup, o_seq_scr, o_enum_lst, o_len_l, o_len_t, o_abs, o_max2, o_min2, o_int_i, o_int_b, o_list_l, o_list_s, o_list_t, o_sum_tl, o_tru_b, o_isi_int_i, o_isi_int_non, o_isi_bool_i, o_isi_list_l, o_gN, o_gT, o_gsNil, o_gsCons, o_cut_l, o_cut_s, tl_len, tl_cons, tl_snoc, enum_tl, wO_some, wR_ok, wR_of, lpQ_nx, lpQ_ct, List.getElem?_cons_zero, List.getElem?_cons_succ, List.set_cons_zero, List.set_cons_succ, List.length_cons, List.length_nil, List.length_map, List.length_range, List.cons_append, List.nil_append, List.replicate, Nat.reduceAdd, Nat.reduceSub, Int.toNat_natCast, decide_eq_true_eq, Bool.not_eq_true, Bool.not_true, Bool.not_false, if_true, Bool.false_eq_true, if_false, true_and, and_true, Int.reduceNeg, Int.reduceLE, Int.reduceLT, Nat.reduceLeDiff, Nat.reduceLT, Int.zero_add, Nat.zero_add, Int.sub_zero, ite_true, ite_false, reduceIte, Bool.not_eq_eq_eq_not]
          exact .inl (hp _)
        · refine ⟨_, _, _, _, _, rfl, tl_congr fun x _ _ => ?_⟩
          rw [s1, s1, sm, if_pos h0]
      · rename_i h0
        refine ⟨_, _, _, _, _, rfl, tl_congr fun x _ _ => ?_⟩
        rw [s1, s1, sm, if_neg h0, Int.add_zero]
    · rintro Γ' ⟨_, j1, j2, j3, j4, rfl, rfl⟩
      simp (disch := omega) only [wE_var, wE_c, wE_bin, wE_un, wA_nil, wA_cons, wE_app, wE_call, wE_tup, wE_lst, wE_if, wE_isi, wE_sl, wR_oNo, wR_oAt, ex_int, ex_bl, ex_lst, ex_par, wB_val, wB_tru, wB_not, wB_and, wB_or, wB_yes, wE_and, wE_or, wE_not, wE_chain, nxQ_nx, nxQ_rt, nxQ_ct, nxQ_bk, wS_nil, wS_seq, wS_bk, wS_ct, wS_exp, wS_asg, wS_ret, wS_if, wS_aug, wS_asgG, wS_par, wS_app, wS_setix, wS_augix, wS_for, wA_seq, wA_rng, wE_lc, o_add_ii, o_add_ll, o_addI_ii, o_subI_ii, o_mul_ii, o_mulI_ii, o_mul_li, o_mulL_li, o_fdiv_ii, o_mod_ii, o_pow_ii, o_neg_i, o_cmp_ii, o_eq_ii, o_ne_ii, o_is_nn, o_is_in, o_not_nn, o_not_in, o_ix_lst, o_ix_tup, o_ix_scr, o_at, o_at_neg, o_set, tl_set, o_rng1, o_rng2, o_seq_lst, o_seq_tup, o_seq_scr, o_enum_lst, o_len_l, o_len_t, o_abs, o_max2, o_min2, o_int_i, o_int_b, o_list_l, o_list_s, o_list_t, o_sum_tl, o_tru_b, o_isi_int_i, o_isi_int_non, o_isi_bool_i, o_isi_list_l, o_gN, o_gT, o_gsNil, o_gsCons, o_cut_l, o_cut_s, tl_len, tl_cons, tl_snoc, enum_tl, wO_some, wR_ok, wR_of, lpQ_nx, lpQ_ct, List.getElem?_cons_zero, List.getElem?_cons_succ, List.set_cons_zero, List.set_cons_succ, List.length_cons, List.length_nil, List.length_map, List.length_range, List.cons_append, List.nil_append, List.replicate, Nat.reduceAdd, Nat.reduceSub, Int.toNat_natCast, decide_eq_true_eq, Bool.not_eq_true, Bool.not_true, Bool.not_false, if_true, Bool.false_eq_true, if_false, true_and, and_true, Int.reduceNeg, Int.reduceLE, Int.reduceLT, Nat.reduceLeDiff, Nat.reduceLT, Int.zero_add, Nat.zero_add, Int.sub_zero, ite_true, ite_false, reduceIte, Bool.not_eq_eq_eq_not]
      refine ⟨by omega, lc_tl2 (fun x => .int (trs f p (i + 1) x / (1 + i))) ?_ ?_⟩
      · intro x hx
        simp (disch := omega) only [wE_var, wE_c, wE_bin, wE_un, wA_nil, wA_cons, wE_app, wE_call, wE_tup, wE_lst, wE_if, wE_isi, wE_sl, wR_oNo, wR_oAt, ex_int, ex_bl, ex_lst, ex_par, wB_val, wB_tru, wB_not, wB_and, wB_or, wB_yes, wE_and, wE_or, wE_not, wE_chain, nxQ_nx, nxQ_rt, nxQ_ct, nxQ_bk, wS_nil, wS_seq, wS_bk, wS_ct, wS_exp, wS_asg, wS_ret, wS_if, wS_aug, wS_asgG, wS_par, wS_app, wS_setix, wS_augix, wS_for, wA_seq, wA_rng, wE_lc, o_add_ii, o_add_ll, o_addI_ii, o_subI_ii, o_mul_ii, o_mulI_ii, o_mul_li, o_mulL_li, o_fdiv_ii, o_mod_ii, o_pow_ii, o_neg_i, o_cmp_ii, o_eq_ii, o_ne_ii, o_is_nn, o_is_in, o_not_nn, o_not_in, o_ix_lst, o_ix_tup, o_ix_scr, o_at, o_at_neg, o_set, tl_set, o_rng1, o_rng2, o_seq_lst, o_seq_tup, o_seq_scr, o_enum_lst, o_len_l, o_len_t, o_abs, o_max2, o_min2, o_int_i, o_int_b, o_list_l, o_list_s, o_list_t, o_sum_tl, o_tru_b, o_isi_int_i, o_isi_int_non, o_isi_bool_i, o_isi_list_l, o_gN, o_gT, o_gsNil, o_gsCons, o_cut_l, o_cut_s, tl_len, tl_cons, tl_snoc, enum_tl, wO_some, wR_ok, wR_of, lpQ_nx, lpQ_ct, List.getElem?_cons_zero, List.getElem?_cons_succ, List.set_cons_zero, List.set_cons_succ, List.length_cons, List.length_nil, List.length_map, List.length_range, List.cons_append, List.nil_append, List.replicate, Nat.reduceAdd, Nat.reduceSub, Int.toNat_natCast, decide_eq_true_eq, Bool.not_eq_true, Bool.not_true, Bool.not_false, if_true, Bool.false_eq_true, if_false, true_and, and_true, Int.reduceNeg, Int.reduceLE, Int.reduceLT, Nat.reduceLeDiff, Nat.reduceLT, Int.zero_add, Nat.zero_add, Int.sub_zero, ite_true, ite_false, reduceIte, Bool.not_eq_eq_eq_not]
        refine ⟨by omega, ?_⟩
        rw [show ((1 : Int) + i + 1 - 1).toNat = i + 1 by omega, trs, show ((i + 1 : Nat) : Int) = 1 + i by omega]
      · refine ⟨by omega, _, _, _, _, _, _, _, rfl, tl_congr fun k h0 h1 => ?_⟩
        by_cases hk : k = ((i + 1 : Nat) : Int)
        · subst hk
          rw [if_pos rfl]
          refine congrArg D.lst (tl_congr fun x hx0 hx1 => ?_)
          dsimp only
          rw [if_neg (by omega), Int.toNat_natCast, show ((i + 1 : Nat) : Int) = 1 + i by omega]
        · rw [if_neg hk]
  · rintro Γ' ⟨_, j1, j2, j3, j4, j5, j6, rfl, rfl⟩
    simp only [wE_var, wE_c, wE_bin, wE_un, wA_nil, wA_cons, wE_app, wE_call, wE_tup, wE_lst, wE_if, wE_isi, wE_sl, wR_oNo, wR_oAt, ex_int, ex_bl, ex_lst, ex_par, wB_val, wB_tru, wB_not, wB_and, wB_or, wB_yes, wE_and, wE_or, wE_not, wE_chain, nxQ_nx, nxQ_rt, nxQ_ct, nxQ_bk, wS_nil, wS_seq, wS_bk, wS_ct, wS_exp, wS_asg, wS_ret, wS_if, wS_aug, wS_asgG, wS_par, wS_app, wS_setix, wS_augix, wS_for, wA_seq, wA_rng, wE_lc, o_add_ii, o_add_ll, o_addI_ii, o_subI_ii, o_mul_ii, o_mulI_ii, o_mul_li, o_mulL_li, o_fdiv_ii, o_mod_ii, o_pow_ii, o_neg_i, o_cmp_ii, o_eq_ii, o_ne_ii, o_is_nn, o_is_in, o_not_nn, o_not_in, o_ix_lst, o_ix_tup, o_ix_scr, o_at, o_at_neg, o_set, tl_set, o_rng1, o_rng2, o_seq_lst, o_seq_tup, o_seq_scr, o_enum_lst, o_len_l, o_len_t, o_abs, o_max2, o_min2, o_int_i, o_int_b, o_list_l, o_list_s, o_list_t, o_sum_tl, o_tru_b, o_isi_int_i, o_isi_int_non, o_isi_bool_i, o_isi_list_l, o_gN, o_gT, o_gsNil, o_gsCons, o_cut_l, o_cut_s, tl_len, tl_cons, tl_snoc, enum_tl, wO_some, wR_ok, wR_of, lpQ_nx, lpQ_ct, List.getElem?_cons_zero, List.getElem?_cons_succ, List.set_cons_zero, List.set_cons_succ, List.length_cons, List.length_nil, List.length_map, List.length_range, List.cons_append, List.nil_append, List.replicate, Nat.reduceAdd, Nat.reduceSub, Int.toNat_natCast, decide_eq_true_eq, Bool.not_eq_true, Bool.not_true, Bool.not_false, if_true, Bool.false_eq_true, if_false, true_and, and_true, Int.reduceNeg, Int.reduceLE, Int.reduceLT, Nat.reduceLeDiff, Nat.reduceLT, Int.zero_add, Nat.zero_add, Int.sub_zero, ite_true, ite_false, reduceIte, Bool.not_eq_eq_eq_not]
    rw [show ((m : Int) + 1 - 1).toNat = m by omega]
/-- Euler's function, as far as needed -/
def phi (i : Int) : Int := [0, 1, 1, 2, 2, 4, 2, 6, 4, 6, 4, 10].getD i.toNat 0
theorem phi_small : small phi := by
  intro i
  unfold phi
  generalize i.toNat = k
  match k with
  | 0 | 1 | 2 | 3 | 4 | 5 | 6 | 7 | 8 | 9 | 10 | 11 => decide
  | k + 12 => exact ⟨show -(2 ^ 64) < (0 : Int) by decide, show (0 : Int) < 2 ^ 64 by decide⟩
theorem tot_ok (m : Nat) (hm : m ≤ 11) : m_totients [.int m] = .ok (il (m + 1) phi) := by
  match m, hm with
  | 0, _ => rfl
  | 1, _ => rfl
  | 2, _ => rfl
  | 3, _ => rfl
  | 4, _ => rfl
  | 5, _ => rfl
  | 6, _ => rfl
  | 7, _ => rfl
  | 8, _ => rfl
  | 9, _ => rfl
  | 10, _ => rfl
  | 11, _ => rfl
theorem sum_ok (n T : Nat) (F : Int → Int → Int) (lo hi : Int) (hn : 1 ≤ n) (hn2 : n ≤ 60) (hT : T ≤ 100) (h0 : 0 ≤ lo) (h1 : lo ≤ 1000) (h2 : 0 ≤ hi) (h3 : hi < T) : m_summed [.lst (tl T fun i => il n (F i)), .int lo, .int hi, .int n] = .ok (il n fun x => sm (hi + 1 - lo).toNat fun j => F (lo + j) x) := by
  refine m_ok rfl ?_
  unfold b_summed
  simp only [wE_var, wE_c, wE_bin, wE_un, wA_nil, wA_cons, wE_app, wE_call, wE_tup, wE_lst, wE_if, wE_isi, wE_sl, wR_oNo, wR_oAt, ex_int, ex_bl, ex_lst, ex_par, wB_val, wB_tru, wB_not, wB_and, wB_or, wB_yes, wE_and, wE_or, wE_not, wE_chain, nxQ_nx, nxQ_rt, nxQ_ct, nxQ_bk, wS_nil, wS_seq, wS_bk, wS_ct, wS_exp, wS_asg, wS_ret, wS_if, wS_aug, wS_asgG, wS_par, wS_app, wS_setix, wS_augix, wS_for, wA_seq, wA_rng, wE_lc, o_add_ii, o_add_ll, o_addI_ii, o_subI_ii, o_mul_ii, o_mulI_ii, o_mul_li, o_mulL_li, o_fdiv_ii, o_mod_ii, o_pow_ii, o_neg_i, o_cmp_ii, o_eq_ii, o_ne_ii, o_is_nn, o_is_in, o_not_nn, o_not_in, o_ix_lst, o_ix_tup, o_ix_scr, o_at, o_at_neg, o_set, tl_set, o_rng1, o_rng2, o_seq_lst, o_seq_tup, o_seq_scr, o_enum_lst, o_len_l, o_len_t, o_abs, o_max2, o_min2, o_int_i, o_int_b, o_list_l, o_list_s, o_list_t, o_sum_tl, o_tru_b, o_isi_int_i, o_isi_int_non, o_isi_bool_i, o_isi_list_l, o_gN, o_gT, o_gsNil, o_gsCons, o_cut_l, o_cut_s, tl_len, tl_cons, tl_snoc, enum_tl, wO_some, wR_ok, wR_of, lpQ_nx, lpQ_ct, List.getElem?_cons_zero, List.getElem?_cons_succ, List.set_cons_zero, List.set_cons_succ, List.length_cons, List.length_nil, List.length_map, List.length_range, List.cons_append, List.nil_append, List.replicate, Nat.reduceAdd, Nat.reduceSub, Int.toNat_natCast, decide_eq_true_eq, Bool.not_eq_true, Bool.not_true, Bool.not_false, if_true, Bool.false_eq_true, if_false, true_and, and_true, Int.reduceNeg, Int.reduceLE, Int.reduceLT, Nat.reduceLeDiff, Nat.reduceLT, Int.zero_add, Nat.zero_add, Int.sub_zero, ite_true, ite_false, reduceIte, Bool.not_eq_eq_eq_not]
  have e : (if (T : Int) - 1 < hi then (T : Int) - 1 else hi) = hi := by rw [if_neg (by omega)]
  rw [e]
  refine ⟨by omega, by omega, wF_rng (fun i Γ => ∃ L j1 j2, Γ = [.lst (tl T fun i => il n (F i)), .int lo, .int hi, .int n, .lst L, j1, j2] ∧ L = tl n fun x => .int (sm i fun j => F (lo + j) x)) ⟨_, _, _, rfl, rfl⟩ ?_ ?_⟩
  · rintro i Γ hi ⟨_, j1, j2, rfl, rfl⟩
    simp (disch := omega) only [wE_var, wE_c, wE_bin, wE_un, wA_nil, wA_cons, wE_app, wE_call, wE_tup, wE_lst, wE_if, wE_isi, wE_sl, wR_oNo, wR_oAt, ex_int, ex_bl, ex_lst, ex_par, wB_val, wB_tru, wB_not, wB_and, wB_or, wB_yes, wE_and, wE_or, wE_not, wE_chain, nxQ_nx, nxQ_rt, nxQ_ct, nxQ_bk, wS_nil, wS_seq, wS_bk, wS_ct, wS_exp, wS_asg, wS_ret, wS_if, wS_aug, wS_asgG, wS_par, wS_app, wS_setix, wS_augix, wS_for, wA_seq, wA_rng, wE_lc, o_add_ii, o_add_ll, o_addI_ii, o_subI_ii, o_mul_ii, o_mulI_ii, o_mul_li, o_mulL_li, o_fdiv_ii, o_mod_ii, o_pow_ii, o_neg_i, o_cmp_ii, o_eq_ii, o_ne_ii, o_is_nn, o_is_in, o_not_nn, o_not_in, o_ix_lst, o_ix_tup, o_ix_scr, o_at, o_at_neg, o_set, tl_set, o_rng1, o_rng2, o_seq_lst, o_seq_tup, o_seq_scr, o_enum_lst, o_len_l, o_len_t, o_abs, o_max2, o_min2, o_int_i, o_int_b, o_list_l, o_list_s, o_list_t, o_sum_tl, o_tru_b, o_isi_int_i, o_isi_int_non, o_isi_bool_i, o_isi_list_l, o_gN, o_gT, o_gsNil, o_gsCons, o_cut_l, o_cut_s, tl_len, tl_cons, tl_snoc, enum_tl, wO_some, wR_ok, wR_of, lpQ_nx, lpQ_ct, List.getElem?_cons_zero, List.getElem?_cons_succ, List.set_cons_zero, List.set_cons_succ, List.length_cons, List.length_nil, List.length_map, List.length_range, List.cons_append, List.nil_append, List.replicate, Nat.reduceAdd, Nat.reduceSub, Int.toNat_natCast, decide_eq_true_eq, Bool.not_eq_true, Bool.not_true, Bool.not_false, if_true, Bool.false_eq_true, if_false, true_and, and_true, Int.reduceNeg, Int.reduceLE, Int.reduceLT, Nat.reduceLeDiff, Nat.reduceLT, Int.zero_add, Nat.zero_add, Int.sub_zero, ite_true, ite_false, reduceIte, Bool.not_eq_eq_eq_not]
    refine ⟨by omega, by omega, lc_tl (fun x => .int ((sm i fun j => F (lo + j) x) + F (lo + i) x)) ?_ ?_⟩
    · intro x hx
      simp (disch := omega) only [wE_var, wE_c, wE_bin, wE_un, wA_nil, wA_cons, wE_app, wE_call, wE_tup, wE_lst, wE_if, wE_isi, wE_sl, wR_oNo, wR_oAt, ex_int, ex_bl, ex_lst, ex_par, wB_val, wB_tru, wB_not, wB_and, wB_or, wB_yes, wE_and, wE_or, wE_not, wE_chain, nxQ_nx, nxQ_rt, nxQ_ct, nxQ_bk, wS_nil, wS_seq, wS_bk, wS_ct, wS_exp, wS_asg, wS_ret, wS_if, wS_aug, wS_asgG, wS_par, wS_app, wS_setix, wS_augix, wS_for, wA_seq, wA_rng, wE_lc, o_add_ii, o_add_ll, o_addI_ii, o_subI_ii, o_mul_ii, o_mulI_ii, o_mul_li, o_mulL_li, o_fdiv_ii, o_mod_ii, o_pow_ii, o_neg_i, o_cmp_ii, o_eq_ii, o_ne_ii, o_is_nn, o_is_in, o_not_nn, o_not_in, o_ix_lst, o_ix_tup, o_ix_scr, o_at, o_at_neg, o_set, tl_set, o_rng1, o_rng2, o_seq_lst, o_seq_tup, o_seq_scr, o_enum_lst, o_len_l, o_len_t, o_abs, o_max2, o_min2, o_int_i, o_int_b, o_list_l, o_list_s, o_list_t, o_sum_tl, o_tru_b, o_isi_int_i, o_isi_int_non, o_isi_bool_i, o_isi_list_l, o_gN, o_gT, o_gsNil, o_gsCons, o_cut_l, o_cut_s, tl_len, tl_cons, tl_snoc, enum_tl, wO_some, wR_ok, wR_of, lpQ_nx, lpQ_ct, List.getElem?_cons_zero, List.getElem?_cons_succ, List.set_cons_zero, List.set_cons_succ, List.length_cons, List.length_nil, List.length_map, List.length_range, List.cons_append, List.nil_append, List.replicate, Nat.reduceAdd, Nat.reduceSub, Int.toNat_natCast, decide_eq_true_eq, Bool.not_eq_true, Bool.not_true, Bool.not_false, if_true, Bool.false_eq_true, if_false, true_and, and_true, Int.reduceNeg, Int.reduceLE, Int.reduceLT, Nat.reduceLeDiff, Nat.reduceLT, Int.zero_add, Nat.zero_add, Int.sub_zero, ite_true, ite_false, reduceIte, Bool.not_eq_eq_eq_not]
    · exact ⟨_, _, _, rfl, rfl⟩
  · rintro Γ' ⟨_, j1, j2, rfl, rfl⟩
    simp only [wE_var, wE_c, wE_bin, wE_un, wA_nil, wA_cons, wE_app, wE_call, wE_tup, wE_lst, wE_if, wE_isi, wE_sl, wR_oNo, wR_oAt, ex_int, ex_bl, ex_lst, ex_par, wB_val, wB_tru, wB_not, wB_and, wB_or, wB_yes, wE_and, wE_or, wE_not, wE_chain, nxQ_nx, nxQ_rt, nxQ_ct, nxQ_bk, wS_nil, wS_seq, wS_bk, wS_ct, wS_exp, wS_asg, wS_ret, wS_if, wS_aug, wS_asgG, wS_par, wS_app, wS_setix, wS_augix, wS_for, wA_seq, wA_rng, wE_lc, o_add_ii, o_add_ll, o_addI_ii, o_subI_ii, o_mul_ii, o_mulI_ii, o_mul_li, o_mulL_li, o_fdiv_ii, o_mod_ii, o_pow_ii, o_neg_i, o_cmp_ii, o_eq_ii, o_ne_ii, o_is_nn, o_is_in, o_not_nn, o_not_in, o_ix_lst, o_ix_tup, o_ix_scr, o_at, o_at_neg, o_set, tl_set, o_rng1, o_rng2, o_seq_lst, o_seq_tup, o_seq_scr, o_enum_lst, o_len_l, o_len_t, o_abs, o_max2, o_min2, o_int_i, o_int_b, o_list_l, o_list_s, o_list_t, o_sum_tl, o_tru_b, o_isi_int_i, o_isi_int_non, o_isi_bool_i, o_isi_list_l, o_gN, o_gT, o_gsNil, o_gsCons, o_cut_l, o_cut_s, tl_len, tl_cons, tl_snoc, enum_tl, wO_some, wR_ok, wR_of, lpQ_nx, lpQ_ct, List.getElem?_cons_zero, List.getElem?_cons_succ, List.set_cons_zero, List.set_cons_succ, List.length_cons, List.length_nil, List.length_map, List.length_range, List.cons_append, List.nil_append, List.replicate, Nat.reduceAdd, Nat.reduceSub, Int.toNat_natCast, decide_eq_true_eq, Bool.not_eq_true, Bool.not_true, Bool.not_false, if_true, Bool.false_eq_true, if_false, true_and, and_true, Int.reduceNeg, Int.reduceLE, Int.reduceLT, Nat.reduceLeDiff, Nat.reduceLT, Int.zero_add, Nat.zero_add, Int.sub_zero, ite_true, ite_false, reduceIte, Bool.not_eq_eq_eq_not]
end L2.DL.K20
set_option Elab.async false
set_option linter.all false
set_option maxRecDepth 100000
set_option autoImplicit false
namespace L2.DL.K20
open PySem PySem.Spec PyProof.Rows L2 L2.DL L2.SR
theorem chI_step {n j : Int} (h0 : 0 ≤ j) (h : j ≤ n) : (j + 1) * chI n (j + 1) = (n - j) * chI n j := by
  unfold chI
  have h1 := ch_step (n := n.toNat) (k := j.toNat) (by omega)
  rw [show (j + 1).toNat = j.toNat + 1 by omega]
  have h2 := congrArg (fun z : Nat => (z : Int)) h1
  simp only [Int.natCast_mul, Int.natCast_add] at h2
  rw [show ((n.toNat - j.toNat : Nat) : Int) = n - j by omega, show ((j.toNat : Nat) : Int) = j by omega] at h2
  exact h2
theorem binom_ok (n k : Int) (h0 : 0 ≤ k) (h1 : k ≤ n + 1) (h2 : n ≤ 1000) : m_law_binomial [.int n, .int k] = .ok (.int (chI n k)) := by
  refine m_ok rfl ?_
  unfold b_law_binomial
  simp only [wE_var, wE_c, wE_bin, wE_un, wA_nil, wA_cons, wE_app, wE_call, wE_tup, wE_lst, wE_if, wE_isi, wE_sl, wR_oNo, wR_oAt, ex_int, ex_bl, ex_lst, ex_par, wB_val, wB_tru, wB_not, wB_and, wB_or, wB_yes, wE_and, wE_or, wE_not, wE_chain, nxQ_nx, nxQ_rt, nxQ_ct, nxQ_bk, wS_nil, wS_seq, wS_bk, wS_ct, wS_exp, wS_asg, wS_ret, wS_if, wS_aug, wS_asgG, wS_par, wS_app, wS_setix, wS_augix, wS_for, wA_seq, wA_rng, wE_lc, o_add_ii, o_add_ll, o_addI_ii, o_subI_ii, o_mul_ii, o_mulI_ii, o_mul_li, o_mulL_li, o_fdiv_ii, o_mod_ii, o_pow_ii, o_neg_i, o_cmp_ii, o_eq_ii, o_ne_ii, o_is_nn, o_is_in, o_not_nn, o_not_in, o_ix_lst, o_ix_tup, o_ix_scr, o_at, o_at_neg, o_set, tl_set, o_rng1, o_rng2, o_seq_lst, o_seq_tup, o_seq_scr, o_enum_lst, o_len_l, o_len_t, o_abs, o_max2, o_min2, o_int_i, o_int_b, o_list_l, o_list_s, o_list_t, o_sum_tl, o_tru_b, o_isi_int_i, o_isi_int_non, o_isi_bool_i, o_isi_list_l, o_gN, o_gT, o_gsNil, o_gsCons, o_cut_l, o_cut_s, tl_len, tl_cons, tl_snoc, enum_tl, wO_some, wR_ok, wR_of, lpQ_nx, lpQ_ct, List.getElem?_cons_zero, List.getElem?_cons_succ, List.set_cons_zero, List.set_cons_succ, List.length_cons, List.length_nil, List.length_map, List.length_range, List.cons_append, List.nil_append, List.replicate, Nat.reduceAdd, Nat.reduceSub, Int.toNat_natCast, decide_eq_true_eq, Bool.not_eq_true, Bool.not_true, Bool.not_false, if_true, Bool.false_eq_true, if_false, true_and, and_true, Int.reduceNeg, Int.reduceLE, Int.reduceLT, Nat.reduceLeDiff, Nat.reduceLT, Int.zero_add, Nat.zero_add, Int.sub_zero, ite_true, ite_false, reduceIte, Bool.not_eq_eq_eq_not]
  refine ⟨by omega, wF_rng (fun i Γ => ∃ x j1, Γ = [.int n, .int k, .int x, j1] ∧ x = chI n i) ⟨_, _, rfl, (chI_0 n).symm⟩ ?_ ?_⟩
  · rintro i Γ hi ⟨_, j1, rfl, rfl⟩
    simp (disch := omega) only [wE_var, wE_c, wE_bin, wE_un, wA_nil, wA_cons, wE_app, wE_call, wE_tup, wE_lst, wE_if, wE_isi, wE_sl, wR_oNo, wR_oAt, ex_int, ex_bl, ex_lst, ex_par, wB_val, wB_tru, wB_not, wB_and, wB_or, wB_yes, wE_and, wE_or, wE_not, wE_chain, nxQ_nx, nxQ_rt, nxQ_ct, nxQ_bk, wS_nil, wS_seq, wS_bk, wS_ct, wS_exp, wS_asg, wS_ret, wS_if, wS_aug, wS_asgG, wS_par, wS_app, wS_setix, wS_augix, wS_for, wA_seq, wA_rng, wE_lc, o_add_ii, o_add_ll, o_addI_ii, o_subI_ii, o_mul_ii, o_mulI_ii, o_mul_li, o_mulL_li, o_fdiv_ii, o_mod_ii, o_pow_ii, o_neg_i, o_cmp_ii, o_eq_ii, o_ne_ii, o_is_nn, o_is_in, o_not_nn, o_not_in, o_ix_lst, o_ix_tup, o_ix_scr, o_at, o_at_neg, o_set, tl_set, o_rng1, o_rng2, o_seq_lst, o_seq_tup, o_seq_scr, o_enum_lst, o_len_l, o_len_t, o_abs, o_max2, o_min2, o_int_i, o_int_b, o_list_l, o_list_s, o_list_t, o_sum_tl, o_tru_b, o_isi_int_i, o_isi_int_non, o_isi_bool_i, o_isi_list_l, o_gN, o_gT, o_gsNil, o_gsCons, o_cut_l, o_cut_s, tl_len, tl_cons, tl_snoc, enum_tl, wO_some, wR_ok, wR_of, lpQ_nx, lpQ_ct, List.getElem?_cons_zero, List.getElem?_cons_succ, List.set_cons_zero, List.set_cons_succ, List.length_cons, List.length_nil, List.length_map, List.length_range, List.cons_append, List.nil_append, List.replicate, Nat.reduceAdd, Nat.reduceSub, Int.toNat_natCast, decide_eq_true_eq, Bool.not_eq_true, Bool.not_true, Bool.not_false, if_true, Bool.false_eq_true, if_false, true_and, and_true, Int.reduceNeg, Int.reduceLE, Int.reduceLT, Nat.reduceLeDiff, Nat.reduceLT, Int.zero_add, Nat.zero_add, Int.sub_zero, ite_true, ite_false, reduceIte, Bool.not_eq_eq_eq_not]
    refine ⟨.inr (by omega), by omega, _, _, rfl, ?_⟩
    rw [Int.mul_comm, ← chI_step (by omega) (by omega), Int.mul_comm, Int.mul_ediv_cancel _ (by omega)]
    rfl
  · rintro Γ' ⟨_, j1, rfl, rfl⟩
    simp only [wE_var, wE_c, wE_bin, wE_un, wA_nil, wA_cons, wE_app, wE_call, wE_tup, wE_lst, wE_if, wE_isi, wE_sl, wR_oNo, wR_oAt, ex_int, ex_bl, ex_lst, ex_par, wB_val, wB_tru, wB_not, wB_and, wB_or, wB_yes, wE_and, wE_or, wE_not, wE_chain, nxQ_nx, nxQ_rt, nxQ_ct, nxQ_bk, wS_nil, wS_seq, wS_bk, wS_ct, wS_exp, wS_asg, wS_ret, wS_if, wS_aug, wS_asgG, wS_par, wS_app, wS_setix, wS_augix, wS_for, wA_seq, wA_rng, wE_lc, o_add_ii, o_add_ll, o_addI_ii, o_subI_ii, o_mul_ii, o_mulI_ii, o_mul_li, o_mulL_li, o_fdiv_ii, o_mod_ii, o_pow_ii, o_neg_i, o_cmp_ii, o_eq_ii, o_ne_ii, o_is_nn, o_is_in, o_not_nn, o_not_in, o_ix_lst, o_ix_tup, o_ix_scr, o_at, o_at_neg, o_set, tl_set, o_rng1, o_rng2, o_seq_lst, o_seq_tup, o_seq_scr, o_enum_lst, o_len_l, o_len_t, o_abs, o_max2, o_min2, o_int_i, o_int_b, o_list_l, o_list_s, o_list_t, o_sum_tl, o_tru_b, o_isi_int_i, o_isi_int_non, o_isi_bool_i, o_isi_list_l, o_gN, o_gT, o_gsNil, o_gsCons, o_cut_l, o_cut_s, tl_len, tl_cons, tl_snoc, enum_tl, wO_some, wR_ok, wR_of, lpQ_nx, lpQ_ct, List.getElem?_cons_zero, List.getElem?_cons_succ, List.set_cons_zero, List.set_cons_succ, List.length_cons, List.length_nil, List.length_map, List.length_range, List.cons_append, List.nil_append, List.replicate, Nat.reduceAdd, Nat.reduceSub, Int.toNat_natCast, decide_eq_true_eq, Bool.not_eq_true, Bool.not_true, Bool.not_false, if_true, Bool.false_eq_true, if_false, true_and, and_true, Int.reduceNeg, Int.reduceLE, Int.reduceLT, Nat.reduceLeDiff, Nat.reduceLT, Int.zero_add, Nat.zero_add, Int.sub_zero, ite_true, ite_false, reduceIte, Bool.not_eq_eq_eq_not]
    rw [show ((k.toNat : Nat) : Int) = k by omega]
/-- the law's rows -/
def lrN (l : Bool) (f : Int → Int) : Nat → Int → Int
  | 0 => u1
  | k + 1 => cv l f (lrN l f k)
theorem rows_ok (n : Nat) (m : Int) (l : Bool) (f : Int → Int) (hn : 1 ≤ n) (hn2 : n ≤ 60) (hm : m ≤ 1000) (hm0 : 0 ≤ m) (hs : small f) : m_law_rows [il n f, .int m, .bl l] = .ok (il n (lrN l f m.toNat)) := by
  refine m_ok rfl ?_
  unfold b_law_rows
  simp only [wE_var, wE_c, wE_bin, wE_un, wA_nil, wA_cons, wE_app, wE_call, wE_tup, wE_lst, wE_if, wE_isi, wE_sl, wR_oNo, wR_oAt, ex_int, ex_bl, ex_lst, ex_par, wB_val, wB_tru, wB_not, wB_and, wB_or, wB_yes, wE_and, wE_or, wE_not, wE_chain, nxQ_nx, nxQ_rt, nxQ_ct, nxQ_bk, wS_nil, wS_seq, wS_bk, wS_ct, wS_exp, wS_asg, wS_ret, wS_if, wS_aug, wS_asgG, wS_par, wS_app, wS_setix, wS_augix, wS_for, wA_seq, wA_rng, wE_lc, o_add_ii, o_add_ll, o_addI_ii, o_subI_ii, o_mul_ii, o_mulI_ii, o_mul_li, o_mulL_li, o_fdiv_ii, o_mod_ii, o_pow_ii, o_neg_i, o_cmp_ii, o_eq_ii, o_ne_ii, o_is_nn, o_is_in, o_not_nn, o_not_in, o_ix_lst, o_ix_tup, o_ix_scr, o_at, o_at_neg, o_set, tl_set, o_rng1, o_rng2, o_seq_lst, o_seq_tup, o_seq_scr, o_enum_lst, o_len_l, o_len_t, o_abs, o_max2, o_min2, o_int_i, o_int_b, o_list_l, o_list_s, o_list_t, o_sum_tl, o_tru_b, o_isi_int_i, o_isi_int_non, o_isi_bool_i, o_isi_list_l, o_gN, o_gT, o_gsNil, o_gsCons, o_cut_l, o_cut_s, tl_len, tl_cons, tl_snoc, enum_tl, wO_some, wR_ok, wR_of, lpQ_nx, lpQ_ct, List.getElem?_cons_zero, List.getElem?_cons_succ, List.set_cons_zero, List.set_cons_succ, List.length_cons, List.length_nil, List.length_map, List.length_range, List.cons_append, List.nil_append, List.replicate, Nat.reduceAdd, Nat.reduceSub, Int.toNat_natCast, decide_eq_true_eq, Bool.not_eq_true, Bool.not_true, Bool.not_false, if_true, Bool.false_eq_true, if_false, true_and, and_true, Int.reduceNeg, Int.reduceLE, Int.reduceLT, Nat.reduceLeDiff, Nat.reduceLT, Int.zero_add, Nat.zero_add, Int.sub_zero, ite_true, ite_false, reduceIte, Bool.not_eq_eq_eq_not]
  rw [show ((n : Int) - 1).toNat + 1 = n by omega]
  refine ⟨by omega, by omega, by omega, wF_rng (fun i Γ => ∃ L j1 j2 j3 j4 j5, Γ = [il n f, .int m, .bl l, .lst L, j1, j2, j3, j4, j5] ∧ L = tl n fun x => .int (lrN l f i x)) ⟨_, _, _, _, _, _, rfl, ?_⟩ ?_ ?_⟩
  · refine tl_congr fun x _ _ => ?_
    rw [lrN, u1]
    split <;> rfl
  · rintro i Γ hi ⟨_, j1, j2, j3, j4, j5, rfl, rfl⟩
    simp (disch := omega) only [wE_var, wE_c, wE_bin, wE_un, wA_nil, wA_cons, wE_app, wE_call, wE_tup, wE_lst, wE_if, wE_isi, wE_sl, wR_oNo, wR_oAt, ex_int, ex_bl, ex_lst, ex_par, wB_val, wB_tru, wB_not, wB_and, wB_or, wB_yes, wE_and, wE_or, wE_not, wE_chain, nxQ_nx, nxQ_rt, nxQ_ct, nxQ_bk, wS_nil, wS_seq, wS_bk, wS_ct, wS_exp, wS_asg, wS_ret, wS_if, wS_aug, wS_asgG, wS_par, wS_app, wS_setix, wS_augix, wS_for, wA_seq, wA_rng, wE_lc, o_add_ii, o_add_ll, o_addI_ii, o_subI_ii, o_mul_ii, o_mulI_ii, o_mul_li, o_mulL_li, o_fdiv_ii, o_mod_ii, o_pow_ii, o_neg_i, o_cmp_ii, o_eq_ii, o_ne_ii, o_is_nn, o_is_in, o_not_nn, o_not_in, o_ix_lst, o_ix_tup, o_ix_scr, o_at, o_at_neg, o_set, tl_set, o_rng1, o_rng2, o_seq_lst, o_seq_tup, o_seq_scr, o_enum_lst, o_len_l, o_len_t, o_abs, o_max2, o_min2, o_int_i, o_int_b, o_list_l, o_list_s, o_list_t, o_sum_tl, o_tru_b, o_isi_int_i, o_isi_int_non, o_isi_bool_i, o_isi_list_l, o_gN, o_gT, o_gsNil, o_gsCons, o_cut_l, o_cut_s, tl_len, tl_cons, tl_snoc, enum_tl, wO_some, wR_ok, wR_of, lpQ_nx, lpQ_ct, List.getElem?_cons_zero, List.getElem?_cons_succ, List.set_cons_zero, List.set_cons_succ, List.length_cons, List.length_nil, List.length_map, List.length_range, List.cons_append, List.nil_append, List.replicate, Nat.reduceAdd, Nat.reduceSub, Int.toNat_natCast, decide_eq_true_eq, Bool.not_eq_true, Bool.not_true, Bool.not_false, if_true, Bool.false_eq_true, if_false, true_and, and_true, Int.reduceNeg, Int.reduceLE, Int.reduceLT, Nat.reduceLeDiff, Nat.reduceLT, Int.zero_add, Nat.zero_add, Int.sub_zero, ite_true, ite_false, reduceIte, Bool.not_eq_eq_eq_not]
    refine ⟨by omega, wF_rng (fun x Γ => ∃ L j3 j4 j5, Γ = [il n f, .int m, .bl l, il n (lrN l f i), .int i, .lst L, j3, j4, j5] ∧ L = tl x fun x => .int (lrN l f (i + 1) x)) ⟨_, _, _, _, rfl, rfl⟩ ?_ ?_⟩
    · rintro x Γ hx ⟨_, j3, j4, j5, rfl, rfl⟩
      simp (disch := omega) only [wE_var, wE_c, wE_bin, wE_un, wA_nil, wA_cons, wE_app, wE_call, wE_tup, wE_lst, wE_if, wE_isi, wE_sl, wR_oNo, wR_oAt, ex_int, ex_bl, ex_lst, ex_par, wB_val, wB_tru, wB_not, wB_and, wB_or, wB_yes, wE_and, wE_or, wE_not, wE_chain, nxQ_nx, nxQ_rt, nxQ_ct, nxQ_bk, wS_nil, wS_seq, wS_bk, wS_ct, wS_exp, wS_asg, wS_ret, wS_if, wS_aug, wS_asgG, wS_par, wS_app, wS_setix, wS_augix, wS_for, wA_seq, wA_rng, wE_lc, o_add_ii, o_add_ll, o_addI_ii, o_subI_ii, o_mul_ii, o_mulI_ii, o_mul_li, o_mulL_li, o_fdiv_ii, o_mod_ii, o_pow_ii, o_neg_i, o_cmp_ii, o_eq_ii, o_ne_ii, o_is_nn, o_is_in, o_not_nn, o_not_in, o_ix_lst, o_ix_tup, o_ix_scr, o_at, o_at_neg, o_set, tl_set, o_rng1, o_rng2, o_seq_lst, o_seq_tup, o_seq_scr, o_enum_lst, o_len_l, o_len_t, o_abs, o_max2, o_min2, o_int_i, o_int_b, o_list_l, o_list_s, o_list_t, o_sum_tl, o_tru_b, o_isi_int_i, o_isi_int_non, o_isi_bool_i, o_isi_list_l, o_gN, o_gT, o_gsNil, o_gsCons, o_cut_l, o_cut_s, tl_len, tl_cons, tl_snoc, enum_tl, wO_some, wR_ok, wR_of, lpQ_nx, lpQ_ct, List.getElem?_cons_zero, List.getElem?_cons_succ, List.set_cons_zero, List.set_cons_succ, List.length_cons, List.length_nil, List.length_map, List.length_range, List.cons_append, List.nil_append, List.replicate, Nat.reduceAdd, Nat.reduceSub, Int.toNat_natCast, decide_eq_true_eq, Bool.not_eq_true, Bool.not_true, Bool.not_false, if_true, Bool.false_eq_true, if_false, true_and, and_true, Int.reduceNeg, Int.reduceLE, Int.reduceLT, Nat.reduceLeDiff, Nat.reduceLT, Int.zero_add, Nat.zero_add, Int.sub_zero, ite_true, ite_false, reduceIte, Bool.not_eq_eq_eq_not]
      refine ⟨by omega, wF_rng (fun k Γ => ∃ t j5, Γ = [il n f, .int m, .bl l, il n (lrN l f i), .int i, .lst (tl x fun x => .int (lrN l f (i + 1) x)), .int x, .int t, j5] ∧ t = sm k fun k => f k * lrN l f i (x - k) * wt l x k) ⟨_, _, rfl, rfl⟩ ?_ ?_⟩
      · rintro k Γ hk ⟨_, j5, rfl, rfl⟩
        have hw : mOk (f k * lrN l f i (x - k)) (chI x k) := .inr (by have := wt_small (l := true) (n := x) (k := k) (by omega); simpa [wt] using this)
        simp (disch := omega) only [wE_var, wE_c, wE_bin, wE_un, wA_nil, wA_cons, wE_app, wE_call, wE_tup, wE_lst, wE_if, wE_isi, wE_sl, wR_oNo, wR_oAt, ex_int, ex_bl, ex_lst, ex_par, wB_val, wB_tru, wB_not, wB_and, wB_or, wB_yes, wE_and, wE_or, wE_not, wE_chain, nxQ_nx, nxQ_rt, nxQ_ct, nxQ_bk, wS_nil, wS_seq, wS_bk, wS_ct, wS_exp, wS_asg, wS_ret, wS_if, wS_aug, wS_asgG, wS_par, wS_app, wS_setix, wS_augix, wS_for, wA_seq, wA_rng, wE_lc, o_add_ii, o_add_ll, o_addI_ii, o_subI_ii, o_mul_ii, o_mulI_ii, o_mul_li, o_mulL_li, o_fdiv_ii, o_mod_ii, o_pow_ii, o_neg_i, o_cmp_ii, o_eq_ii, o_ne_ii, o_is_nn, o_is_in, o_not_nn, o_not_in, o_ix_lst, o_ix_tup, o_ix_scr, o_at, o_at_neg, o_set, tl_set, o_rng1, o_rng2, o_seq_lst, o_seq_tup, o_seq_scr, o_enum_lst, o_len_l, o_len_t, o_abs, o_max2, o_min2, o_int_i, o_int_b, o_list_l, o_list_s, o_list_t, o_sum_tl, o_tru_b, o_isi_int_i, o_isi_int_non, o_isi_bool_i, o_isi_list_l, o_gN, o_gT, o_gsNil, o_gsCons, o_cut_l, o_cut_s, tl_len, tl_cons, tl_snoc, enum_tl, wO_some, wR_ok, wR_of, lpQ_nx, lpQ_ct, List.getElem?_cons_zero, List.getElem?_cons_succ, List.set_cons_zero, List.set_cons_succ, List.length_cons, List.length_nil, List.length_map, List.length_range, List.cons_append, List.nil_append, List.replicate, Nat.reduceAdd, Nat.reduceSub, Int.toNat_natCast, decide_eq_true_eq, Bool.not_eq_true, Bool.not_true, Bool.not_false, if_true, Bool.false_eq_true, if_false, true_and, and_true, Int.reduceNeg, Int.reduceLE, Int.reduceLT, Nat.reduceLeDiff, Nat.reduceLT, Int.zero_add, Nat.zero_add, Int.sub_zero, ite_true, ite_false, reduceIte, Bool.not_eq_eq_eq_not, binom_ok x k (by omega) (by omega) (by omega)]
        refine ⟨.inl (hs _), ?_⟩
        cases l with
        | false =>
          simp (disch := omega) only [wE_var, wE_c, wE_bin, wE_un, wA_nil, wA_cons, wE_app, wE_call, wE_tup, wE_lst, wE_if, wE_isi, wE_sl, wR_oNo, wR_oAt, ex_int, ex_bl, ex_lst, ex_par, wB_val, wB_tru, wB_not, wB_and, wB_or, wB_yes, wE_and, wE_or, wE_not, wE_chain, nxQ_nx, nxQ_rt, nxQ_ct, nxQ_bk, wS_nil, wS_seq, wS_bk, wS_ct, wS_exp, wS_asg, wS_ret, wS_if, wS_aug, wS_asgG, wS_par, wS_app, wS_setix, wS_augix, wS_for, wA_seq, wA_rng, wE_lc, o_add_ii, o_add_ll, o_addI_ii, o_subI_ii, o_mul_ii, o_mulI_ii, o_mul_li, o_mulL_li, o_fdiv_ii, o_mod_ii, o_pow_ii, o_neg_i, o_cmp_ii, o_eq_ii, o_ne_ii, o_is_nn, o_is_in, o_not_nn, o_not_in, o_ix_lst, o_ix_tup, o_ix_scr, o_at, o_at_neg, o_set, tl_set, o_rng1, o_rng2, o_seq_lst, o_seq_tup, o_seq_scr, o_enum_lst, o_len_l, o_len_t, o_abs, o_max2, o_min2, o_int_i, o_int_b, o_list_l, o_list_s, o_list_t, o_sum_tl, o_tru_b, o_isi_int_i, o_isi_int_non, o_isi_bool_i, o_isi_list_l, o_gN, o_gT, o_gsNil, o_gsCons, o_cut_l, o_cut_s, tl_len, tl_cons, tl_snoc, enum_tl, wO_some, wR_ok, wR_of, lpQ_nx, lpQ_ct, List.getElem?_cons_zero, List.getElem?_cons_succ, List.set_cons_zero, List.set_cons_succ, List.length_cons, List.length_nil, List.length_map, List.length_range, List.cons_append, List.nil_append, List.replicate, Nat.reduceAdd, Nat.reduceSub, Int.toNat_natCast, decide_eq_true_eq, Bool.not_eq_true, Bool.not_true, Bool.not_false, if_true, Bool.false_eq_true, if_false, true_and, and_true, Int.reduceNeg, Int.reduceLE, Int.reduceLT, Nat.reduceLeDiff, Nat.reduceLT, Int.zero_add, Nat.zero_add, Int.sub_zero, ite_true, ite_false, reduceIte, Bool.not_eq_eq_eq_not]
          exact ⟨.inr (by decide), _, _, rfl, by rw [sm, wt]; simp⟩
        | true =>
          simp (disch := omega) only [wE_var, wE_c, wE_bin, wE_un, wA_nil, wA_cons, wE_app, wE_call, wE_tup, wE_lst, wE_if, wE_isi, wE_sl, wR_oNo, wR_oAt, ex_int, ex_bl, ex_lst, ex_par, wB_val, wB_tru, wB_not, wB_and, wB_or, wB_yes, wE_and, wE_or, wE_not, wE_chain, nxQ_nx, nxQ_rt, nxQ_ct, nxQ_bk, wS_nil, wS_seq, wS_bk, wS_ct, wS_exp, wS_asg, wS_ret, wS_if, wS_aug, wS_asgG, wS_par, wS_app, wS_setix, wS_augix, wS_for, wA_seq, wA_rng, wE_lc, o_add_ii, o_add_ll, o_addI_ii, o_subI_ii, o_mul_ii, o_mulI_ii, o_mul_li, o_mulL_li, o_fdiv_ii, o_mod_ii, o_pow_ii, o_neg_i, o_cmp_ii, o_eq_ii, o_ne_ii, o_is_nn, o_is_in, o_not_nn, o_not_in, o_ix_lst, o_ix_tup, o_ix_scr, o_at, o_at_neg, o_set, tl_set, o_rng1, o_rng2, o_seq_lst, o_seq_tup, o_seq_scr, o_enum_lst, o_len_l, o_len_t, o_abs, o_max2, o_min2, o_int_i, o_int_b, o_list_l, o_list_s, o_list_t, o_sum_tl, o_tru_b, o_isi_int_i, o_isi_int_non, o_isi_bool_i, o_isi_list_l, o_gN, o_gT, o_gsNil, o_gsCons, o_cut_l, o_cut_s, tl_len, tl_cons, tl_snoc, enum_tl, wO_some, wR_ok, wR_of, lpQ_nx, lpQ_ct, List.getElem?_cons_zero, List.getElem?_cons_succ, List.set_cons_zero, List.set_cons_succ, List.length_cons, List.length_nil, List.length_map, List.length_range, List.cons_append, List.nil_append, List.replicate, Nat.reduceAdd, Nat.reduceSub, Int.toNat_natCast, decide_eq_true_eq, Bool.not_eq_true, Bool.not_true, Bool.not_false, if_true, Bool.false_eq_true, if_false, true_and, and_true, Int.reduceNeg, Int.reduceLE, Int.reduceLT, Nat.reduceLeDiff, Nat.reduceLT, Int.zero_add, Nat.zero_add, Int.sub_zero, ite_true, ite_false, reduceIte, Bool.not_eq_eq_eq_not]
          exact ⟨hw, _, _, rfl, by rw [sm, wt]; simp⟩
      · rintro Γ' ⟨_, j5, rfl, rfl⟩
        simp only [wE_var, wE_c, wE_bin, wE_un, wA_nil, wA_cons, wE_app, wE_call, wE_tup, wE_lst, wE_if, wE_isi, wE_sl, wR_oNo, wR_oAt, ex_int, ex_bl, ex_lst, ex_par, wB_val, wB_tru, wB_not, wB_and, wB_or, wB_yes, wE_and, wE_or, wE_not, wE_chain, nxQ_nx, nxQ_rt, nxQ_ct, nxQ_bk, wS_nil, wS_seq, wS_bk, wS_ct, wS_exp, wS_asg, wS_ret, wS_if, wS_aug, wS_asgG, wS_par, wS_app, wS_setix, wS_augix, wS_for, wA_seq, wA_rng, wE_lc, o_add_ii, o_add_ll, o_addI_ii, o_subI_ii, o_mul_ii, o_mulI_ii, o_mul_li, o_mulL_li, o_fdiv_ii, o_mod_ii, o_pow_ii, o_neg_i, o_cmp_ii, o_eq_ii, o_ne_ii, o_is_nn, o_is_in, o_not_nn, o_not_in, o_ix_lst, o_ix_tup, o_ix_scr, o_at, o_at_neg, o_set, tl_set, o_rng1, o_rng2, o_seq_lst, o_seq_tup, o_seq_scr, o_enum_lst, o_len_l, o_len_t, o_abs, o_max2, o_min2, o_int_i, o_int_b, o_list_l, o_list_s, o_list_t, o_sum_tl, o_tru_b, o_isi_int_i, o_isi_int_non, o_isi_bool_i, o_isi_list_l, o_gN, o_gT, o_gsNil, o_gsCons, o_cut_l, o_cut_s, tl_len, tl_cons, tl_snoc, enum_tl, wO_some, wR_ok, wR_of, lpQ_nx, lpQ_ct, List.getElem?_cons_zero, List.getElem?_cons_succ, List.set_cons_zero, List.set_cons_succ, List.length_cons, List.length_nil, List.length_map, List.length_range, List.cons_append, List.nil_append, List.replicate, Nat.reduceAdd, Nat.reduceSub, Int.toNat_natCast, decide_eq_true_eq, Bool.not_eq_true, Bool.not_true, Bool.not_false, if_true, Bool.false_eq_true, if_false, true_and, and_true, Int.reduceNeg, Int.reduceLE, Int.reduceLT, Nat.reduceLeDiff, Nat.reduceLT, Int.zero_add, Nat.zero_add, Int.sub_zero, ite_true, ite_false, reduceIte, Bool.not_eq_eq_eq_not]
        refine ⟨by omega, _, _, _, _, rfl, tl_congr fun y h0 h1 => ?_⟩
        by_cases hy : y = x
        · subst hy
          rw [if_pos rfl, lrN, cv]
        · rw [if_neg hy]
    · rintro Γ' ⟨_, j3, j4, j5, rfl, rfl⟩
      simp only [wE_var, wE_c, wE_bin, wE_un, wA_nil, wA_cons, wE_app, wE_call, wE_tup, wE_lst, wE_if, wE_isi, wE_sl, wR_oNo, wR_oAt, ex_int, ex_bl, ex_lst, ex_par, wB_val, wB_tru, wB_not, wB_and, wB_or, wB_yes, wE_and, wE_or, wE_not, wE_chain, nxQ_nx, nxQ_rt, nxQ_ct, nxQ_bk, wS_nil, wS_seq, wS_bk, wS_ct, wS_exp, wS_asg, wS_ret, wS_if, wS_aug, wS_asgG, wS_par, wS_app, wS_setix, wS_augix, wS_for, wA_seq, wA_rng, wE_lc, o_add_ii, o_add_ll, o_addI_ii, o_subI_ii, o_mul_ii, o_mulI_ii, o_mul_li, o_mulL_li, o_fdiv_ii, o_mod_ii, o_pow_ii, o_neg_i, o_cmp_ii, o_eq_ii, o_ne_ii, o_is_nn, o_is_in, o_not_nn, o_not_in, o_ix_lst, o_ix_tup, o_ix_scr, o_at, o_at_neg, o_set, tl_set, o_rng1, o_rng2, o_seq_lst, o_seq_tup, o_seq_scr, o_enum_lst, o_len_l, o_len_t, o_abs, o_max2, o_min2, o_int_i, o_int_b, o_list_l, o_list_s, o_list_t, o_sum_tl, o_tru_b, o_isi_int_i, o_isi_int_non, o_isi_bool_i, o_isi_list_l, o_gN, o_gT, o_gsNil, o_gsCons, o_cut_l, o_cut_s, tl_len, tl_cons, tl_snoc, enum_tl, wO_some, wR_ok, wR_of, lpQ_nx, lpQ_ct, List.getElem?_cons_zero, List.getElem?_cons_succ, List.set_cons_zero, List.set_cons_succ, List.length_cons, List.length_nil, List.length_map, List.length_range, List.cons_append, List.nil_append, List.replicate, Nat.reduceAdd, Nat.reduceSub, Int.toNat_natCast, decide_eq_true_eq, Bool.not_eq_true, Bool.not_true, Bool.not_false, if_true, Bool.false_eq_true, if_false, true_and, and_true, Int.reduceNeg, Int.reduceLE, Int.reduceLT, Nat.reduceLeDiff, Nat.reduceLT, Int.zero_add, Nat.zero_add, Int.sub_zero, ite_true, ite_false, reduceIte, Bool.not_eq_eq_eq_not]
      exact ⟨_, _, _, _, _, _, rfl, rfl⟩
  · rintro Γ' ⟨_, j1, j2, j3, j4, j5, rfl, rfl⟩
    simp only [wE_var, wE_c, wE_bin, wE_un, wA_nil, wA_cons, wE_app, wE_call, wE_tup, wE_lst, wE_if, wE_isi, wE_sl, wR_oNo, wR_oAt, ex_int, ex_bl, ex_lst, ex_par, wB_val, wB_tru, wB_not, wB_and, wB_or, wB_yes, wE_and, wE_or, wE_not, wE_chain, nxQ_nx, nxQ_rt, nxQ_ct, nxQ_bk, wS_nil, wS_seq, wS_bk, wS_ct, wS_exp, wS_asg, wS_ret, wS_if, wS_aug, wS_asgG, wS_par, wS_app, wS_setix, wS_augix, wS_for, wA_seq, wA_rng, wE_lc, o_add_ii, o_add_ll, o_addI_ii, o_subI_ii, o_mul_ii, o_mulI_ii, o_mul_li, o_mulL_li, o_fdiv_ii, o_mod_ii, o_pow_ii, o_neg_i, o_cmp_ii, o_eq_ii, o_ne_ii, o_is_nn, o_is_in, o_not_nn, o_not_in, o_ix_lst, o_ix_tup, o_ix_scr, o_at, o_at_neg, o_set, tl_set, o_rng1, o_rng2, o_seq_lst, o_seq_tup, o_seq_scr, o_enum_lst, o_len_l, o_len_t, o_abs, o_max2, o_min2, o_int_i, o_int_b, o_list_l, o_list_s, o_list_t, o_sum_tl, o_tru_b, o_isi_int_i, o_isi_int_non, o_isi_bool_i, o_isi_list_l, o_gN, o_gT, o_gsNil, o_gsCons, o_cut_l, o_cut_s, tl_len, tl_cons, tl_snoc, enum_tl, wO_some, wR_ok, wR_of, lpQ_nx, lpQ_ct, List.getElem?_cons_zero, List.getElem?_cons_succ, List.set_cons_zero, List.set_cons_succ, List.length_cons, List.length_nil, List.length_map, List.length_range, List.cons_append, List.nil_append, List.replicate, Nat.reduceAdd, Nat.reduceSub, Int.toNat_natCast, decide_eq_true_eq, Bool.not_eq_true, Bool.not_true, Bool.not_false, if_true, Bool.false_eq_true, if_false, true_and, and_true, Int.reduceNeg, Int.reduceLE, Int.reduceLT, Nat.reduceLeDiff, Nat.reduceLT, Int.zero_add, Nat.zero_add, Int.sub_zero, ite_true, ite_false, reduceIte, Bool.not_eq_eq_eq_not]
/-- one more, begun with the least point's -/
def bg (a r : Int → Int) (x : Int) : Int := if x = 0 then 0 else sm x.toNat fun j => chI (x - 1) j * a (1 + j) * r (x - (1 + j))
theorem bg_ok (n : Nat) (a r : Int → Int) (hn : 1 ≤ n) (hn2 : n ≤ 60) (hs : ∀ x k, x ≤ 60 → mOk (chI x k) (a (1 + k)) ∧ ∀ y, mOk (chI x k * a (1 + k)) (r y)) : m_law_begun [il n a, il n r] = .ok (il n (bg a r)) := by
  refine m_ok rfl ?_
  unfold b_law_begun
  simp only [wE_var, wE_c, wE_bin, wE_un, wA_nil, wA_cons, wE_app, wE_call, wE_tup, wE_lst, wE_if, wE_isi, wE_sl, wR_oNo, wR_oAt, ex_int, ex_bl, ex_lst, ex_par, wB_val, wB_tru, wB_not, wB_and, wB_or, wB_yes, wE_and, wE_or, wE_not, wE_chain, nxQ_nx, nxQ_rt, nxQ_ct, nxQ_bk, wS_nil, wS_seq, wS_bk, wS_ct, wS_exp, wS_asg, wS_ret, wS_if, wS_aug, wS_asgG, wS_par, wS_app, wS_setix, wS_augix, wS_for, wA_seq, wA_rng, wE_lc, o_add_ii, o_add_ll, o_addI_ii, o_subI_ii, o_mul_ii, o_mulI_ii, o_mul_li, o_mulL_li, o_fdiv_ii, o_mod_ii, o_pow_ii, o_neg_i, o_cmp_ii, o_eq_ii, o_ne_ii, o_is_nn, o_is_in, o_not_nn, o_not_in, o_ix_lst, o_ix_tup, o_ix_scr, o_at, o_at_neg, o_set, tl_set, o_rng1, o_rng2, o_seq_lst, o_seq_tup, o_seq_scr, o_enum_lst, o_len_l, o_len_t, o_abs, o_max2, o_min2, o_int_i, o_int_b, o_list_l, o_list_s, o_list_t, o_sum_tl, o_tru_b, o_isi_int_i, o_isi_int_non, o_isi_bool_i, o_isi_list_l, o_gN, o_gT, o_gsNil, o_gsCons, o_cut_l, o_cut_s, tl_len, tl_cons, tl_snoc, enum_tl, wO_some, wR_ok, wR_of, lpQ_nx, lpQ_ct, List.getElem?_cons_zero, List.getElem?_cons_succ, List.set_cons_zero, List.set_cons_succ, List.length_cons, List.length_nil, List.length_map, List.length_range, List.cons_append, List.nil_append, List.replicate, Nat.reduceAdd, Nat.reduceSub, Int.toNat_natCast, decide_eq_true_eq, Bool.not_eq_true, Bool.not_true, Bool.not_false, if_true, Bool.false_eq_true, if_false, true_and, and_true, Int.reduceNeg, Int.reduceLE, Int.reduceLT, Nat.reduceLeDiff, Nat.reduceLT, Int.zero_add, Nat.zero_add, Int.sub_zero, ite_true, ite_false, reduceIte, Bool.not_eq_eq_eq_not]
  refine ⟨by omega, by omega, wF_rng (fun i Γ => ∃ L j1 j2, Γ = [il n a, il n r, .lst L, j1, j2] ∧ L = tl n fun x => .int (if x ≤ i then bg a r x else 0)) ⟨_, _, _, rfl, ?_⟩ ?_ ?_⟩
  · refine tl_congr fun x _ _ => ?_
    split
    · rw [bg, if_pos (by omega)]
    · rfl
  · rintro i Γ hi ⟨_, j1, j2, rfl, rfl⟩
    simp (disch := omega) only [wE_var, wE_c, wE_bin, wE_un, wA_nil, wA_cons, wE_app, wE_call, wE_tup, wE_lst, wE_if, wE_isi, wE_sl, wR_oNo, wR_oAt, ex_int, ex_bl, ex_lst, ex_par, wB_val, wB_tru, wB_not, wB_and, wB_or, wB_yes, wE_and, wE_or, wE_not, wE_chain, nxQ_nx, nxQ_rt, nxQ_ct, nxQ_bk, wS_nil, wS_seq, wS_bk, wS_ct, wS_exp, wS_asg, wS_ret, wS_if, wS_aug, wS_asgG, wS_par, wS_app, wS_setix, wS_augix, wS_for, wA_seq, wA_rng, wE_lc, o_add_ii, o_add_ll, o_addI_ii, o_subI_ii, o_mul_ii, o_mulI_ii, o_mul_li, o_mulL_li, o_fdiv_ii, o_mod_ii, o_pow_ii, o_neg_i, o_cmp_ii, o_eq_ii, o_ne_ii, o_is_nn, o_is_in, o_not_nn, o_not_in, o_ix_lst, o_ix_tup, o_ix_scr, o_at, o_at_neg, o_set, tl_set, o_rng1, o_rng2, o_seq_lst, o_seq_tup, o_seq_scr, o_enum_lst, o_len_l, o_len_t, o_abs, o_max2, o_min2, o_int_i, o_int_b, o_list_l, o_list_s, o_list_t, o_sum_tl, o_tru_b, o_isi_int_i, o_isi_int_non, o_isi_bool_i, o_isi_list_l, o_gN, o_gT, o_gsNil, o_gsCons, o_cut_l, o_cut_s, tl_len, tl_cons, tl_snoc, enum_tl, wO_some, wR_ok, wR_of, lpQ_nx, lpQ_ct, List.getElem?_cons_zero, List.getElem?_cons_succ, List.set_cons_zero, List.set_cons_succ, List.length_cons, List.length_nil, List.length_map, List.length_range, List.cons_append, List.nil_append, List.replicate, Nat.reduceAdd, Nat.reduceSub, Int.toNat_natCast, decide_eq_true_eq, Bool.not_eq_true, Bool.not_true, Bool.not_false, if_true, Bool.false_eq_true, if_false, true_and, and_true, Int.reduceNeg, Int.reduceLE, Int.reduceLT, Nat.reduceLeDiff, Nat.reduceLT, Int.zero_add, Nat.zero_add, Int.sub_zero, ite_true, ite_false, reduceIte, Bool.not_eq_eq_eq_not]
    refine ⟨by omega, by omega, lc_tl (fun j => .int (chI (1 + i - 1) j * a (1 + j) * r (1 + i - (1 + j)))) ?_ ?_⟩
    · intro k hk
      simp (disch := omega) only [wE_var, wE_c, wE_bin, wE_un, wA_nil, wA_cons, wE_app, wE_call, wE_tup, wE_lst, wE_if, wE_isi, wE_sl, wR_oNo, wR_oAt, ex_int, ex_bl, ex_lst, ex_par, wB_val, wB_tru, wB_not, wB_and, wB_or, wB_yes, wE_and, wE_or, wE_not, wE_chain, nxQ_nx, nxQ_rt, nxQ_ct, nxQ_bk, wS_nil, wS_seq, wS_bk, wS_ct, wS_exp, wS_asg, wS_ret, wS_if, wS_aug, wS_asgG, wS_par, wS_app, wS_setix, wS_augix, wS_for, wA_seq, wA_rng, wE_lc, o_add_ii, o_add_ll, o_addI_ii, o_subI_ii, o_mul_ii, o_mulI_ii, o_mul_li, o_mulL_li, o_fdiv_ii, o_mod_ii, o_pow_ii, o_neg_i, o_cmp_ii, o_eq_ii, o_ne_ii, o_is_nn, o_is_in, o_not_nn, o_not_in, o_ix_lst, o_ix_tup, o_ix_scr, o_at, o_at_neg, o_set, tl_set, o_rng1, o_rng2, o_seq_lst, o_seq_tup, o_seq_scr, o_enum_lst, o_len_l, o_len_t, o_abs, o_max2, o_min2, o_int_i, o_int_b, o_list_l, o_list_s, o_list_t, o_sum_tl, o_tru_b, o_isi_int_i, o_isi_int_non, o_isi_bool_i, o_isi_list_l, o_gN, o_gT, o_gsNil, o_gsCons, o_cut_l, o_cut_s, tl_len, tl_cons, tl_snoc, enum_tl, wO_some, wR_ok, wR_of, lpQ_nx, lpQ_ct, List.getElem?_cons_zero, List.getElem?_cons_succ, List.set_cons_zero, List.set_cons_succ, List.length_cons, List.length_nil, List.length_map, List.length_range, List.cons_append, List.nil_append, List.replicate, Nat.reduceAdd, Nat.reduceSub, Int.toNat_natCast, decide_eq_true_eq, Bool.not_eq_true, Bool.not_true, Bool.not_false, if_true, Bool.false_eq_true, if_false, true_and, and_true, Int.reduceNeg, Int.reduceLE, Int.reduceLT, Nat.reduceLeDiff, Nat.reduceLT, Int.zero_add, Nat.zero_add, Int.sub_zero, ite_true, ite_false, reduceIte, Bool.not_eq_eq_eq_not, binom_ok (1 + i - 1) (1 + k - 1) (by omega) (by omega) (by omega)]
      rw [show ((1 : Int) + k - 1) = k by omega]
      refine ⟨(hs _ _ (by omega)).1, (hs _ _ (by omega)).2 _, rfl⟩
    · simp (disch := omega) only [wE_var, wE_c, wE_bin, wE_un, wA_nil, wA_cons, wE_app, wE_call, wE_tup, wE_lst, wE_if, wE_isi, wE_sl, wR_oNo, wR_oAt, ex_int, ex_bl, ex_lst, ex_par, wB_val, wB_tru, wB_not, wB_and, wB_or, wB_yes, wE_and, wE_or, wE_not, wE_chain, nxQ_nx, nxQ_rt, nxQ_ct, nxQ_bk, wS_nil, wS_seq, wS_bk, wS_ct, wS_exp, wS_asg, wS_ret, wS_if, wS_aug, wS_asgG, wS_par, wS_app, wS_setix, wS_augix, wS_for, wA_seq, wA_rng, wE_lc, o_add_ii, o_add_ll, o_addI_ii, o_subI_ii, o_mul_ii, o_mulI_ii, o_mul_li, o_mulL_li, o_fdiv_ii, o_mod_ii, o_pow_ii, o_neg_i, o_cmp_ii, o_eq_ii, o_ne_ii, o_is_nn, o_is_in, o_not_nn, o_not_in, o_ix_lst, o_ix_tup, o_ix_scr, o_at, o_at_neg, o_set, tl_set, o_rng1, o_rng2, o_seq_lst, o_seq_tup, o_seq_scr, o_enum_lst, o_len_l, o_len_t, o_abs, o_max2, o_min2, o_int_i, o_int_b, o_list_l, o_list_s, o_list_t, o_sum_tl, o_tru_b, o_isi_int_i, o_isi_int_non, o_isi_bool_i, o_isi_list_l, o_gN, o_gT, o_gsNil, o_gsCons, o_cut_l, o_cut_s, tl_len, tl_cons, tl_snoc, enum_tl, wO_some, wR_ok, wR_of, lpQ_nx, lpQ_ct, List.getElem?_cons_zero, List.getElem?_cons_succ, List.set_cons_zero, List.set_cons_succ, List.length_cons, List.length_nil, List.length_map, List.length_range, List.cons_append, List.nil_append, List.replicate, Nat.reduceAdd, Nat.reduceSub, Int.toNat_natCast, decide_eq_true_eq, Bool.not_eq_true, Bool.not_true, Bool.not_false, if_true, Bool.false_eq_true, if_false, true_and, and_true, Int.reduceNeg, Int.reduceLE, Int.reduceLT, Nat.reduceLeDiff, Nat.reduceLT, Int.zero_add, Nat.zero_add, Int.sub_zero, ite_true, ite_false, reduceIte, Bool.not_eq_eq_eq_not]
      refine ⟨_, _, _, rfl, tl_congr fun x h0 h1 => ?_⟩
      by_cases hx : x = 1 + (i : Int)
      · subst hx
        rw [if_pos rfl, if_pos (by omega), bg, if_neg (by omega), show (1 + (i : Int) + 1 - 1).toNat = (1 + (i : Int)).toNat by omega]
      · rw [if_neg hx]
        have e : (x ≤ (i : Int)) = (x ≤ ((i + 1 : Nat) : Int)) := by rw [eq_iff_iff]; omega
        simp only [e]
  · rintro Γ' ⟨_, j1, j2, rfl, rfl⟩
    simp only [wE_var, wE_c, wE_bin, wE_un, wA_nil, wA_cons, wE_app, wE_call, wE_tup, wE_lst, wE_if, wE_isi, wE_sl, wR_oNo, wR_oAt, ex_int, ex_bl, ex_lst, ex_par, wB_val, wB_tru, wB_not, wB_and, wB_or, wB_yes, wE_and, wE_or, wE_not, wE_chain, nxQ_nx, nxQ_rt, nxQ_ct, nxQ_bk, wS_nil, wS_seq, wS_bk, wS_ct, wS_exp, wS_asg, wS_ret, wS_if, wS_aug, wS_asgG, wS_par, wS_app, wS_setix, wS_augix, wS_for, wA_seq, wA_rng, wE_lc, o_add_ii, o_add_ll, o_addI_ii, o_subI_ii, o_mul_ii, o_mulI_ii, o_mul_li, o_mulL_li, o_fdiv_ii, o_mod_ii, o_pow_ii, o_neg_i, o_cmp_ii, o_eq_ii, o_ne_ii, o_is_nn, o_is_in, o_not_nn, o_not_in, o_ix_lst, o_ix_tup, o_ix_scr, o_at, o_at_neg, o_set, tl_set, o_rng1, o_rng2, o_seq_lst, o_seq_tup, o_seq_scr, o_enum_lst, o_len_l, o_len_t, o_abs, o_max2, o_min2, o_int_i, o_int_b, o_list_l, o_list_s, o_list_t, o_sum_tl, o_tru_b, o_isi_int_i, o_isi_int_non, o_isi_bool_i, o_isi_list_l, o_gN, o_gT, o_gsNil, o_gsCons, o_cut_l, o_cut_s, tl_len, tl_cons, tl_snoc, enum_tl, wO_some, wR_ok, wR_of, lpQ_nx, lpQ_ct, List.getElem?_cons_zero, List.getElem?_cons_succ, List.set_cons_zero, List.set_cons_succ, List.length_cons, List.length_nil, List.length_map, List.length_range, List.cons_append, List.nil_append, List.replicate, Nat.reduceAdd, Nat.reduceSub, Int.toNat_natCast, decide_eq_true_eq, Bool.not_eq_true, Bool.not_true, Bool.not_false, if_true, Bool.false_eq_true, if_false, true_and, and_true, Int.reduceNeg, Int.reduceLE, Int.reduceLT, Nat.reduceLeDiff, Nat.reduceLT, Int.zero_add, Nat.zero_add, Int.sub_zero, ite_true, ite_false, reduceIte, Bool.not_eq_eq_eq_not]
    refine congrArg (fun z => Fl.rt (.lst z)) (tl_congr fun x h0 h1 => ?_)
    rw [if_pos (by omega)]
def isI (r : R D) (i : Int) : Bool := match r with
  | .ok (.int j) => decide (j = i)
  | _ => false
theorem isI_eq {r : R D} {i : Int} (h : isI r i = true) : r = .ok (.int i) := by
  unfold isI at h
  split at h
  · rw [of_decide_eq_true h]
  · cases h
/-- the greatest common divisor of whole numbers below 12 -/
def gc (a b : Int) : Int := (Nat.gcd a.toNat b.toNat : Nat)
theorem com_all : ∀ m : Fin 12, ∀ t : Fin 12, isI (m_law_common [.int (m.val : Int), .int (t.val : Int)]) (gc m.val t.val) = true := by decide +kernel
theorem com_ok (m t : Nat) (hm : m ≤ 11) (ht : t ≤ 11) : m_law_common [.int m, .int t] = .ok (.int (gc m t)) := isI_eq (com_all ⟨m, by omega⟩ ⟨t, by omega⟩)
/-- what the turns give, each on its own -/
def ltt (f : Int → Int) (m : Int) (T : Nat) (x : Int) : Int := sm T fun t => if (x * gc m t) % m = 0 then lrN false f (gc m t).toNat (x * gc m t / m) else 0
theorem gc_ok : ∀ m : Fin 12, ∀ t : Fin 12, m.val ≠ 0 → 1 ≤ gc m.val t.val ∧ gc m.val t.val ≤ m.val := by decide +kernel
theorem turned_ok (n m : Nat) (f : Int → Int) (hn : 1 ≤ n) (hn2 : n ≤ 60) (hm : m ≤ 11) (hm1 : 1 ≤ m) (hs : small f) : m_law_turned [il n f, .int m] = .ok (il n fun x => ltt f m m x / m) := by
  refine m_ok rfl ?_
  unfold b_law_turned
  simp only [wE_var, wE_c, wE_bin, wE_un, wA_nil, wA_cons, wE_app, wE_call, wE_tup, wE_lst, wE_if, wE_isi, wE_sl, wR_oNo, wR_oAt, ex_int, ex_bl, ex_lst, ex_par, wB_val, wB_tru, wB_not, wB_and, wB_or, wB_yes, wE_and, wE_or, wE_not, wE_chain, nxQ_nx, nxQ_rt, nxQ_ct, nxQ_bk, wS_nil, wS_seq, wS_bk, wS_ct, wS_exp, wS_asg, wS_ret, wS_if, wS_aug, wS_asgG, wS_par, wS_app, wS_setix, wS_augix, wS_for, wA_seq, wA_rng, wE_lc, o_add_ii, o_add_ll, o_addI_ii, o_subI_ii, o_mul_ii, o_mulI_ii, o_mul_li, o_mulL_li, o_fdiv_ii, o_mod_ii, o_pow_ii, o_neg_i, o_cmp_ii, o_eq_ii, o_ne_ii, o_is_nn, o_is_in, o_not_nn, o_not_in, o_ix_lst, o_ix_tup, o_ix_scr, o_at, o_at_neg, o_set, tl_set, o_rng1, o_rng2, o_seq_lst, o_seq_tup, o_seq_scr, o_enum_lst, o_len_l, o_len_t, o_abs, o_max2, o_min2, o_int_i, o_int_b, o_list_l, o_list_s, o_list_t, o_sum_tl, o_tru_b, o_isi_int_i, o_isi_int_non, o_isi_bool_i, o_isi_list_l, o_gN, o_gT, o_gsNil, o_gsCons, o_cut_l, o_cut_s, tl_len, tl_cons, tl_snoc, enum_tl, wO_some, wR_ok, wR_of, lpQ_nx, lpQ_ct, List.getElem?_cons_zero, List.getElem?_cons_succ, List.set_cons_zero, List.set_cons_succ, List.length_cons, List.length_nil, List.length_map, List.length_range, List.cons_append, List.nil_append, List.replicate, Nat.reduceAdd, Nat.reduceSub, Int.toNat_natCast, decide_eq_true_eq, Bool.not_eq_true, Bool.not_true, Bool.not_false, if_true, Bool.false_eq_true, if_false, true_and, and_true, Int.reduceNeg, Int.reduceLE, Int.reduceLT, Nat.reduceLeDiff, Nat.reduceLT, Int.zero_add, Nat.zero_add, Int.sub_zero, ite_true, ite_false, reduceIte, Bool.not_eq_eq_eq_not]
  refine ⟨by omega, by omega, wF_rng (fun t Γ => ∃ L j1 j2 j3 j4 j5, Γ = [il n f, .int m, .lst L, j1, j2, j3, j4, j5] ∧ L = tl n fun x => .int (ltt f m t x)) ⟨_, _, _, _, _, _, rfl, rfl⟩ ?_ ?_⟩
  · rintro t Γ ht ⟨_, j1, j2, j3, j4, j5, rfl, rfl⟩
    have hg := gc_ok ⟨m, by omega⟩ ⟨t, by omega⟩ (by simp; omega)
    simp only at hg
    simp (disch := omega) only [wE_var, wE_c, wE_bin, wE_un, wA_nil, wA_cons, wE_app, wE_call, wE_tup, wE_lst, wE_if, wE_isi, wE_sl, wR_oNo, wR_oAt, ex_int, ex_bl, ex_lst, ex_par, wB_val, wB_tru, wB_not, wB_and, wB_or, wB_yes, wE_and, wE_or, wE_not, wE_chain, nxQ_nx, nxQ_rt, nxQ_ct, nxQ_bk, wS_nil, wS_seq, wS_bk, wS_ct, wS_exp, wS_asg, wS_ret, wS_if, wS_aug, wS_asgG, wS_par, wS_app, wS_setix, wS_augix, wS_for, wA_seq, wA_rng, wE_lc, o_add_ii, o_add_ll, o_addI_ii, o_subI_ii, o_mul_ii, o_mulI_ii, o_mul_li, o_mulL_li, o_fdiv_ii, o_mod_ii, o_pow_ii, o_neg_i, o_cmp_ii, o_eq_ii, o_ne_ii, o_is_nn, o_is_in, o_not_nn, o_not_in, o_ix_lst, o_ix_tup, o_ix_scr, o_at, o_at_neg, o_set, tl_set, o_rng1, o_rng2, o_seq_lst, o_seq_tup, o_seq_scr, o_enum_lst, o_len_l, o_len_t, o_abs, o_max2, o_min2, o_int_i, o_int_b, o_list_l, o_list_s, o_list_t, o_sum_tl, o_tru_b, o_isi_int_i, o_isi_int_non, o_isi_bool_i, o_isi_list_l, o_gN, o_gT, o_gsNil, o_gsCons, o_cut_l, o_cut_s, tl_len, tl_cons, tl_snoc, enum_tl, wO_some, wR_ok, wR_of, lpQ_nx, lpQ_ct, List.getElem?_cons_zero, List.getElem?_cons_succ, List.set_cons_zero, List.set_cons_succ, List.length_cons, List.length_nil, List.length_map, List.length_range, List.cons_append, List.nil_append, List.replicate, Nat.reduceAdd, Nat.reduceSub, Int.toNat_natCast, decide_eq_true_eq, Bool.not_eq_true, Bool.not_true, Bool.not_false, if_true, Bool.false_eq_true, if_false, true_and, and_true, Int.reduceNeg, Int.reduceLE, Int.reduceLT, Nat.reduceLeDiff, Nat.reduceLT, Int.zero_add, Nat.zero_add, Int.sub_zero, ite_true, ite_false, reduceIte, Bool.not_eq_eq_eq_not, com_ok m t hm (by omega), rows_ok n (gc m t) false f hn hn2 (by omega) (by omega) hs]
    refine ⟨by omega, wF_rng (fun x Γ => ∃ L j4 j5, Γ = [il n f, .int m, .lst L, .int t, .int (gc m t), il n (lrN false f (gc m t).toNat), j4, j5] ∧ L = tl n fun y => .int (if y < x then ltt f m (t + 1) y else ltt f m t y)) ⟨_, _, _, rfl, ?_⟩ ?_ ?_⟩
    · refine tl_congr fun y _ _ => ?_
      rw [if_neg (by omega)]
    · rintro x Γ hx ⟨_, j4, j5, rfl, rfl⟩
      simp (disch := omega) only [wE_var, wE_c, wE_bin, wE_un, wA_nil, wA_cons, wE_app, wE_call, wE_tup, wE_lst, wE_if, wE_isi, wE_sl, wR_oNo, wR_oAt, ex_int, ex_bl, ex_lst, ex_par, wB_val, wB_tru, wB_not, wB_and, wB_or, wB_yes, wE_and, wE_or, wE_not, wE_chain, nxQ_nx, nxQ_rt, nxQ_ct, nxQ_bk, wS_nil, wS_seq, wS_bk, wS_ct, wS_exp, wS_asg, wS_ret, wS_if, wS_aug, wS_asgG, wS_par, wS_app, wS_setix, wS_augix, wS_for, wA_seq, wA_rng, wE_lc, o_add_ii, o_add_ll, o_addI_ii, o_subI_ii, o_mul_ii, o_mulI_ii, o_mul_li, o_mulL_li, o_fdiv_ii, o_mod_ii, o_pow_ii, o_neg_i, o_cmp_ii, o_eq_ii, o_ne_ii, o_is_nn, o_is_in, o_not_nn, o_not_in, o_ix_lst, o_ix_tup, o_ix_scr, o_at, o_at_neg, o_set, tl_set, o_rng1, o_rng2, o_seq_lst, o_seq_tup, o_seq_scr, o_enum_lst, o_len_l, o_len_t, o_abs, o_max2, o_min2, o_int_i, o_int_b, o_list_l, o_list_s, o_list_t, o_sum_tl, o_tru_b, o_isi_int_i, o_isi_int_non, o_isi_bool_i, o_isi_list_l, o_gN, o_gT, o_gsNil, o_gsCons, o_cut_l, o_cut_s, tl_len, tl_cons, tl_snoc, enum_tl, wO_some, wR_ok, wR_of, lpQ_nx, lpQ_ct, List.getElem?_cons_zero, List.getElem?_cons_succ, List.set_cons_zero, List.set_cons_succ, List.length_cons, List.length_nil, List.length_map, List.length_range, List.cons_append, List.nil_append, List.replicate, Nat.reduceAdd, Nat.reduceSub, Int.toNat_natCast, decide_eq_true_eq, Bool.not_eq_true, Bool.not_true, Bool.not_false, if_true, Bool.false_eq_true, if_false, true_and, and_true, Int.reduceNeg, Int.reduceLE, Int.reduceLT, Nat.reduceLeDiff, Nat.reduceLT, Int.zero_add, Nat.zero_add, Int.sub_zero, ite_true, ite_false, reduceIte, Bool.not_eq_eq_eq_not]
      have hk : ∀ v, v = ltt f m (t + 1) x → (tl n fun i => if i = (x : Int) then D.int v else .int (if i < x then ltt f m (t + 1) i else ltt f m t i)) = tl n fun y => .int (if y < ((x + 1 : Nat) : Int) then ltt f m (t + 1) y else ltt f m t y) := by
        rintro v rfl
        refine tl_congr fun y _ _ => ?_
        by_cases hy : y = x
        · subst hy; rw [if_pos rfl, if_pos (by omega)]
        · rw [if_neg hy]
          have e : (y < (x : Int)) = (y < ((x + 1 : Nat) : Int)) := by rw [eq_iff_iff]; omega
          simp only [e]
      have hxm : (x : Int) * gc m t / m ≤ x := by
        refine Int.ediv_le_of_le_mul (by omega) ?_
        exact Int.mul_le_mul_of_nonneg_left hg.2 (by omega)
      have hx0 : 0 ≤ (x : Int) * gc m t / m := Int.ediv_nonneg (Int.mul_nonneg (by omega) (by omega)) (by omega)
      refine ⟨.inl (by omega), by omega, ?_⟩
      split
      · rename_i h0
        simp (disch := omega) only [wE_var, wE_c, wE_bin, wE_un, wA_nil, wA_cons, wE_app, wE_call, wE_tup, wE_lst, wE_if, wE_isi, wE_sl, wR_oNo, wR_oAt, ex_int, ex_bl, ex_lst, ex_par, wB_val, wB_tru, wB_not, wB_and, wB_or, wB_yes, wE_and, wE_or, wE_not, wE_chain, nxQ_nx, nxQ_rt, nxQ_ct, nxQ_bk, wS_nil, wS_seq, wS_bk, wS_ct, wS_exp, wS_asg, wS_ret, wS_if, wS_aug, wS_asgG, wS_par, wS_app, wS_setix, wS_augix, wS_for, wA_seq, wA_rng, wE_lc, o_add_ii, o_add_ll, o_addI_ii, o_subI_ii, o_mul_ii, o_mulI_ii, o_mul_li, o_mulL_li, o_fdiv_ii, o_mod_ii, o_pow_ii, o_neg_i, o_cmp_ii, o_eq_ii, o_ne_ii, o_is_nn, o_is_in, o_not_nn, o_not_in, o_ix_lst, o_ix_tup, o_ix_scr, o_at, o_at_neg, o_set, tl_set, o_rng1, o_rng2, o_seq_lst, o_seq_tup, o_seq_scr, o_enum_lst, o_len_l, o_len_t, o_abs, o_max2, o_min2, o_int_i, o_int_b, o_list_l, o_list_s, o_list_t, o_sum_tl, o_tru_b, o_isi_int_i, o_isi_int_non, o_isi_bool_i, o_isi_list_l, o_gN, o_gT, o_gsNil, o_gsCons, o_cut_l, o_cut_s, tl_len, tl_cons, tl_snoc, enum_tl, wO_some, wR_ok, wR_of, lpQ_nx, lpQ_ct, List.getElem?_cons_zero, List.getElem?_cons_succ, List.set_cons_zero, List.set_cons_succ, List.length_cons, List.length_nil, List.length_map, List.length_range, List.cons_append, List.nil_append, List.replicate, Nat.reduceAdd, Nat.reduceSub, Int.toNat_natCast, decide_eq_true_eq, Bool.not_eq_true, Bool.not_true, Bool.not_false, if_true, Bool.false_eq_true, if_false, true_and, and_true, Int.reduceNeg, Int.reduceLE, Int.reduceLT, Nat.reduceLeDiff, Nat.reduceLT, Int.zero_add, Nat.zero_add, Int.sub_zero, ite_true, ite_false, reduceIte, Bool.not_eq_eq_eq_not]
        rw [tl_setN]
        refine ⟨.inl (by omega), by omega, _, _, _, rfl, hk _ ?_⟩
        rw [if_neg (by omega), ltt, ltt, sm, if_pos h0]
      · rename_i h0
        refine ⟨_, _, _, rfl, tl_congr fun y _ _ => ?_⟩
        by_cases hy : y = x
        · subst hy
          rw [if_neg (by omega), if_pos (by omega), ltt, ltt, sm, if_neg h0, Int.add_zero]
        · have e : (y < (x : Int)) = (y < ((x + 1 : Nat) : Int)) := by rw [eq_iff_iff]; omega
          simp only [e]
    · rintro Γ' ⟨_, j4, j5, rfl, rfl⟩
      refine ⟨_, _, _, _, _, _, rfl, tl_congr fun y _ _ => ?_⟩
      rw [if_pos (by omega)]
  · rintro Γ' ⟨_, j1, j2, j3, j4, j5, rfl, rfl⟩
    simp (disch := omega) only [wE_var, wE_c, wE_bin, wE_un, wA_nil, wA_cons, wE_app, wE_call, wE_tup, wE_lst, wE_if, wE_isi, wE_sl, wR_oNo, wR_oAt, ex_int, ex_bl, ex_lst, ex_par, wB_val, wB_tru, wB_not, wB_and, wB_or, wB_yes, wE_and, wE_or, wE_not, wE_chain, nxQ_nx, nxQ_rt, nxQ_ct, nxQ_bk, wS_nil, wS_seq, wS_bk, wS_ct, wS_exp, wS_asg, wS_ret, wS_if, wS_aug, wS_asgG, wS_par, wS_app, wS_setix, wS_augix, wS_for, wA_seq, wA_rng, wE_lc, o_add_ii, o_add_ll, o_addI_ii, o_subI_ii, o_mul_ii, o_mulI_ii, o_mul_li, o_mulL_li, o_fdiv_ii, o_mod_ii, o_pow_ii, o_neg_i, o_cmp_ii, o_eq_ii, o_ne_ii, o_is_nn, o_is_in, o_not_nn, o_not_in, o_ix_lst, o_ix_tup, o_ix_scr, o_at, o_at_neg, o_set, tl_set, o_rng1, o_rng2, o_seq_lst, o_seq_tup, o_seq_scr, o_enum_lst, o_len_l, o_len_t, o_abs, o_max2, o_min2, o_int_i, o_int_b, o_list_l, o_list_s, o_list_t, o_sum_tl, o_tru_b, o_isi_int_i, o_isi_int_non, o_isi_bool_i, o_isi_list_l, o_gN, o_gT, o_gsNil, o_gsCons, o_cut_l, o_cut_s, tl_len, tl_cons, tl_snoc, enum_tl, wO_some, wR_ok, wR_of, lpQ_nx, lpQ_ct, List.getElem?_cons_zero, List.getElem?_cons_succ, List.set_cons_zero, List.set_cons_succ, List.length_cons, List.length_nil, List.length_map, List.length_range, List.cons_append, List.nil_append, List.replicate, Nat.reduceAdd, Nat.reduceSub, Int.toNat_natCast, decide_eq_true_eq, Bool.not_eq_true, Bool.not_true, Bool.not_false, if_true, Bool.false_eq_true, if_false, true_and, and_true, Int.reduceNeg, Int.reduceLE, Int.reduceLT, Nat.reduceLeDiff, Nat.reduceLT, Int.zero_add, Nat.zero_add, Int.sub_zero, ite_true, ite_false, reduceIte, Bool.not_eq_eq_eq_not]
    refine ⟨by omega, lc_tl2 (fun x => .int (ltt f m m x / m)) ?_ ?_⟩
    · intro x hx
      simp (disch := omega) only [wE_var, wE_c, wE_bin, wE_un, wA_nil, wA_cons, wE_app, wE_call, wE_tup, wE_lst, wE_if, wE_isi, wE_sl, wR_oNo, wR_oAt, ex_int, ex_bl, ex_lst, ex_par, wB_val, wB_tru, wB_not, wB_and, wB_or, wB_yes, wE_and, wE_or, wE_not, wE_chain, nxQ_nx, nxQ_rt, nxQ_ct, nxQ_bk, wS_nil, wS_seq, wS_bk, wS_ct, wS_exp, wS_asg, wS_ret, wS_if, wS_aug, wS_asgG, wS_par, wS_app, wS_setix, wS_augix, wS_for, wA_seq, wA_rng, wE_lc, o_add_ii, o_add_ll, o_addI_ii, o_subI_ii, o_mul_ii, o_mulI_ii, o_mul_li, o_mulL_li, o_fdiv_ii, o_mod_ii, o_pow_ii, o_neg_i, o_cmp_ii, o_eq_ii, o_ne_ii, o_is_nn, o_is_in, o_not_nn, o_not_in, o_ix_lst, o_ix_tup, o_ix_scr, o_at, o_at_neg, o_set, tl_set, o_rng1, o_rng2, o_seq_lst, o_seq_tup, o_seq_scr, o_enum_lst, o_len_l, o_len_t, o_abs, o_max2, o_min2, o_int_i, o_int_b, o_list_l, o_list_s, o_list_t, o_sum_tl, o_tru_b, o_isi_int_i, o_isi_int_non, o_isi_bool_i, o_isi_list_l, o_gN, o_gT, o_gsNil, o_gsCons, o_cut_l, o_cut_s, tl_len, tl_cons, tl_snoc, enum_tl, wO_some, wR_ok, wR_of, lpQ_nx, lpQ_ct, List.getElem?_cons_zero, List.getElem?_cons_succ, List.set_cons_zero, List.set_cons_succ, List.length_cons, List.length_nil, List.length_map, List.length_range, List.cons_append, List.nil_append, List.replicate, Nat.reduceAdd, Nat.reduceSub, Int.toNat_natCast, decide_eq_true_eq, Bool.not_eq_true, Bool.not_true, Bool.not_false, if_true, Bool.false_eq_true, if_false, true_and, and_true, Int.reduceNeg, Int.reduceLE, Int.reduceLT, Nat.reduceLeDiff, Nat.reduceLT, Int.zero_add, Nat.zero_add, Int.sub_zero, ite_true, ite_false, reduceIte, Bool.not_eq_eq_eq_not]
      omega
    · rfl
end L2.DL.K20
set_option Elab.async false
set_option linter.all false
set_option maxRecDepth 100000
set_option autoImplicit false
namespace L2.DL.K20
open PySem PySem.Spec PyProof.Rows L2 L2.DL L2.SR
theorem sm_sn (n : Nat) (h : Int → Int) : sm n h = sn n fun i => h i := by
  induction n with
  | zero => rfl
  | succ n ih => rw [sm, sn, ih]
/-- the product of a kind -/
def mul (l : Bool) (f g : Nat → Int) : Nat → Int := if l = true then bmul f g else cmul f g
theorem cv_mul (l : Bool) (f g : Int → Int) (n : Nat) : cv l f g n = mul l (fun k => f k) (fun k => g k) n := by
  unfold cv
  rw [sm_sn, show ((n : Int) + 1).toNat = n + 1 by omega]
  unfold mul
  cases l with
  | false =>
    rw [if_neg (by decide), cmul_sn]
    refine sn_congr fun k hk => ?_
    rw [show (n : Int) - k = ((n - k : Nat) : Int) by omega, wt, if_neg (by decide), Int.mul_one]
  | true =>
    rw [if_pos rfl, bmul_sn]
    refine sn_congr fun k hk => ?_
    rw [show (n : Int) - k = ((n - k : Nat) : Int) by omega, wt, if_pos rfl, chI, Int.toNat_natCast, Int.toNat_natCast, Int.mul_comm]
theorem mul_comm' (l : Bool) (f g : Nat → Int) : mul l f g = mul l g f := by
  funext n
  unfold mul
  cases l with
  | false => exact cmul_comm f g n
  | true => exact bmul_comm f g n
theorem u1_cone : (fun k : Nat => u1 k) = (cone : Nat → Int) := by
  funext k
  cases k with
  | zero => rfl
  | succ k => unfold u1; rw [if_neg (by omega)]; rfl
theorem pwN_pwr (l : Bool) (f : Int → Int) (m : Nat) : (fun k : Nat => pwN l f m k) = pwr (mul l) (fun k => f k) m := by
  induction m with
  | zero => exact u1_cone
  | succ m ih =>
    funext n
    rw [pwN, cv_mul, ih, pwr]
theorem lrN_pwr (l : Bool) (f : Int → Int) (m : Nat) : (fun k : Nat => lrN l f m k) = pwr (mul l) (fun k => f k) m := by
  induction m with
  | zero => exact u1_cone
  | succ m ih =>
    funext n
    rw [lrN, cv_mul, ih, pwr, mul_comm']
theorem lr_pw (l : Bool) (f : Int → Int) (m : Nat) {x : Int} (hx : 0 ≤ x) : lrN l f m x = pwN l f m x := by
  have h := congrFun ((lrN_pwr l f m).trans (pwN_pwr l f m).symm) x.toNat
  simp only [show ((x.toNat : Nat) : Int) = x by omega] at h
  exact h
theorem mul_true : mul true = bmul := by funext f g; rfl
theorem mul_false : mul false = cmul := by funext f g; rfl
theorem lr_one (l : Bool) (f : Int → Int) {x : Int} (hx : 0 ≤ x) : lrN l f 1 x = f x := by
  have h := congrFun (lrN_pwr l f 1) x.toNat
  simp only [show ((x.toNat : Nat) : Int) = x by omega] at h
  rw [h, pwr, pwr]
  cases l with
  | false => rw [mul_false, cmul_one]; congr 1; omega
  | true => rw [mul_true, bmul_one]; congr 1; omega
/-- begun, as a product -/
theorem bg_bmul (a r : Int → Int) (n : Nat) : bg a r ((n + 1 : Nat) : Int) = bmul (fun i => a ((i + 1 : Nat) : Int)) (fun i => r i) n := by
  unfold bg
  rw [if_neg (by omega), sm_sn, bmul_sn, Int.toNat_natCast]
  refine sn_congr fun k hk => ?_
  rw [show ((n + 1 : Nat) : Int) - 1 = (n : Int) by omega, chI, Int.toNat_natCast, Int.toNat_natCast, show (1 : Int) + k = ((k + 1 : Nat) : Int) by omega, show ((n + 1 : Nat) : Int) - ((k + 1 : Nat) : Int) = ((n - k : Nat) : Int) by omega, Int.mul_assoc]
/-- the powers, begun -/
theorem pw_bg (f : Int → Int) (h0 : f 0 = 0) (m : Nat) {x : Int} (hx : 0 ≤ x) : lrN true f (m + 1) x = (m + 1 : Nat) * bg f (lrN true f m) x := by
  have h := lrN_pwr true f
  by_cases e : x = 0
  · subst e
    have h1 := congrFun (h (m + 1)) 0
    have h2 : lrN true f (m + 1) 0 = pwr (mul true) (fun k => f k) (m + 1) 0 := h1
    rw [h2, pwr, mul_true, bmul_comm, bmul, bg, if_pos rfl]
    show f 0 * _ = _
    rw [h0]; simp
  · obtain ⟨n, hn⟩ : ∃ n : Nat, x = ((n + 1 : Nat) : Int) := ⟨x.toNat - 1, by omega⟩
    subst hn
    have h1 := congrFun (h (m + 1)) (n + 1)
    rw [mul_true, pwr_der] at h1
    rw [bg_bmul, h m, mul_true]
    exact h1
theorem bg_mul (a r : Int → Int) (c : Int) (x : Int) : bg a (fun y => c * r y) x = c * bg a r x := by
  unfold bg
  split
  · simp
  · rw [sm_sn, sm_sn, ← sn_mul]
    refine sn_congr fun k _ => ?_
    grind
theorem bg_congr {a r r' : Int → Int} {x : Int} (h : ∀ y, 0 ≤ y → r y = r' y) : bg a r x = bg a r' x := by
  unfold bg
  split
  · rfl
  · refine sm_congr fun j h0 h1 => ?_
    rw [h _ (by omega)]
/-- the labelled sets of m members -/
def setL (f : Int → Int) : Nat → Int → Int
  | 0 => u1
  | 1 => lrN true f 1
  | m + 2 => bg f (setL f (m + 1))
theorem setL_pw (f : Int → Int) (h0 : f 0 = 0) (m : Nat) {x : Int} (hx : 0 ≤ x) : lrN true f (m + 1) x = fac (m + 1) * setL f (m + 1) x := by
  induction m generalizing x with
  | zero => rw [setL]; simp [fac]
  | succ m ih =>
    rw [pw_bg f h0 (m + 1) hx, bg_congr (r' := fun y => fac (m + 1) * setL f (m + 1) y) fun y hy => ih hy, bg_mul, setL, fac, ← Int.mul_assoc, Int.mul_comm (((m + 1 + 1 : Nat)) : Int)]
    rfl
/-- what m members give, as the law has it -/
def nat (f : Int → Int) (k : Nat) : Nat := (f k).toNat
def memS (n : Nat) (l : Bool) (f : Int → Int) (m : Nat) (x : Int) : Int := if m = 0 then u1 x else if m = 1 then lrN l f 1 x else if l = true then setL f m x else (bag (nat f) (n - 1) m).co x.toNat
def memR (l : Bool) (f : Int → Int) (m : Nat) (x : Int) : Int := if m = 0 then u1 x else if m = 1 then lrN l f 1 x else if l = true then bg f (lrN true f (m - 1)) x else ltt f m m x / m
theorem lab_set (n : Nat) (f : Int → Int) (m : Nat) (h : f 0 = 0 ∨ m < 2) {x : Int} (hx : 0 ≤ x) : lab true f m x = memS n true f m x := by
  unfold lab memS pw
  rw [Int.toNat_natCast]
  match m with
  | 0 => rfl
  | 1 =>
    rw [if_neg (by omega), if_neg (by omega), if_pos rfl, den, if_pos rfl, Int.toNat_natCast, ← lr_pw true f 1 hx]
    rw [show fac 1 = 1 from rfl, Int.ediv_one]
  | m + 2 =>
    rw [if_neg (by omega), if_neg (by omega), if_neg (by omega), if_pos rfl, den, if_pos rfl, Int.toNat_natCast, ← lr_pw true f _ hx, setL_pw f (by rcases h with h | h; exact h; omega) _ hx, Int.mul_ediv_cancel_left]
    have := fac_pos (m + 1 + 1)
    omega
theorem lab_ring (f : Int → Int) (m : Nat) (h : f 0 = 0 ∨ m < 2) {x : Int} (hx : 0 ≤ x) : lab false f m x = memR true f m x := by
  unfold lab memR pw
  rw [Int.toNat_natCast]
  match m with
  | 0 => rfl
  | 1 =>
    rw [if_neg (by omega), if_neg (by omega), if_pos rfl, den, if_neg (by decide), ← lr_pw true f 1 hx]
    exact Int.ediv_one _
  | m + 2 =>
    rw [if_neg (by omega), if_neg (by omega), if_neg (by omega), if_pos rfl, den, if_neg (by decide), ← lr_pw true f _ hx, pw_bg f (by rcases h with h | h; exact h; omega) (m + 1) hx, Int.mul_ediv_cancel_left]
    · rfl
    · omega
/-- the turns, taken together by their kind -/
theorem tot_sum (T : Int → Int) (m : Fin 12) : (sm m.val fun t => T (m.val / gc m.val t)) = s1 m.val fun d => if (m.val : Int) % d = 0 then phi d * T d else 0 := by
  match m with
  | ⟨0, _⟩ => rfl
  | ⟨1, _⟩ => simp [sm, s1, gc, phi]
  | ⟨2, _⟩ => simp [sm, s1, gc, phi]
  | ⟨3, _⟩ => simp [sm, s1, gc, phi]; omega
  | ⟨4, _⟩ => simp [sm, s1, gc, phi]; omega
  | ⟨5, _⟩ => simp [sm, s1, gc, phi]; omega
  | ⟨6, _⟩ => simp [sm, s1, gc, phi]; omega
  | ⟨7, _⟩ => simp [sm, s1, gc, phi]; omega
  | ⟨8, _⟩ => simp [sm, s1, gc, phi]; omega
  | ⟨9, _⟩ => simp [sm, s1, gc, phi]; omega
  | ⟨10, _⟩ => simp [sm, s1, gc, phi]; omega
  | ⟨11, _⟩ => simp [sm, s1, gc, phi]; omega
theorem gc_dvd : ∀ m : Fin 12, ∀ t : Fin 12, m.val ≠ 0 → (m.val : Int) = gc m.val t.val * (m.val / gc m.val t.val) ∧ 0 < gc m.val t.val ∧ 0 < (m.val : Int) / gc m.val t.val := by decide +kernel
theorem trs_ltt (f : Int → Int) (m : Nat) (hm : m ≤ 11) (hm1 : 1 ≤ m) {x : Int} (hx : 0 ≤ x) : trs f phi m x = ltt f m m x := by
  have h := tot_sum (fun d => if x % d = 0 then pw false f (m / d) (x / d) else 0) ⟨m, by omega⟩
  simp only at h
  unfold trs
  unfold st
  rw [← h]
  unfold ltt
  refine sm_congr fun t h0 h1 => ?_
  have hg := gc_dvd ⟨m, by omega⟩ ⟨t.toNat, by omega⟩ (by simp; omega)
  simp only [show ((t.toNat : Nat) : Int) = t by omega] at hg
  obtain ⟨e, g0, d0⟩ := hg
  generalize hgg : gc m t = g at *
  generalize hdd : (m : Int) / g = d at *
  have e1 : (x * g) % (m : Int) = 0 ↔ x % d = 0 := by
    rw [e, Int.mul_comm x g, Int.mul_emod_mul_of_pos _ _ g0]
    constructor
    · intro h
      rcases Int.mul_eq_zero.1 h with h | h
      · omega
      · exact h
    · intro h; rw [h, Int.mul_zero]
  have e2 : x * g / (m : Int) = x / d := by
    rw [e, Int.mul_comm x g, Int.mul_ediv_mul_of_pos _ _ g0]
  have e3 : (m : Int) / d = g := by
    rw [e, Int.mul_ediv_cancel _ (by omega)]
  rw [e2, e3]
  by_cases hd : x % d = 0
  · rw [if_pos hd, if_pos (e1.2 hd), pw, lr_pw]
    exact Int.ediv_nonneg hx (by omega)
  · rw [if_neg hd, if_neg fun z => hd (e1.1 z)]
theorem ring_mem (f : Int → Int) (m : Nat) (hm : m ≤ 11) {x : Int} (hx : 0 ≤ x) : (if (m : Int) = 0 then u1 x else trs f phi m x / m) = memR false f m x := by
  unfold memR
  match m with
  | 0 => rfl
  | 1 =>
    rw [if_neg (by omega), if_neg (by omega), if_pos rfl, trs_ltt f 1 hm (by omega) hx]
    have : ltt f (1 : Nat) 1 x = lrN false f 1 x := by
      unfold ltt
      rw [sm, sm]
      have e : gc (1 : Nat) (0 : Nat) = 1 := by decide
      rw [e, Int.mul_one, show ((1 : Nat) : Int) = 1 from rfl, if_pos (by omega), Int.ediv_one]
      simp
    rw [this]; exact Int.ediv_one _
  | m + 2 =>
    rw [if_neg (by omega), if_neg (by omega), if_neg (by omega), if_neg (by decide), trs_ltt f (m + 2) hm (by omega) hx]
/-- Newton, for the law's members -/
theorem nat_f {f : Int → Int} (hf : ∀ i, 0 ≤ f i) (k : Nat) : (nat f k : Int) = f k := by unfold nat; have := hf k; omega
theorem bag_zero (a : Nat → Nat) (s : Nat) : ∀ x, (bag a s 0).co x = cone x := by
  induction s with
  | zero => intro x; show (if (0 : Nat) = 0 then (1 : Ser Int) else 0).co x = _; rw [if_pos rfl]; show (0 : Int) + cone x = _; simp
  | succ s ih =>
    intro x
    rw [bag_succ, sn, sn, Nat.zero_mul, if_pos (by omega), Nat.sub_zero, Nat.sub_zero, ih]
    simp [mc, ch_zero]
theorem newton (n m : Nat) (f : Int → Int) (hf : ∀ i, 0 ≤ f i) (hn : 1 ≤ n) (h : f 0 = 0 ∨ m < 2) (i : Nat) (h1 : 1 ≤ i) (h2 : i ≤ m) (x : Int) (h3 : 0 ≤ x) (h4 : x < n) : s1 i (fun t => cv false (st t f) (memS n false f (i - t).toNat) x) = memS n false f i x * i := by
  have hst : ∀ (t : Nat), 1 ≤ t → (fun y : Nat => st t f y) = fun y => if y % t = 0 then (nat f (y / t) : Int) else 0 := by
    intro t ht
    funext y
    unfold st
    rw [nat_f hf]
    have e : ((y : Int) % t = 0) = (y % t = 0) := by rw [eq_iff_iff]; omega
    simp only [e]
    rfl
  have hc : ∀ (t : Nat) (g : Int → Int), 1 ≤ t → cv false (st t f) g x = cmul (fun y => if y % t = 0 then (nat f (y / t) : Int) else 0) (fun y => g y) x.toNat := by
    intro t g ht
    have := cv_mul false (st t f) g x.toNat
    rw [show ((x.toNat : Nat) : Int) = x by omega] at this
    rw [this, mul_false, hst t ht]
  have hone : cv false (st 1 f) (memS n false f 0) x = f x := by
    have := hc 1 (memS n false f 0) (by omega)
    rw [show ((1 : Nat) : Int) = 1 from rfl] at this
    rw [this, cmul_comm]
    have e : (fun y : Nat => memS n false f 0 y) = cone := by funext y; rw [memS, if_pos rfl]; exact congrFun u1_cone y
    rw [e, cmul_one]
    simp only [Nat.mod_one, if_true, Nat.div_one]
    rw [nat_f hf]; congr 1; omega
  by_cases hi : i = 1
  · subst hi
    rw [s1, sm, sm]
    show 0 + cv false (st (1 + 0) f) (memS n false f ((1 : Int) - (1 + 0)).toNat) x = _
    rw [show (1 : Int) + 0 = 1 from rfl, show ((1 : Int) - 1).toNat = 0 from rfl, hone, memS, if_neg (by omega), if_pos rfl, lr_one false f h3]
    simp
  · have h0 : f 0 = 0 := by rcases h with h | h; exact h; omega
    have ha : nat f 0 = 0 := by unfold nat; rw [show ((0 : Nat) : Int) = 0 from rfl, h0]; rfl
    have hb : ∀ k (y : Nat), y < n → memS n false f k y = (bag (nat f) (n - 1) k).co y := by
      intro k y hy
      unfold memS
      by_cases k0 : k = 0
      · subst k0
        rw [if_pos rfl, bag_zero]; exact congrFun u1_cone y
      · rw [if_neg k0]
        by_cases k1 : k = 1
        · subst k1
          rw [if_pos rfl, lr_one false f (by omega)]
          have := bag_newton (nat f) (n - 1) 1 y ha (by omega)
          rw [sn, sn, Nat.zero_add, Nat.sub_self, cmul_comm, cmul_congr (f' := cone) (g' := fun y => if y % 1 = 0 then (nat f (y / 1) : Int) else 0) (fun i _ => bag_zero _ _ i) (fun _ _ => rfl), cmul_one] at this
          simp only [Nat.mod_one, if_true, Nat.div_one] at this
          rw [nat_f hf] at this
          simp at this
          exact this.symm
        · rw [if_neg k1, if_neg (by decide), Int.toNat_natCast]
    have hN := bag_newton (nat f) (n - 1) i x.toNat ha (by omega)
    have e := hb i x.toNat (by omega)
    rw [show ((x.toNat : Nat) : Int) = x by omega] at e
    rw [e, Int.mul_comm, hN, s1, sm_sn]
    refine sn_congr fun t ht => ?_
    rw [show (1 : Int) + t = ((t + 1 : Nat) : Int) by omega, hc (t + 1) _ (by omega), show ((i : Int) - ((t + 1 : Nat) : Int)).toNat = i - (t + 1) by omega]
    exact cmul_congr (fun _ _ => rfl) fun y hy => hb _ y (by omega)
end L2.DL.K20
set_option Elab.async false
set_option linter.all false
set_option maxRecDepth 100000
set_option autoImplicit false
namespace L2.DL.K20
open PySem PySem.Spec PyProof.Rows L2 L2.DL L2.SR
theorem sn_cut {N k : Nat} {h : Nat → Int} {c : Nat → Prop} [DecidablePred c] (hk : k ≤ N) (h1 : ∀ t, t < k → c t) (h2 : ∀ t, k ≤ t → t < N → ¬ c t) : (sn N fun t => if c t then h t else 0) = sn k h := by
  induction N with
  | zero =>
    rw [show k = 0 by omega]; rfl
  | succ N ih =>
    by_cases e : k = N + 1
    · subst e
      exact sn_congr fun t ht => if_pos (h1 t ht)
    · rw [sn, if_neg (h2 N (by omega) (by omega)), ih (by omega) (fun t ht hN => h2 t ht (by omega)), Int.add_zero]
/-- bags of m points in all n, of the sizes up to s -/
def bgI (f : Int → Int) (s : Nat) (i x : Int) : Int := (bag (nat f) s i.toNat).co x.toNat
theorem bgI_step (f : Int → Int) (hf : ∀ i, 0 ≤ f i) (s : Nat) (i x : Int) (hi : 0 ≤ i) (hx : 0 ≤ x) : (sm ((if x / (1 + s) < i then x / (1 + s) else i) + 1).toNat fun t => bgI f s (i - t) (x - t * (1 + s)) * chI (f (1 + s) + t - 1) t) = bgI f (s + 1) i x := by
  unfold bgI
  rw [bag_succ]
  have hq : x / (1 + (s : Int)) = ((x.toNat / (s + 1) : Nat) : Int) := by
    rw [show (1 + (s : Int)) = ((s + 1 : Nat) : Int) by omega, show x = (x.toNat : Int) by omega]
    rfl
  rw [sn_cut (k := min i.toNat (x.toNat / (s + 1)) + 1) (by omega) (fun t ht => ?_) (fun t ht hN => ?_)]
  · rw [sm_sn, hq]
    have e : ((if ((x.toNat / (s + 1) : Nat) : Int) < i then ((x.toNat / (s + 1) : Nat) : Int) else i) + 1).toNat = min i.toNat (x.toNat / (s + 1)) + 1 := by
      generalize x.toNat / (s + 1) = q
      split <;> omega
    rw [e]
    refine sn_congr fun t ht => ?_
    have h1 : t ≤ x.toNat / (s + 1) := by omega
    have h2 : t * (s + 1) ≤ x.toNat := (Nat.le_div_iff_mul_le (by omega)).1 h1
    rw [show (i - (t : Int)).toNat = i.toNat - t by omega]
    have e3 : (x - (t : Int) * (1 + (s : Int))).toNat = x.toNat - t * (s + 1) := by
      rw [show (t : Int) * (1 + (s : Int)) = ((t * (s + 1) : Nat) : Int) by rw [Int.natCast_mul]; congr 1; omega]
      omega
    rw [e3]
    congr 1
    unfold mc chI
    have h3 := nat_f hf (s + 1)
    rw [show ((1 : Int) + (s : Int)) = ((s + 1 : Nat) : Int) by omega, ← h3, Int.toNat_natCast]
    congr 2
    omega
  · have h1 : t ≤ x.toNat / (s + 1) := by omega
    exact (Nat.le_div_iff_mul_le (by omega)).1 h1
  · intro h
    have := (Nat.le_div_iff_mul_le (show 0 < s + 1 by omega)).2 h
    omega
theorem bgI_zero (f : Int → Int) (i x : Int) (hi : 0 ≤ i) (hx : 0 ≤ x) : bgI f 0 i x = if i = 0 ∧ x = 0 then 1 else 0 := by
  unfold bgI
  show (if i.toNat = 0 then (1 : Ser Int) else 0).co x.toNat = _
  by_cases h : i = 0
  · subst h
    rw [if_pos (show Int.toNat 0 = 0 from rfl)]
    show (0 : Int) + cone x.toNat = _
    by_cases h2 : x = 0
    · subst h2; rfl
    · rw [if_neg (fun z => h2 z.2)]
      obtain ⟨k, hk⟩ : ∃ k, x.toNat = k + 1 := ⟨x.toNat - 1, by omega⟩
      rw [hk]; rfl
  · rw [if_neg (by omega), if_neg (fun z => h z.1)]; rfl
theorem ch_sym_small {n k : Int} (hn : n ≤ 60) : -(2 ^ 64) < chI n k ∧ chI n k < 2 ^ 64 := by
  have := wt_small (l := true) (n := n) (k := k) hn
  simpa [wt] using this
theorem bag_ok (n m : Nat) (f : Int → Int) (hn : 1 ≤ n) (hn2 : n ≤ 12) (hm : m ≤ 11) (hf : ∀ i, 0 ≤ f i) (hf2 : ∀ i, f i ≤ 40) : m_law_bag [il n f, .int m] = .ok (.lst (tl (m + 1) fun i => il n (bgI f (n - 1) i))) := by
  refine m_ok rfl ?_
  unfold b_law_bag
  simp only [wE_var, wE_c, wE_bin, wE_un, wA_nil, wA_cons, wE_app, wE_call, wE_tup, wE_lst, wE_if, wE_isi, wE_sl, wR_oNo, wR_oAt, ex_int, ex_bl, ex_lst, ex_par, wB_val, wB_tru, wB_not, wB_and, wB_or, wB_yes, wE_and, wE_or, wE_not, wE_chain, nxQ_nx, nxQ_rt, nxQ_ct, nxQ_bk, wS_nil, wS_seq, wS_bk, wS_ct, wS_exp, wS_asg, wS_ret, wS_if, wS_aug, wS_asgG, wS_par, wS_app, wS_setix, wS_augix, wS_for, wA_seq, wA_rng, wE_lc, o_add_ii, o_add_ll, o_addI_ii, o_subI_ii, o_mul_ii, o_mulI_ii, o_mul_li, o_mulL_li, o_fdiv_ii, o_mod_ii, o_pow_ii, o_neg_i, o_cmp_ii, o_eq_ii, o_ne_ii, o_is_nn, o_is_in, o_not_nn, o_not_in, o_ix_lst, o_ix_tup, o_ix_scr, o_at, o_at_neg, o_set, tl_set, o_rng1, o_rng2, o_seq_lst, o_seq_tup, o_seq_scr, o_enum_lst, o_len_l, o_len_t, o_abs, o_max2, o_min2, o_int_i, o_int_b, o_list_l, o_list_s, o_list_t, o_sum_tl, o_tru_b, o_isi_int_i, o_isi_int_non, o_isi_bool_i, o_isi_list_l, o_gN, o_gT, o_gsNil, o_gsCons, o_cut_l, o_cut_s, tl_len, tl_cons, tl_snoc, enum_tl, wO_some, wR_ok, wR_of, lpQ_nx, lpQ_ct, List.getElem?_cons_zero, List.getElem?_cons_succ, List.set_cons_zero, List.set_cons_succ, List.length_cons, List.length_nil, List.length_map, List.length_range, List.cons_append, List.nil_append, List.replicate, Nat.reduceAdd, Nat.reduceSub, Int.toNat_natCast, decide_eq_true_eq, Bool.not_eq_true, Bool.not_true, Bool.not_false, if_true, Bool.false_eq_true, if_false, true_and, and_true, Int.reduceNeg, Int.reduceLE, Int.reduceLT, Nat.reduceLeDiff, Nat.reduceLT, Int.zero_add, Nat.zero_add, Int.sub_zero, ite_true, ite_false, reduceIte, Bool.not_eq_eq_eq_not]
  have em : ((m : Int) + 1).toNat = m + 1 := by omega
  rw [em]
  refine ⟨by omega, by omega, lc_tl (fun i => il n (bgI f 0 i)) ?_ ?_⟩
  · intro i hi
    simp only [wE_var, wE_c, wE_bin, wE_un, wA_nil, wA_cons, wE_app, wE_call, wE_tup, wE_lst, wE_if, wE_isi, wE_sl, wR_oNo, wR_oAt, ex_int, ex_bl, ex_lst, ex_par, wB_val, wB_tru, wB_not, wB_and, wB_or, wB_yes, wE_and, wE_or, wE_not, wE_chain, nxQ_nx, nxQ_rt, nxQ_ct, nxQ_bk, wS_nil, wS_seq, wS_bk, wS_ct, wS_exp, wS_asg, wS_ret, wS_if, wS_aug, wS_asgG, wS_par, wS_app, wS_setix, wS_augix, wS_for, wA_seq, wA_rng, wE_lc, o_add_ii, o_add_ll, o_addI_ii, o_subI_ii, o_mul_ii, o_mulI_ii, o_mul_li, o_mulL_li, o_fdiv_ii, o_mod_ii, o_pow_ii, o_neg_i, o_cmp_ii, o_eq_ii, o_ne_ii, o_is_nn, o_is_in, o_not_nn, o_not_in, o_ix_lst, o_ix_tup, o_ix_scr, o_at, o_at_neg, o_set, tl_set, o_rng1, o_rng2, o_seq_lst, o_seq_tup, o_seq_scr, o_enum_lst, o_len_l, o_len_t, o_abs, o_max2, o_min2, o_int_i, o_int_b, o_list_l, o_list_s, o_list_t, o_sum_tl, o_tru_b, o_isi_int_i, o_isi_int_non, o_isi_bool_i, o_isi_list_l, o_gN, o_gT, o_gsNil, o_gsCons, o_cut_l, o_cut_s, tl_len, tl_cons, tl_snoc, enum_tl, wO_some, wR_ok, wR_of, lpQ_nx, lpQ_ct, List.getElem?_cons_zero, List.getElem?_cons_succ, List.set_cons_zero, List.set_cons_succ, List.length_cons, List.length_nil, List.length_map, List.length_range, List.cons_append, List.nil_append, List.replicate, Nat.reduceAdd, Nat.reduceSub, Int.toNat_natCast, decide_eq_true_eq, Bool.not_eq_true, Bool.not_true, Bool.not_false, if_true, Bool.false_eq_true, if_false, true_and, and_true, Int.reduceNeg, Int.reduceLE, Int.reduceLT, Nat.reduceLeDiff, Nat.reduceLT, Int.zero_add, Nat.zero_add, Int.sub_zero, ite_true, ite_false, reduceIte, Bool.not_eq_eq_eq_not]
    refine ⟨by omega, by omega, lc_tl (fun x => .int (bgI f 0 i x)) ?_ rfl⟩
    intro x hx
    simp only [wE_var, wE_c, wE_bin, wE_un, wA_nil, wA_cons, wE_app, wE_call, wE_tup, wE_lst, wE_if, wE_isi, wE_sl, wR_oNo, wR_oAt, ex_int, ex_bl, ex_lst, ex_par, wB_val, wB_tru, wB_not, wB_and, wB_or, wB_yes, wE_and, wE_or, wE_not, wE_chain, nxQ_nx, nxQ_rt, nxQ_ct, nxQ_bk, wS_nil, wS_seq, wS_bk, wS_ct, wS_exp, wS_asg, wS_ret, wS_if, wS_aug, wS_asgG, wS_par, wS_app, wS_setix, wS_augix, wS_for, wA_seq, wA_rng, wE_lc, o_add_ii, o_add_ll, o_addI_ii, o_subI_ii, o_mul_ii, o_mulI_ii, o_mul_li, o_mulL_li, o_fdiv_ii, o_mod_ii, o_pow_ii, o_neg_i, o_cmp_ii, o_eq_ii, o_ne_ii, o_is_nn, o_is_in, o_not_nn, o_not_in, o_ix_lst, o_ix_tup, o_ix_scr, o_at, o_at_neg, o_set, tl_set, o_rng1, o_rng2, o_seq_lst, o_seq_tup, o_seq_scr, o_enum_lst, o_len_l, o_len_t, o_abs, o_max2, o_min2, o_int_i, o_int_b, o_list_l, o_list_s, o_list_t, o_sum_tl, o_tru_b, o_isi_int_i, o_isi_int_non, o_isi_bool_i, o_isi_list_l, o_gN, o_gT, o_gsNil, o_gsCons, o_cut_l, o_cut_s, tl_len, tl_cons, tl_snoc, enum_tl, wO_some, wR_ok, wR_of, lpQ_nx, lpQ_ct, List.getElem?_cons_zero, List.getElem?_cons_succ, List.set_cons_zero, List.set_cons_succ, List.length_cons, List.length_nil, List.length_map, List.length_range, List.cons_append, List.nil_append, List.replicate, Nat.reduceAdd, Nat.reduceSub, Int.toNat_natCast, decide_eq_true_eq, Bool.not_eq_true, Bool.not_true, Bool.not_false, if_true, Bool.false_eq_true, if_false, true_and, and_true, Int.reduceNeg, Int.reduceLE, Int.reduceLT, Nat.reduceLeDiff, Nat.reduceLT, Int.zero_add, Nat.zero_add, Int.sub_zero, ite_true, ite_false, reduceIte, Bool.not_eq_eq_eq_not]
    rw [bgI_zero f i x (by omega) (by omega)]
    by_cases h1 : (i : Int) = 0
    · simp only [h1, decide_true, if_true, true_and]
    · simp only [h1, decide_false, if_false, Bool.false_eq_true, false_and]
  · refine ⟨by omega, wF_rng (fun s Γ => ∃ L j2 j3 j5 j6 j7 j8 j9, Γ = [il n f, .int m, j2, j3, .lst L, j5, j6, j7, j8, j9] ∧ L = tl (m + 1) fun i => il n (bgI f s i)) ⟨_, _, _, _, _, _, _, _, rfl, rfl⟩ ?_ ?_⟩
    · rintro s Γ hs ⟨_, j2, j3, j5, j6, j7, j8, j9, rfl, rfl⟩
      simp only [wE_var, wE_c, wE_bin, wE_un, wA_nil, wA_cons, wE_app, wE_call, wE_tup, wE_lst, wE_if, wE_isi, wE_sl, wR_oNo, wR_oAt, ex_int, ex_bl, ex_lst, ex_par, wB_val, wB_tru, wB_not, wB_and, wB_or, wB_yes, wE_and, wE_or, wE_not, wE_chain, nxQ_nx, nxQ_rt, nxQ_ct, nxQ_bk, wS_nil, wS_seq, wS_bk, wS_ct, wS_exp, wS_asg, wS_ret, wS_if, wS_aug, wS_asgG, wS_par, wS_app, wS_setix, wS_augix, wS_for, wA_seq, wA_rng, wE_lc, o_add_ii, o_add_ll, o_addI_ii, o_subI_ii, o_mul_ii, o_mulI_ii, o_mul_li, o_mulL_li, o_fdiv_ii, o_mod_ii, o_pow_ii, o_neg_i, o_cmp_ii, o_eq_ii, o_ne_ii, o_is_nn, o_is_in, o_not_nn, o_not_in, o_ix_lst, o_ix_tup, o_ix_scr, o_at, o_at_neg, o_set, tl_set, o_rng1, o_rng2, o_seq_lst, o_seq_tup, o_seq_scr, o_enum_lst, o_len_l, o_len_t, o_abs, o_max2, o_min2, o_int_i, o_int_b, o_list_l, o_list_s, o_list_t, o_sum_tl, o_tru_b, o_isi_int_i, o_isi_int_non, o_isi_bool_i, o_isi_list_l, o_gN, o_gT, o_gsNil, o_gsCons, o_cut_l, o_cut_s, tl_len, tl_cons, tl_snoc, enum_tl, wO_some, wR_ok, wR_of, lpQ_nx, lpQ_ct, List.getElem?_cons_zero, List.getElem?_cons_succ, List.set_cons_zero, List.set_cons_succ, List.length_cons, List.length_nil, List.length_map, List.length_range, List.cons_append, List.nil_append, List.replicate, Nat.reduceAdd, Nat.reduceSub, Int.toNat_natCast, decide_eq_true_eq, Bool.not_eq_true, Bool.not_true, Bool.not_false, if_true, Bool.false_eq_true, if_false, true_and, and_true, Int.reduceNeg, Int.reduceLE, Int.reduceLT, Nat.reduceLeDiff, Nat.reduceLT, Int.zero_add, Nat.zero_add, Int.sub_zero, ite_true, ite_false, reduceIte, Bool.not_eq_eq_eq_not, wS_rows]
      rw [em]
      refine ⟨by omega, by omega, lc_tl (fun _ => il n fun _ => 0) ?_ ?_⟩
      · intro i hi
        simp only [wE_var, wE_c, wE_bin, wE_un, wA_nil, wA_cons, wE_app, wE_call, wE_tup, wE_lst, wE_if, wE_isi, wE_sl, wR_oNo, wR_oAt, ex_int, ex_bl, ex_lst, ex_par, wB_val, wB_tru, wB_not, wB_and, wB_or, wB_yes, wE_and, wE_or, wE_not, wE_chain, nxQ_nx, nxQ_rt, nxQ_ct, nxQ_bk, wS_nil, wS_seq, wS_bk, wS_ct, wS_exp, wS_asg, wS_ret, wS_if, wS_aug, wS_asgG, wS_par, wS_app, wS_setix, wS_augix, wS_for, wA_seq, wA_rng, wE_lc, o_add_ii, o_add_ll, o_addI_ii, o_subI_ii, o_mul_ii, o_mulI_ii, o_mul_li, o_mulL_li, o_fdiv_ii, o_mod_ii, o_pow_ii, o_neg_i, o_cmp_ii, o_eq_ii, o_ne_ii, o_is_nn, o_is_in, o_not_nn, o_not_in, o_ix_lst, o_ix_tup, o_ix_scr, o_at, o_at_neg, o_set, tl_set, o_rng1, o_rng2, o_seq_lst, o_seq_tup, o_seq_scr, o_enum_lst, o_len_l, o_len_t, o_abs, o_max2, o_min2, o_int_i, o_int_b, o_list_l, o_list_s, o_list_t, o_sum_tl, o_tru_b, o_isi_int_i, o_isi_int_non, o_isi_bool_i, o_isi_list_l, o_gN, o_gT, o_gsNil, o_gsCons, o_cut_l, o_cut_s, tl_len, tl_cons, tl_snoc, enum_tl, wO_some, wR_ok, wR_of, lpQ_nx, lpQ_ct, List.getElem?_cons_zero, List.getElem?_cons_succ, List.set_cons_zero, List.set_cons_succ, List.length_cons, List.length_nil, List.length_map, List.length_range, List.cons_append, List.nil_append, List.replicate, Nat.reduceAdd, Nat.reduceSub, Int.toNat_natCast, decide_eq_true_eq, Bool.not_eq_true, Bool.not_true, Bool.not_false, if_true, Bool.false_eq_true, if_false, true_and, and_true, Int.reduceNeg, Int.reduceLE, Int.reduceLT, Nat.reduceLeDiff, Nat.reduceLT, Int.zero_add, Nat.zero_add, Int.sub_zero, ite_true, ite_false, reduceIte, Bool.not_eq_eq_eq_not]
        omega
      · simp only [wE_var, wE_c, wE_bin, wE_un, wA_nil, wA_cons, wE_app, wE_call, wE_tup, wE_lst, wE_if, wE_isi, wE_sl, wR_oNo, wR_oAt, ex_int, ex_bl, ex_lst, ex_par, wB_val, wB_tru, wB_not, wB_and, wB_or, wB_yes, wE_and, wE_or, wE_not, wE_chain, nxQ_nx, nxQ_rt, nxQ_ct, nxQ_bk, wS_nil, wS_seq, wS_bk, wS_ct, wS_exp, wS_asg, wS_ret, wS_if, wS_aug, wS_asgG, wS_par, wS_app, wS_setix, wS_augix, wS_for, wA_seq, wA_rng, wE_lc, o_add_ii, o_add_ll, o_addI_ii, o_subI_ii, o_mul_ii, o_mulI_ii, o_mul_li, o_mulL_li, o_fdiv_ii, o_mod_ii, o_pow_ii, o_neg_i, o_cmp_ii, o_eq_ii, o_ne_ii, o_is_nn, o_is_in, o_not_nn, o_not_in, o_ix_lst, o_ix_tup, o_ix_scr, o_at, o_at_neg, o_set, tl_set, o_rng1, o_rng2, o_seq_lst, o_seq_tup, o_seq_scr, o_enum_lst, o_len_l, o_len_t, o_abs, o_max2, o_min2, o_int_i, o_int_b, o_list_l, o_list_s, o_list_t, o_sum_tl, o_tru_b, o_isi_int_i, o_isi_int_non, o_isi_bool_i, o_isi_list_l, o_gN, o_gT, o_gsNil, o_gsCons, o_cut_l, o_cut_s, tl_len, tl_cons, tl_snoc, enum_tl, wO_some, wR_ok, wR_of, lpQ_nx, lpQ_ct, List.getElem?_cons_zero, List.getElem?_cons_succ, List.set_cons_zero, List.set_cons_succ, List.length_cons, List.length_nil, List.length_map, List.length_range, List.cons_append, List.nil_append, List.replicate, Nat.reduceAdd, Nat.reduceSub, Int.toNat_natCast, decide_eq_true_eq, Bool.not_eq_true, Bool.not_true, Bool.not_false, if_true, Bool.false_eq_true, if_false, true_and, and_true, Int.reduceNeg, Int.reduceLE, Int.reduceLT, Nat.reduceLeDiff, Nat.reduceLT, Int.zero_add, Nat.zero_add, Int.sub_zero, ite_true, ite_false, reduceIte, Bool.not_eq_eq_eq_not]
        refine ⟨by omega, rows_tl (fun i => il n (bgI f (s + 1) i)) (fun i Γ => ∃ j2 j3 j6 j7 j8 j9, Γ = [il n f, .int m, j2, j3, .lst (tl (m + 1) fun i => il n (bgI f s i)), .int (1 + s), j6, j7, j8, j9]) ⟨_, _, _, _, _, _, rfl⟩ ?_ ?_⟩
        · rintro i Γ hi ⟨j2, j3, j6, j7, j8, j9, rfl⟩
          simp only [wE_var, wE_c, wE_bin, wE_un, wA_nil, wA_cons, wE_app, wE_call, wE_tup, wE_lst, wE_if, wE_isi, wE_sl, wR_oNo, wR_oAt, ex_int, ex_bl, ex_lst, ex_par, wB_val, wB_tru, wB_not, wB_and, wB_or, wB_yes, wE_and, wE_or, wE_not, wE_chain, nxQ_nx, nxQ_rt, nxQ_ct, nxQ_bk, wS_nil, wS_seq, wS_bk, wS_ct, wS_exp, wS_asg, wS_ret, wS_if, wS_aug, wS_asgG, wS_par, wS_app, wS_setix, wS_augix, wS_for, wA_seq, wA_rng, wE_lc, o_add_ii, o_add_ll, o_addI_ii, o_subI_ii, o_mul_ii, o_mulI_ii, o_mul_li, o_mulL_li, o_fdiv_ii, o_mod_ii, o_pow_ii, o_neg_i, o_cmp_ii, o_eq_ii, o_ne_ii, o_is_nn, o_is_in, o_not_nn, o_not_in, o_ix_lst, o_ix_tup, o_ix_scr, o_at, o_at_neg, o_set, tl_set, o_rng1, o_rng2, o_seq_lst, o_seq_tup, o_seq_scr, o_enum_lst, o_len_l, o_len_t, o_abs, o_max2, o_min2, o_int_i, o_int_b, o_list_l, o_list_s, o_list_t, o_sum_tl, o_tru_b, o_isi_int_i, o_isi_int_non, o_isi_bool_i, o_isi_list_l, o_gN, o_gT, o_gsNil, o_gsCons, o_cut_l, o_cut_s, tl_len, tl_cons, tl_snoc, enum_tl, wO_some, wR_ok, wR_of, lpQ_nx, lpQ_ct, List.getElem?_cons_zero, List.getElem?_cons_succ, List.set_cons_zero, List.set_cons_succ, List.length_cons, List.length_nil, List.length_map, List.length_range, List.cons_append, List.nil_append, List.replicate, Nat.reduceAdd, Nat.reduceSub, Int.toNat_natCast, decide_eq_true_eq, Bool.not_eq_true, Bool.not_true, Bool.not_false, if_true, Bool.false_eq_true, if_false, true_and, and_true, Int.reduceNeg, Int.reduceLE, Int.reduceLT, Nat.reduceLeDiff, Nat.reduceLT, Int.zero_add, Nat.zero_add, Int.sub_zero, ite_true, ite_false, reduceIte, Bool.not_eq_eq_eq_not]
          refine ⟨by omega, wF_rng (fun x Γ => ∃ L j3 j6 j8 j9, Γ = [il n f, .int m, .int i, j3, .lst (tl (m + 1) fun i => il n (bgI f s i)), .int (1 + s), j6, .lst L, j8, j9] ∧ L = tl n fun y => .int (if y < x then bgI f (s + 1) i y else 0)) ⟨_, _, _, _, _, rfl, ?_⟩ ?_ ?_⟩
          · refine tl_congr fun y _ _ => ?_
            rw [if_neg (by omega)]
          · rintro x Γ hx ⟨_, j3, j6, j8, j9, rfl, rfl⟩
            simp only [wE_var, wE_c, wE_bin, wE_un, wA_nil, wA_cons, wE_app, wE_call, wE_tup, wE_lst, wE_if, wE_isi, wE_sl, wR_oNo, wR_oAt, ex_int, ex_bl, ex_lst, ex_par, wB_val, wB_tru, wB_not, wB_and, wB_or, wB_yes, wE_and, wE_or, wE_not, wE_chain, nxQ_nx, nxQ_rt, nxQ_ct, nxQ_bk, wS_nil, wS_seq, wS_bk, wS_ct, wS_exp, wS_asg, wS_ret, wS_if, wS_aug, wS_asgG, wS_par, wS_app, wS_setix, wS_augix, wS_for, wA_seq, wA_rng, wE_lc, o_add_ii, o_add_ll, o_addI_ii, o_subI_ii, o_mul_ii, o_mulI_ii, o_mul_li, o_mulL_li, o_fdiv_ii, o_mod_ii, o_pow_ii, o_neg_i, o_cmp_ii, o_eq_ii, o_ne_ii, o_is_nn, o_is_in, o_not_nn, o_not_in, o_ix_lst, o_ix_tup, o_ix_scr, o_at, o_at_neg, o_set, tl_set, o_rng1, o_rng2, o_seq_lst, o_seq_tup, o_seq_scr, o_enum_lst, o_len_l, o_len_t, o_abs, o_max2, o_min2, o_int_i, o_int_b, o_list_l, o_list_s, o_list_t, o_sum_tl, o_tru_b, o_isi_int_i, o_isi_int_non, o_isi_bool_i, o_isi_list_l, o_gN, o_gT, o_gsNil, o_gsCons, o_cut_l, o_cut_s, tl_len, tl_cons, tl_snoc, enum_tl, wO_some, wR_ok, wR_of, lpQ_nx, lpQ_ct, List.getElem?_cons_zero, List.getElem?_cons_succ, List.set_cons_zero, List.set_cons_succ, List.length_cons, List.length_nil, List.length_map, List.length_range, List.cons_append, List.nil_append, List.replicate, Nat.reduceAdd, Nat.reduceSub, Int.toNat_natCast, decide_eq_true_eq, Bool.not_eq_true, Bool.not_true, Bool.not_false, if_true, Bool.false_eq_true, if_false, true_and, and_true, Int.reduceNeg, Int.reduceLE, Int.reduceLT, Nat.reduceLeDiff, Nat.reduceLT, Int.zero_add, Nat.zero_add, Int.sub_zero, ite_true, ite_false, reduceIte, Bool.not_eq_eq_eq_not]
            have hq0 : 0 ≤ (x : Int) / (1 + s) := Int.ediv_nonneg (by omega) (by omega)
            have hq1 : (x : Int) / (1 + s) ≤ x := Int.ediv_le_self _ (by omega)
            refine ⟨by omega, by omega, wF_rng (fun t Γ => ∃ T j9, Γ = [il n f, .int m, .int i, .int x, .lst (tl (m + 1) fun i => il n (bgI f s i)), .int (1 + s), j6, .lst (tl n fun y => .int (if y < x then bgI f (s + 1) i y else 0)), .int T, j9] ∧ T = sm t fun t => bgI f s (i - t) (x - t * (1 + s)) * chI (f (1 + s) + t - 1) t) ⟨_, _, rfl, rfl⟩ ?_ ?_⟩
            · rintro t Γ ht ⟨_, j9, rfl, rfl⟩
              have ht1 : (t : Int) ≤ i := by split at ht <;> omega
              have ht2 : (t : Int) ≤ x / (1 + s) := by split at ht <;> omega
              have ht3 : (t : Int) * (1 + s) ≤ x := by
                have h1 := Int.mul_le_mul_of_nonneg_right ht2 (show 0 ≤ 1 + (s : Int) by omega)
                have h2 := Int.ediv_mul_le (x : Int) (show 1 + (s : Int) ≠ 0 by omega)
                omega
              have ht4 : 0 ≤ (t : Int) * (1 + s) := Int.mul_nonneg (by omega) (by omega)
              have hfs := hf (1 + s)
              have hfs2 := hf2 (1 + s)
              simp (disch := omega) only [wE_var, wE_c, wE_bin, wE_un, wA_nil, wA_cons, wE_app, wE_call, wE_tup, wE_lst, wE_if, wE_isi, wE_sl, wR_oNo, wR_oAt, ex_int, ex_bl, ex_lst, ex_par, wB_val, wB_tru, wB_not, wB_and, wB_or, wB_yes, wE_and, wE_or, wE_not, wE_chain, nxQ_nx, nxQ_rt, nxQ_ct, nxQ_bk, wS_nil, wS_seq, wS_bk, wS_ct, wS_exp, wS_asg, wS_ret, wS_if, wS_aug, wS_asgG, wS_par, wS_app, wS_setix, wS_augix, wS_for, wA_seq, wA_rng, wE_lc, o_add_ii, o_add_ll, o_addI_ii, o_subI_ii, o_mul_ii, o_mulI_ii, o_mul_li, o_mulL_li, o_fdiv_ii, o_mod_ii, o_pow_ii, o_neg_i, o_cmp_ii, o_eq_ii, o_ne_ii, o_is_nn, o_is_in, o_not_nn, o_not_in, o_ix_lst, o_ix_tup, o_ix_scr, o_at, o_at_neg, o_set, tl_set, o_rng1, o_rng2, o_seq_lst, o_seq_tup, o_seq_scr, o_enum_lst, o_len_l, o_len_t, o_abs, o_max2, o_min2, o_int_i, o_int_b, o_list_l, o_list_s, o_list_t, o_sum_tl, o_tru_b, o_isi_int_i, o_isi_int_non, o_isi_bool_i, o_isi_list_l, o_gN, o_gT, o_gsNil, o_gsCons, o_cut_l, o_cut_s, tl_len, tl_cons, tl_snoc, enum_tl, wO_some, wR_ok, wR_of, lpQ_nx, lpQ_ct, List.getElem?_cons_zero, List.getElem?_cons_succ, List.set_cons_zero, List.set_cons_succ, List.length_cons, List.length_nil, List.length_map, List.length_range, List.cons_append, List.nil_append, List.replicate, Nat.reduceAdd, Nat.reduceSub, Int.toNat_natCast, decide_eq_true_eq, Bool.not_eq_true, Bool.not_true, Bool.not_false, if_true, Bool.false_eq_true, if_false, true_and, and_true, Int.reduceNeg, Int.reduceLE, Int.reduceLT, Nat.reduceLeDiff, Nat.reduceLT, Int.zero_add, Nat.zero_add, Int.sub_zero, ite_true, ite_false, reduceIte, Bool.not_eq_eq_eq_not, binom_ok (f (1 + s) + t - 1) t (by omega) (by omega) (by omega)]
              refine ⟨.inl (by omega), .inr (ch_sym_small (by omega)), _, _, rfl, ?_⟩
              rw [sm]
            · rintro Γ' ⟨_, j9, rfl, rfl⟩
              simp (disch := omega) only [wE_var, wE_c, wE_bin, wE_un, wA_nil, wA_cons, wE_app, wE_call, wE_tup, wE_lst, wE_if, wE_isi, wE_sl, wR_oNo, wR_oAt, ex_int, ex_bl, ex_lst, ex_par, wB_val, wB_tru, wB_not, wB_and, wB_or, wB_yes, wE_and, wE_or, wE_not, wE_chain, nxQ_nx, nxQ_rt, nxQ_ct, nxQ_bk, wS_nil, wS_seq, wS_bk, wS_ct, wS_exp, wS_asg, wS_ret, wS_if, wS_aug, wS_asgG, wS_par, wS_app, wS_setix, wS_augix, wS_for, wA_seq, wA_rng, wE_lc, o_add_ii, o_add_ll, o_addI_ii, o_subI_ii, o_mul_ii, o_mulI_ii, o_mul_li, o_mulL_li, o_fdiv_ii, o_mod_ii, o_pow_ii, o_neg_i, o_cmp_ii, o_eq_ii, o_ne_ii, o_is_nn, o_is_in, o_not_nn, o_not_in, o_ix_lst, o_ix_tup, o_ix_scr, o_at, o_at_neg, o_set, tl_set, o_rng1, o_rng2, o_seq_lst, o_seq_tup, o_seq_scr, o_enum_lst, o_len_l, o_len_t, o_abs, o_max2, o_min2, o_int_i, o_int_b, o_list_l, o_list_s, o_list_t, o_sum_tl, o_tru_b, o_isi_int_i, o_isi_int_non, o_isi_bool_i, o_isi_list_l, o_gN, o_gT, o_gsNil, o_gsCons, o_cut_l, o_cut_s, tl_len, tl_cons, tl_snoc, enum_tl, wO_some, wR_ok, wR_of, lpQ_nx, lpQ_ct, List.getElem?_cons_zero, List.getElem?_cons_succ, List.set_cons_zero, List.set_cons_succ, List.length_cons, List.length_nil, List.length_map, List.length_range, List.cons_append, List.nil_append, List.replicate, Nat.reduceAdd, Nat.reduceSub, Int.toNat_natCast, decide_eq_true_eq, Bool.not_eq_true, Bool.not_true, Bool.not_false, if_true, Bool.false_eq_true, if_false, true_and, and_true, Int.reduceNeg, Int.reduceLE, Int.reduceLT, Nat.reduceLeDiff, Nat.reduceLT, Int.zero_add, Nat.zero_add, Int.sub_zero, ite_true, ite_false, reduceIte, Bool.not_eq_eq_eq_not]
              rw [tl_setN, bgI_step f hf s i x (by omega) (by omega)]
              refine ⟨_, _, _, _, _, rfl, tl_congr fun y _ _ => ?_⟩
              by_cases hy : y = x
              · subst hy; rw [if_pos rfl, if_pos (by omega)]
              · rw [if_neg hy]
                have e : (y < (x : Int)) = (y < ((x + 1 : Nat) : Int)) := by rw [eq_iff_iff]; omega
                simp only [e]
          · rintro Γ' ⟨_, j3, j6, j8, j9, rfl, rfl⟩
            refine ⟨_, rfl, ?_, _, _, _, _, _, _, rfl⟩
            refine congrArg (fun z => some (D.lst z)) (tl_congr fun y _ _ => ?_)
            rw [if_pos (by omega)]
        · rintro Γ' ⟨j2, j3, j6, j7, j8, j9, rfl⟩
          exact ⟨_, _, _, _, _, _, _, _, rfl, rfl⟩
    · rintro Γ' ⟨_, j2, j3, j5, j6, j7, j8, j9, rfl, rfl⟩
      simp only [wE_var, wE_c, wE_bin, wE_un, wA_nil, wA_cons, wE_app, wE_call, wE_tup, wE_lst, wE_if, wE_isi, wE_sl, wR_oNo, wR_oAt, ex_int, ex_bl, ex_lst, ex_par, wB_val, wB_tru, wB_not, wB_and, wB_or, wB_yes, wE_and, wE_or, wE_not, wE_chain, nxQ_nx, nxQ_rt, nxQ_ct, nxQ_bk, wS_nil, wS_seq, wS_bk, wS_ct, wS_exp, wS_asg, wS_ret, wS_if, wS_aug, wS_asgG, wS_par, wS_app, wS_setix, wS_augix, wS_for, wA_seq, wA_rng, wE_lc, o_add_ii, o_add_ll, o_addI_ii, o_subI_ii, o_mul_ii, o_mulI_ii, o_mul_li, o_mulL_li, o_fdiv_ii, o_mod_ii, o_pow_ii, o_neg_i, o_cmp_ii, o_eq_ii, o_ne_ii, o_is_nn, o_is_in, o_not_nn, o_not_in, o_ix_lst, o_ix_tup, o_ix_scr, o_at, o_at_neg, o_set, tl_set, o_rng1, o_rng2, o_seq_lst, o_seq_tup, o_seq_scr, o_enum_lst, o_len_l, o_len_t, o_abs, o_max2, o_min2, o_int_i, o_int_b, o_list_l, o_list_s, o_list_t, o_sum_tl, o_tru_b, o_isi_int_i, o_isi_int_non, o_isi_bool_i, o_isi_list_l, o_gN, o_gT, o_gsNil, o_gsCons, o_cut_l, o_cut_s, tl_len, tl_cons, tl_snoc, enum_tl, wO_some, wR_ok, wR_of, lpQ_nx, lpQ_ct, List.getElem?_cons_zero, List.getElem?_cons_succ, List.set_cons_zero, List.set_cons_succ, List.length_cons, List.length_nil, List.length_map, List.length_range, List.cons_append, List.nil_append, List.replicate, Nat.reduceAdd, Nat.reduceSub, Int.toNat_natCast, decide_eq_true_eq, Bool.not_eq_true, Bool.not_true, Bool.not_false, if_true, Bool.false_eq_true, if_false, true_and, and_true, Int.reduceNeg, Int.reduceLE, Int.reduceLT, Nat.reduceLeDiff, Nat.reduceLT, Int.zero_add, Nat.zero_add, Int.sub_zero, ite_true, ite_false, reduceIte, Bool.not_eq_eq_eq_not]
      rw [show ((n : Int) - 1).toNat = n - 1 by omega]
end L2.DL.K20
set_option Elab.async false
set_option linter.all false
set_option maxRecDepth 100000
set_option autoImplicit false
namespace L2.DL.K20
open PySem PySem.Spec PyProof.Rows L2 L2.DL L2.SR
theorem wS_cut {g1 g2 : SF} {Γ : List D} {QS : Fl → Prop} (P : List D → Prop) (h1 : wS g1 Γ fun fl => ∃ Γ', fl = .nx Γ' ∧ P Γ') (h2 : ∀ Γ', P Γ' → wS g2 Γ' QS) : wS (sSeq g1 g2) Γ QS := by
  rw [wS_seq]
  refine wR_mono h1 fun fl hfl => ?_
  obtain ⟨Γ', rfl, p⟩ := hfl
  exact h2 Γ' p
/-- counts as the law draws them -/
structure Cts (f : Int → Int) : Prop where
  nn : ∀ i, 0 ≤ f i
  le : ∀ i, f i ≤ 8
theorem Cts.small {f : Int → Int} (h : Cts f) : small f := fun i => ⟨by have := h.nn i; omega, by have := h.le i; omega⟩
def wd (w : Fin 3) : Str := if w = 0 then "row" else if w = 1 then "set" else "ring"
/-- what m members give -/
def mem (w : Fin 3) (n : Nat) (l : Bool) (f : Int → Int) (m : Nat) (x : Int) : Int := if w = 0 then lrN l f m x else if w = 1 then memS n l f m x else memR l f m x
theorem bg_small {f : Int → Int} (h : Cts f) (r : Int → Int) : ∀ x k, x ≤ 60 → mOk (chI x k) (f (1 + k)) ∧ ∀ y, mOk (chI x k * f (1 + k)) (r y) := by
  intro x k hx
  have h1 := ch_sym_small (k := k) hx
  have h2 := h.nn (1 + k)
  have h3 := h.le (1 + k)
  have h4 : chI x k ≤ 2 ^ 60 := by
    have h5 := ch_le x.toNat k.toNat
    have h6 : 2 ^ x.toNat ≤ 2 ^ 60 := Nat.pow_le_pow_right (by omega) (by omega)
    unfold chI
    omega
  have h0 := chI_nn x k
  refine ⟨.inl h1, fun y => .inl ⟨?_, ?_⟩⟩
  · have := Int.mul_nonneg h0 h2
    omega
  · have h7 : chI x k * f (1 + k) ≤ 2 ^ 60 * 8 := Int.mul_le_mul h4 h3 h2 (by decide)
    omega
theorem wd_ok (w : Fin 3) : (PyData.strOk (wd w) && PyData.strOk "row") = true ∧ (PyData.strOk (wd w) && PyData.strOk "set") = true ∧ (PyData.strOk (wd w) && PyData.strOk "ring") = true ∧ (wd w == ("row" : Str)) = decide (w = 0) ∧ (wd w == ("set" : Str)) = decide (w = 1) ∧ (wd w == ("ring" : Str)) = decide (w = 2) := by
  revert w
  decide +kernel
theorem unit_ex (n : Nat) (hn : 1 ≤ n) : (D.int 1 :: tl ((n : Int) - 1).toNat fun _ => .int 0) = tl n fun i => .int (u1 i) := by
  rw [tl_cons, show ((n : Int) - 1).toNat + 1 = n by omega]
  refine tl_congr fun i _ _ => ?_
  unfold u1
  split <;> rfl
theorem mem_0 (w : Fin 3) (n : Nat) (l : Bool) (f : Int → Int) : mem w n l f 0 = u1 := by
  funext x
  unfold mem memS memR
  split
  · rfl
  · split <;> rfl
theorem mem_1 (w : Fin 3) (n : Nat) (l : Bool) (f : Int → Int) : mem w n l f 1 = lrN l f 1 := by
  funext x
  unfold mem memS memR
  split
  · rfl
  · split <;> rfl
theorem memS_set (n : Nat) (f : Int → Int) (m : Nat) : memS n true f m = setL f m := by
  funext x
  unfold memS
  match m with
  | 0 => rfl
  | 1 => rfl
  | m + 2 => rw [if_neg (by omega), if_neg (by omega), if_pos rfl]
theorem members_ok (n : Nat) (f : Int → Int) (hn : 1 ≤ n) (hn2 : n ≤ 12) (hc : Cts f) : ∀ (k m : Nat) (w : Fin 3) (l : Bool), m < k → m ≤ 11 → (f 0 = 0 ∨ m < 2) → m_law_members k [il n f, .str (wd w), .int m, .bl l] = .ok (il n (mem w n l f m))
  | 0, m, w, l, hk, _, _ => absurd hk (by omega)
  | k + 1, m, w, l, hk, hm, h0 => by
    obtain ⟨e1, e2, e3, e4, e5, e6⟩ := wd_ok w
    rw [m_law_members]
    refine m_ok rfl ?_
    unfold b_law_members
    simp (disch := omega) only [↓wE_var, ↓wE_c, ↓wE_bin, ↓wE_un, ↓wA_nil, ↓wA_cons, ↓wE_app, ↓wE_call, ↓wE_tup, ↓wE_lst, ↓wE_if, ↓wE_isi, ↓wE_sl, ↓wR_oNo, ↓wR_oAt, ↓ex_int, ↓ex_bl, ↓ex_lst, ↓ex_par, ↓wB_val, ↓wB_tru, ↓wB_not, ↓wB_and, ↓wB_or, ↓wB_yes, ↓wE_and, ↓wE_or, ↓wE_not, ↓wE_chain, ↓nxQ_nx, ↓nxQ_rt, ↓nxQ_ct, ↓nxQ_bk, ↓wS_nil, ↓wS_seq, ↓wS_bk, ↓wS_ct, ↓wS_exp, ↓wS_asg, ↓wS_ret, ↓wS_if, ↓wS_aug, ↓wS_asgG, ↓wS_par, ↓wS_app, ↓wS_setix, ↓wS_augix, ↓wS_for, ↓wA_seq, ↓wA_rng, ↓wE_lc, ↓o_add_ii, ↓o_add_ll, ↓o_addI_ii, ↓o_subI_ii, ↓o_mul_ii, ↓o_mulI_ii, ↓o_mul_li, ↓o_mulL_li, ↓o_fdiv_ii, ↓o_mod_ii, ↓o_pow_ii, ↓o_neg_i, ↓o_cmp_ii, ↓o_eq_ii, ↓o_ne_ii, ↓o_is_nn, ↓o_is_in, ↓o_not_nn, ↓o_not_in, ↓o_ix_lst, ↓o_ix_tup, ↓o_ix_scr, ↓o_at, ↓o_at_neg, ↓o_set, ↓o_rng1, ↓o_rng2, ↓o_seq_lst, ↓o_seq_tup, ↓o_seq_scr, ↓o_enum_lst, ↓o_len_l, ↓o_len_t, ↓o_abs, ↓o_max2, ↓o_min2, ↓o_int_i, ↓o_int_b, ↓o_list_l, ↓o_list_s, ↓o_list_t, ↓o_sum_tl, ↓o_tru_b, ↓o_isi_int_i, ↓o_isi_int_non, ↓o_isi_bool_i, ↓o_isi_list_l, ↓o_gN, ↓o_gT, ↓o_gsNil, ↓o_gsCons, ↓o_cut_l, ↓o_cut_s, ↓wO_some, ↓wR_ok, ↓wR_of, ↓lpQ_nx, ↓lpQ_ct, wE_var, wE_c, wE_bin, wE_un, wA_nil, wA_cons, wE_app, wE_call, wE_tup, wE_lst, wE_if, wE_isi, wE_sl, wR_oNo, wR_oAt, ex_int, ex_bl, ex_lst, ex_par, wB_val, wB_tru, wB_not, wB_and, wB_or, wB_yes, wE_and, wE_or, wE_not, wE_chain, nxQ_nx, nxQ_rt, nxQ_ct, nxQ_bk, wS_nil, wS_seq, wS_bk, wS_ct, wS_exp, wS_asg, wS_ret, wS_if, wS_aug, wS_asgG, wS_par, wS_app, wS_setix, wS_augix, wS_for, wA_seq, wA_rng, wE_lc, o_add_ii, o_add_ll, o_addI_ii, o_subI_ii, o_mul_ii, o_mulI_ii, o_mul_li, o_mulL_li, o_fdiv_ii, o_mod_ii, o_pow_ii, o_neg_i, o_cmp_ii, o_eq_ii, o_ne_ii, o_is_nn, o_is_in, o_not_nn, o_not_in, o_ix_lst, o_ix_tup, o_ix_scr, o_at, o_at_neg, o_set, o_rng1, o_rng2, o_seq_lst, o_seq_tup, o_seq_scr, o_enum_lst, o_len_l, o_len_t, o_abs, o_max2, o_min2, o_int_i, o_int_b, o_list_l, o_list_s, o_list_t, o_sum_tl, o_tru_b, o_isi_int_i, o_isi_int_non, o_isi_bool_i, o_isi_list_l, o_gN, o_gT, o_gsNil, o_gsCons, o_cut_l, o_cut_s, wO_some, wR_ok, wR_of, lpQ_nx, lpQ_ct, tl_set, tl_len, tl_cons, tl_snoc, enum_tl, List.getElem?_cons_zero, List.getElem?_cons_succ, List.set_cons_zero, List.set_cons_succ, List.length_cons, List.length_nil, List.length_map, List.length_range, List.cons_append, List.nil_append, List.replicate, Nat.reduceAdd, Nat.reduceSub, Int.toNat_natCast, decide_eq_true_eq, Bool.not_eq_true, Bool.not_true, Bool.not_false, if_true, Bool.false_eq_true, if_false, true_and, and_true, Int.reduceNeg, Int.reduceLE, Int.reduceLT, Nat.reduceLeDiff, Nat.reduceLT, Int.zero_add, Nat.zero_add, Int.sub_zero, ite_true, ite_false, reduceIte, Bool.not_eq_eq_eq_not, o_eq_ss, e1, e2, e3, e4, e5, e6, rows_ok n m l f hn (by omega) (by omega) (by omega) hc.small, unit_ex n hn]
    by_cases c0 : m = 0
    · subst c0
      rw [if_pos (by omega), mem_0]
      refine ⟨by omega, by omega, rfl⟩
    rw [if_neg (by omega)]
    by_cases c1 : m = 1
    · subst c1
      rw [mem_1]
      by_cases cw : w = 0
      · rw [if_pos cw]
      · rw [if_neg cw, if_pos (by omega)]
    by_cases cw : w = 0
    · rw [if_pos cw]
      subst cw
      rfl
    rw [if_neg cw, if_neg (by omega)]
    have hf0 : f 0 = 0 := by rcases h0 with h | h; exact h; omega
    have em : (m : Int) - 1 = ((m - 1 : Nat) : Int) := by omega
    rw [em]
    cases l with
    | true =>
      rw [if_pos rfl]
      by_cases c2 : w = 2
      · rw [if_pos c2, rows_ok n ((m - 1 : Nat) : Int) true f hn (by omega) (by omega) (by omega) hc.small, wR_ok, Int.toNat_natCast, bg_ok n f _ hn (by omega) (bg_small hc _), wR_ok]
        subst c2
        refine congrArg (fun z => Fl.rt (.lst z)) (tl_congr fun x _ _ => ?_)
        show _ = D.int (memR true f m x)
        unfold memR
        rw [if_neg c0, if_neg c1, if_pos rfl]
      · have cw1 : w = 1 := by omega
        subst cw1
        rw [if_neg c2]
        have ih := members_ok n f hn hn2 hc k (m - 1) 1 true (by omega) (by omega) (.inl hf0)
        have e : wd 1 = ("set" : Str) := rfl
        rw [e] at ih
        rw [ih, wR_ok, bg_ok n f _ hn (by omega) (bg_small hc _), wR_ok]
        refine congrArg (fun z => Fl.rt (.lst z)) (tl_congr fun x _ _ => ?_)
        show _ = D.int (memS n true f m x)
        have e2 : mem 1 n true f (m - 1) = setL f (m - 1) := memS_set n f (m - 1)
        rw [memS_set, e2]
        obtain ⟨j, rfl⟩ : ∃ j, m = j + 2 := ⟨m - 2, by omega⟩
        rfl
    | false =>
      rw [if_neg (by decide)]
      by_cases c2 : w = 2
      · rw [if_pos c2, turned_ok n m f hn (by omega) hm (by omega) hc.small, wR_ok]
        subst c2
        refine congrArg (fun z => Fl.rt (.lst z)) (tl_congr fun x _ _ => ?_)
        show _ = D.int (memR false f m x)
        unfold memR
        rw [if_neg c0, if_neg c1, if_neg (by decide)]
      · have cw1 : w = 1 := by omega
        subst cw1
        rw [if_neg c2, bag_ok n m f hn hn2 hm hc.nn (fun i => by have := hc.le i; omega)]
        simp (disch := omega) only [↓wE_var, ↓wE_c, ↓wE_bin, ↓wE_un, ↓wA_nil, ↓wA_cons, ↓wE_app, ↓wE_call, ↓wE_tup, ↓wE_lst, ↓wE_if, ↓wE_isi, ↓wE_sl, ↓wR_oNo, ↓wR_oAt, ↓ex_int, ↓ex_bl, ↓ex_lst, ↓ex_par, ↓wB_val, ↓wB_tru, ↓wB_not, ↓wB_and, ↓wB_or, ↓wB_yes, ↓wE_and, ↓wE_or, ↓wE_not, ↓wE_chain, ↓nxQ_nx, ↓nxQ_rt, ↓nxQ_ct, ↓nxQ_bk, ↓wS_nil, ↓wS_seq, ↓wS_bk, ↓wS_ct, ↓wS_exp, ↓wS_asg, ↓wS_ret, ↓wS_if, ↓wS_aug, ↓wS_asgG, ↓wS_par, ↓wS_app, ↓wS_setix, ↓wS_augix, ↓wS_for, ↓wA_seq, ↓wA_rng, ↓wE_lc, ↓o_add_ii, ↓o_add_ll, ↓o_addI_ii, ↓o_subI_ii, ↓o_mul_ii, ↓o_mulI_ii, ↓o_mul_li, ↓o_mulL_li, ↓o_fdiv_ii, ↓o_mod_ii, ↓o_pow_ii, ↓o_neg_i, ↓o_cmp_ii, ↓o_eq_ii, ↓o_ne_ii, ↓o_is_nn, ↓o_is_in, ↓o_not_nn, ↓o_not_in, ↓o_ix_lst, ↓o_ix_tup, ↓o_ix_scr, ↓o_at, ↓o_at_neg, ↓o_set, ↓o_rng1, ↓o_rng2, ↓o_seq_lst, ↓o_seq_tup, ↓o_seq_scr, ↓o_enum_lst, ↓o_len_l, ↓o_len_t, ↓o_abs, ↓o_max2, ↓o_min2, ↓o_int_i, ↓o_int_b, ↓o_list_l, ↓o_list_s, ↓o_list_t, ↓o_sum_tl, ↓o_tru_b, ↓o_isi_int_i, ↓o_isi_int_non, ↓o_isi_bool_i, ↓o_isi_list_l, ↓o_gN, ↓o_gT, ↓o_gsNil, ↓o_gsCons, ↓o_cut_l, ↓o_cut_s, ↓wO_some, ↓wR_ok, ↓wR_of, ↓lpQ_nx, ↓lpQ_ct, wE_var, wE_c, wE_bin, wE_un, wA_nil, wA_cons, wE_app, wE_call, wE_tup, wE_lst, wE_if, wE_isi, wE_sl, wR_oNo, wR_oAt, ex_int, ex_bl, ex_lst, ex_par, wB_val, wB_tru, wB_not, wB_and, wB_or, wB_yes, wE_and, wE_or, wE_not, wE_chain, nxQ_nx, nxQ_rt, nxQ_ct, nxQ_bk, wS_nil, wS_seq, wS_bk, wS_ct, wS_exp, wS_asg, wS_ret, wS_if, wS_aug, wS_asgG, wS_par, wS_app, wS_setix, wS_augix, wS_for, wA_seq, wA_rng, wE_lc, o_add_ii, o_add_ll, o_addI_ii, o_subI_ii, o_mul_ii, o_mulI_ii, o_mul_li, o_mulL_li, o_fdiv_ii, o_mod_ii, o_pow_ii, o_neg_i, o_cmp_ii, o_eq_ii, o_ne_ii, o_is_nn, o_is_in, o_not_nn, o_not_in, o_ix_lst, o_ix_tup, o_ix_scr, o_at, o_at_neg, o_set, o_rng1, o_rng2, o_seq_lst, o_seq_tup, o_seq_scr, o_enum_lst, o_len_l, o_len_t, o_abs, o_max2, o_min2, o_int_i, o_int_b, o_list_l, o_list_s, o_list_t, o_sum_tl, o_tru_b, o_isi_int_i, o_isi_int_non, o_isi_bool_i, o_isi_list_l, o_gN, o_gT, o_gsNil, o_gsCons, o_cut_l, o_cut_s, wO_some, wR_ok, wR_of, lpQ_nx, lpQ_ct, tl_set, tl_len, tl_cons, tl_snoc, enum_tl, List.getElem?_cons_zero, List.getElem?_cons_succ, List.set_cons_zero, List.set_cons_succ, List.length_cons, List.length_nil, List.length_map, List.length_range, List.cons_append, List.nil_append, List.replicate, Nat.reduceAdd, Nat.reduceSub, Int.toNat_natCast, decide_eq_true_eq, Bool.not_eq_true, Bool.not_true, Bool.not_false, if_true, Bool.false_eq_true, if_false, true_and, and_true, Int.reduceNeg, Int.reduceLE, Int.reduceLT, Nat.reduceLeDiff, Nat.reduceLT, Int.zero_add, Nat.zero_add, Int.sub_zero, ite_true, ite_false, reduceIte, Bool.not_eq_eq_eq_not]
        refine congrArg (fun z => Fl.rt (.lst z)) (tl_congr fun x _ _ => ?_)
        show _ = D.int (memS n false f m x)
        unfold memS bgI
        rw [if_neg c0, if_neg c1, if_neg (by decide), Int.toNat_natCast]
/-! the program's side -/
theorem table_ok (n top : Nat) (w : Fin 3) (l : Bool) (f : Int → Int) (hn : 1 ≤ n) (hn2 : n ≤ 12) (ht : top ≤ 11) (hc : Cts f) (h0 : f 0 = 0 ∨ top < 2) : m_members_table [il n f, .str (wd w), .int top, .bl l] = .ok (.lst (tl (top + 1) fun i => il n (mem w n l f i.toNat))) := by
  obtain ⟨e1, e2, e3, e4, e5, e6⟩ := wd_ok w
  refine m_ok rfl ?_
  unfold b_members_table
  simp (disch := omega) only [↓wE_var, ↓wE_c, ↓wE_bin, ↓wE_un, ↓wA_nil, ↓wA_cons, ↓wE_app, ↓wE_call, ↓wE_tup, ↓wE_lst, ↓wE_if, ↓wE_isi, ↓wE_sl, ↓wR_oNo, ↓wR_oAt, ↓ex_int, ↓ex_bl, ↓ex_lst, ↓ex_par, ↓wB_val, ↓wB_tru, ↓wB_not, ↓wB_and, ↓wB_or, ↓wB_yes, ↓wE_and, ↓wE_or, ↓wE_not, ↓wE_chain, ↓nxQ_nx, ↓nxQ_rt, ↓nxQ_ct, ↓nxQ_bk, ↓wS_nil, ↓wS_seq, ↓wS_bk, ↓wS_ct, ↓wS_exp, ↓wS_asg, ↓wS_ret, ↓wS_if, ↓wS_aug, ↓wS_asgG, ↓wS_par, ↓wS_app, ↓wS_setix, ↓wS_augix, ↓wS_for, ↓wA_seq, ↓wA_rng, ↓wE_lc, ↓o_add_ii, ↓o_add_ll, ↓o_addI_ii, ↓o_subI_ii, ↓o_mul_ii, ↓o_mulI_ii, ↓o_mul_li, ↓o_mulL_li, ↓o_fdiv_ii, ↓o_mod_ii, ↓o_pow_ii, ↓o_neg_i, ↓o_cmp_ii, ↓o_eq_ii, ↓o_ne_ii, ↓o_is_nn, ↓o_is_in, ↓o_not_nn, ↓o_not_in, ↓o_ix_lst, ↓o_ix_tup, ↓o_ix_scr, ↓o_at, ↓o_at_neg, ↓o_set, ↓o_rng1, ↓o_rng2, ↓o_seq_lst, ↓o_seq_tup, ↓o_seq_scr, ↓o_enum_lst, ↓o_len_l, ↓o_len_t, ↓o_abs, ↓o_max2, ↓o_min2, ↓o_int_i, ↓o_int_b, ↓o_list_l, ↓o_list_s, ↓o_list_t, ↓o_sum_tl, ↓o_tru_b, ↓o_isi_int_i, ↓o_isi_int_non, ↓o_isi_bool_i, ↓o_isi_list_l, ↓o_gN, ↓o_gT, ↓o_gsNil, ↓o_gsCons, ↓o_cut_l, ↓o_cut_s, ↓wO_some, ↓wR_ok, ↓wR_of, ↓lpQ_nx, ↓lpQ_ct, wE_var, wE_c, wE_bin, wE_un, wA_nil, wA_cons, wE_app, wE_call, wE_tup, wE_lst, wE_if, wE_isi, wE_sl, wR_oNo, wR_oAt, ex_int, ex_bl, ex_lst, ex_par, wB_val, wB_tru, wB_not, wB_and, wB_or, wB_yes, wE_and, wE_or, wE_not, wE_chain, nxQ_nx, nxQ_rt, nxQ_ct, nxQ_bk, wS_nil, wS_seq, wS_bk, wS_ct, wS_exp, wS_asg, wS_ret, wS_if, wS_aug, wS_asgG, wS_par, wS_app, wS_setix, wS_augix, wS_for, wA_seq, wA_rng, wE_lc, o_add_ii, o_add_ll, o_addI_ii, o_subI_ii, o_mul_ii, o_mulI_ii, o_mul_li, o_mulL_li, o_fdiv_ii, o_mod_ii, o_pow_ii, o_neg_i, o_cmp_ii, o_eq_ii, o_ne_ii, o_is_nn, o_is_in, o_not_nn, o_not_in, o_ix_lst, o_ix_tup, o_ix_scr, o_at, o_at_neg, o_set, o_rng1, o_rng2, o_seq_lst, o_seq_tup, o_seq_scr, o_enum_lst, o_len_l, o_len_t, o_abs, o_max2, o_min2, o_int_i, o_int_b, o_list_l, o_list_s, o_list_t, o_sum_tl, o_tru_b, o_isi_int_i, o_isi_int_non, o_isi_bool_i, o_isi_list_l, o_gN, o_gT, o_gsNil, o_gsCons, o_cut_l, o_cut_s, wO_some, wR_ok, wR_of, lpQ_nx, lpQ_ct, tl_set, tl_len, tl_cons, tl_snoc, enum_tl, List.getElem?_cons_zero, List.getElem?_cons_succ, List.set_cons_zero, List.set_cons_succ, List.length_cons, List.length_nil, List.length_map, List.length_range, List.cons_append, List.nil_append, List.replicate, Nat.reduceAdd, Nat.reduceSub, Int.toNat_natCast, decide_eq_true_eq, Bool.not_eq_true, Bool.not_true, Bool.not_false, if_true, Bool.false_eq_true, if_false, true_and, and_true, Int.reduceNeg, Int.reduceLE, Int.reduceLT, Nat.reduceLeDiff, Nat.reduceLT, Int.zero_add, Nat.zero_add, Int.sub_zero, ite_true, ite_false, reduceIte, Bool.not_eq_eq_eq_not, o_eq_ss, e1, e2, e3, e4, e5, e6]
  have hi : ∀ i : Int, i < ((top + 1 : Nat) : Int) → 0 ≤ i → (f 0 = 0 ∨ i.toNat < 2) := fun i h1 h2 => by
    rcases h0 with h | h
    · exact .inl h
    · exact .inr (by omega)
  by_cases cw : w = 0
  · subst cw
    rw [if_pos rfl, pow_ok n top l f hn (by omega) (by omega) hc.small, wR_ok]
    refine congrArg (fun z => Fl.rt (.lst z)) (tl_congr fun i h1 h2 => ?_)
    refine congrArg D.lst (tl_congr fun x h3 _ => ?_)
    show D.int (pwN l f i.toNat x) = .int (lrN l f i.toNat x)
    rw [lr_pw l f _ h3]
  rw [if_neg cw]
  cases l with
  | true =>
    rw [if_pos rfl]
    by_cases c1 : w = 1
    · subst c1
      have e : wd 1 = word true := rfl
      rw [e, lab_ok n top true f hn (by omega) ht hc.small, wR_ok]
      refine congrArg (fun z => Fl.rt (.lst z)) (tl_congr fun i h1 h2 => ?_)
      refine congrArg D.lst (tl_congr fun x h3 _ => ?_)
      have := lab_set n f i.toNat (hi i h2 h1) h3
      rw [show ((i.toNat : Nat) : Int) = i by omega] at this
      rw [this]; rfl
    · have c2 : w = 2 := by omega
      subst c2
      have e : wd 2 = word false := rfl
      rw [e, lab_ok n top false f hn (by omega) ht hc.small, wR_ok]
      refine congrArg (fun z => Fl.rt (.lst z)) (tl_congr fun i h1 h2 => ?_)
      refine congrArg D.lst (tl_congr fun x h3 _ => ?_)
      have := lab_ring f i.toNat (hi i h2 h1) h3
      rw [show ((i.toNat : Nat) : Int) = i by omega] at this
      rw [this]; rfl
  | false =>
    rw [if_neg (by decide)]
    by_cases c1 : w = 1
    · subst c1
      rw [if_pos rfl, ms_ok n top f (fun i => memS n false f i.toNat) hn (by omega) ht hc.small (fun x h1 h2 => by simp only [memS]; rw [if_pos (show Int.toNat 0 = 0 from rfl)]) (fun i h1 h2 x h3 h4 => by
        have := newton n top f hc.nn hn h0 i h1 h2 x h3 h4
        simp only [Int.toNat_natCast]
        exact this), wR_ok]
      rfl
    · have c2 : w = 2 := by omega
      subst c2
      rw [if_neg (by decide), tot_ok top ht, wR_ok, tr_ok n top f phi hn (by omega) ht hc.small phi_small, wR_ok]
      refine congrArg (fun z => Fl.rt (.lst z)) (tl_congr fun i h1 h2 => ?_)
      refine congrArg D.lst (tl_congr fun x h3 _ => ?_)
      have := ring_mem f i.toNat (by omega) h3
      rw [show ((i.toNat : Nat) : Int) = i by omega] at this
      exact congrArg D.int this
theorem whole_ok (i : Int) (h : 0 ≤ i) : m_is_whole [.int i] = .ok (.bl true) := by
  refine m_ok rfl ?_
  unfold b_is_whole
  simp only [↓wE_var, ↓wE_c, ↓wE_bin, ↓wE_un, ↓wA_nil, ↓wA_cons, ↓wE_app, ↓wE_call, ↓wE_tup, ↓wE_lst, ↓wE_if, ↓wE_isi, ↓wE_sl, ↓wR_oNo, ↓wR_oAt, ↓ex_int, ↓ex_bl, ↓ex_lst, ↓ex_par, ↓wB_val, ↓wB_tru, ↓wB_not, ↓wB_and, ↓wB_or, ↓wB_yes, ↓wE_and, ↓wE_or, ↓wE_not, ↓wE_chain, ↓nxQ_nx, ↓nxQ_rt, ↓nxQ_ct, ↓nxQ_bk, ↓wS_nil, ↓wS_seq, ↓wS_bk, ↓wS_ct, ↓wS_exp, ↓wS_asg, ↓wS_ret, ↓wS_if, ↓wS_aug, ↓wS_asgG, ↓wS_par, ↓wS_app, ↓wS_setix, ↓wS_augix, ↓wS_for, ↓wA_seq, ↓wA_rng, ↓wE_lc, ↓o_add_ii, ↓o_add_ll, ↓o_addI_ii, ↓o_subI_ii, ↓o_mul_ii, ↓o_mulI_ii, ↓o_mul_li, ↓o_mulL_li, ↓o_fdiv_ii, ↓o_mod_ii, ↓o_pow_ii, ↓o_neg_i, ↓o_cmp_ii, ↓o_eq_ii, ↓o_ne_ii, ↓o_is_nn, ↓o_is_in, ↓o_not_nn, ↓o_not_in, ↓o_ix_lst, ↓o_ix_tup, ↓o_ix_scr, ↓o_at, ↓o_at_neg, ↓o_set, ↓o_rng1, ↓o_rng2, ↓o_seq_lst, ↓o_seq_tup, ↓o_seq_scr, ↓o_enum_lst, ↓o_len_l, ↓o_len_t, ↓o_abs, ↓o_max2, ↓o_min2, ↓o_int_i, ↓o_int_b, ↓o_list_l, ↓o_list_s, ↓o_list_t, ↓o_sum_tl, ↓o_tru_b, ↓o_isi_int_i, ↓o_isi_int_non, ↓o_isi_bool_i, ↓o_isi_list_l, ↓o_gN, ↓o_gT, ↓o_gsNil, ↓o_gsCons, ↓o_cut_l, ↓o_cut_s, ↓wO_some, ↓wR_ok, ↓wR_of, ↓lpQ_nx, ↓lpQ_ct, wE_var, wE_c, wE_bin, wE_un, wA_nil, wA_cons, wE_app, wE_call, wE_tup, wE_lst, wE_if, wE_isi, wE_sl, wR_oNo, wR_oAt, ex_int, ex_bl, ex_lst, ex_par, wB_val, wB_tru, wB_not, wB_and, wB_or, wB_yes, wE_and, wE_or, wE_not, wE_chain, nxQ_nx, nxQ_rt, nxQ_ct, nxQ_bk, wS_nil, wS_seq, wS_bk, wS_ct, wS_exp, wS_asg, wS_ret, wS_if, wS_aug, wS_asgG, wS_par, wS_app, wS_setix, wS_augix, wS_for, wA_seq, wA_rng, wE_lc, o_add_ii, o_add_ll, o_addI_ii, o_subI_ii, o_mul_ii, o_mulI_ii, o_mul_li, o_mulL_li, o_fdiv_ii, o_mod_ii, o_pow_ii, o_neg_i, o_cmp_ii, o_eq_ii, o_ne_ii, o_is_nn, o_is_in, o_not_nn, o_not_in, o_ix_lst, o_ix_tup, o_ix_scr, o_at, o_at_neg, o_set, o_rng1, o_rng2, o_seq_lst, o_seq_tup, o_seq_scr, o_enum_lst, o_len_l, o_len_t, o_abs, o_max2, o_min2, o_int_i, o_int_b, o_list_l, o_list_s, o_list_t, o_sum_tl, o_tru_b, o_isi_int_i, o_isi_int_non, o_isi_bool_i, o_isi_list_l, o_gN, o_gT, o_gsNil, o_gsCons, o_cut_l, o_cut_s, wO_some, wR_ok, wR_of, lpQ_nx, lpQ_ct, tl_set, tl_len, tl_cons, tl_snoc, enum_tl, List.getElem?_cons_zero, List.getElem?_cons_succ, List.set_cons_zero, List.set_cons_succ, List.length_cons, List.length_nil, List.length_map, List.length_range, List.cons_append, List.nil_append, List.replicate, Nat.reduceAdd, Nat.reduceSub, Int.toNat_natCast, decide_eq_true_eq, Bool.not_eq_true, Bool.not_true, Bool.not_false, if_true, Bool.false_eq_true, if_false, true_and, and_true, Int.reduceNeg, Int.reduceLE, Int.reduceLT, Nat.reduceLeDiff, Nat.reduceLT, Int.zero_add, Nat.zero_add, Int.sub_zero, ite_true, ite_false, reduceIte, Bool.not_eq_eq_eq_not]
  rw [decide_eq_true h]
theorem counts_ok (n : Nat) (f : Int → Int) (hn : 1 ≤ n) (hn2 : n ≤ 12) (hf : ∀ i, 0 ≤ f i) : m_are_counts [il n f] = .ok (.bl true) := by
  refine m_ok rfl ?_
  unfold b_are_counts
  simp only [↓wE_var, ↓wE_c, ↓wE_bin, ↓wE_un, ↓wA_nil, ↓wA_cons, ↓wE_app, ↓wE_call, ↓wE_tup, ↓wE_lst, ↓wE_if, ↓wE_isi, ↓wE_sl, ↓wR_oNo, ↓wR_oAt, ↓ex_int, ↓ex_bl, ↓ex_lst, ↓ex_par, ↓wB_val, ↓wB_tru, ↓wB_not, ↓wB_and, ↓wB_or, ↓wB_yes, ↓wE_and, ↓wE_or, ↓wE_not, ↓wE_chain, ↓nxQ_nx, ↓nxQ_rt, ↓nxQ_ct, ↓nxQ_bk, ↓wS_nil, ↓wS_seq, ↓wS_bk, ↓wS_ct, ↓wS_exp, ↓wS_asg, ↓wS_ret, ↓wS_if, ↓wS_aug, ↓wS_asgG, ↓wS_par, ↓wS_app, ↓wS_setix, ↓wS_augix, ↓wS_for, ↓wA_seq, ↓wA_rng, ↓wE_lc, ↓o_add_ii, ↓o_add_ll, ↓o_addI_ii, ↓o_subI_ii, ↓o_mul_ii, ↓o_mulI_ii, ↓o_mul_li, ↓o_mulL_li, ↓o_fdiv_ii, ↓o_mod_ii, ↓o_pow_ii, ↓o_neg_i, ↓o_cmp_ii, ↓o_eq_ii, ↓o_ne_ii, ↓o_is_nn, ↓o_is_in, ↓o_not_nn, ↓o_not_in, ↓o_ix_lst, ↓o_ix_tup, ↓o_ix_scr, ↓o_at, ↓o_at_neg, ↓o_set, ↓o_rng1, ↓o_rng2, ↓o_seq_lst, ↓o_seq_tup, ↓o_seq_scr, ↓o_enum_lst, ↓o_len_l, ↓o_len_t, ↓o_abs, ↓o_max2, ↓o_min2, ↓o_int_i, ↓o_int_b, ↓o_list_l, ↓o_list_s, ↓o_list_t, ↓o_sum_tl, ↓o_tru_b, ↓o_isi_int_i, ↓o_isi_int_non, ↓o_isi_bool_i, ↓o_isi_list_l, ↓o_gN, ↓o_gT, ↓o_gsNil, ↓o_gsCons, ↓o_cut_l, ↓o_cut_s, ↓wO_some, ↓wR_ok, ↓wR_of, ↓lpQ_nx, ↓lpQ_ct, wE_var, wE_c, wE_bin, wE_un, wA_nil, wA_cons, wE_app, wE_call, wE_tup, wE_lst, wE_if, wE_isi, wE_sl, wR_oNo, wR_oAt, ex_int, ex_bl, ex_lst, ex_par, wB_val, wB_tru, wB_not, wB_and, wB_or, wB_yes, wE_and, wE_or, wE_not, wE_chain, nxQ_nx, nxQ_rt, nxQ_ct, nxQ_bk, wS_nil, wS_seq, wS_bk, wS_ct, wS_exp, wS_asg, wS_ret, wS_if, wS_aug, wS_asgG, wS_par, wS_app, wS_setix, wS_augix, wS_for, wA_seq, wA_rng, wE_lc, o_add_ii, o_add_ll, o_addI_ii, o_subI_ii, o_mul_ii, o_mulI_ii, o_mul_li, o_mulL_li, o_fdiv_ii, o_mod_ii, o_pow_ii, o_neg_i, o_cmp_ii, o_eq_ii, o_ne_ii, o_is_nn, o_is_in, o_not_nn, o_not_in, o_ix_lst, o_ix_tup, o_ix_scr, o_at, o_at_neg, o_set, o_rng1, o_rng2, o_seq_lst, o_seq_tup, o_seq_scr, o_enum_lst, o_len_l, o_len_t, o_abs, o_max2, o_min2, o_int_i, o_int_b, o_list_l, o_list_s, o_list_t, o_sum_tl, o_tru_b, o_isi_int_i, o_isi_int_non, o_isi_bool_i, o_isi_list_l, o_gN, o_gT, o_gsNil, o_gsCons, o_cut_l, o_cut_s, wO_some, wR_ok, wR_of, lpQ_nx, lpQ_ct, tl_set, tl_len, tl_cons, tl_snoc, enum_tl, List.getElem?_cons_zero, List.getElem?_cons_succ, List.set_cons_zero, List.set_cons_succ, List.length_cons, List.length_nil, List.length_map, List.length_range, List.cons_append, List.nil_append, List.replicate, Nat.reduceAdd, Nat.reduceSub, Int.toNat_natCast, decide_eq_true_eq, Bool.not_eq_true, Bool.not_true, Bool.not_false, if_true, Bool.false_eq_true, if_false, true_and, and_true, Int.reduceNeg, Int.reduceLE, Int.reduceLT, Nat.reduceLeDiff, Nat.reduceLT, Int.zero_add, Nat.zero_add, Int.sub_zero, ite_true, ite_false, reduceIte, Bool.not_eq_eq_eq_not]
  rw [if_pos (by omega), if_pos (by omega)]
  refine ⟨by omega, lc_tl2 (fun _ => .bl true) ?_ ?_⟩
  · intro i hi
    simp only [↓wE_var, ↓wE_c, ↓wE_bin, ↓wE_un, ↓wA_nil, ↓wA_cons, ↓wE_app, ↓wE_call, ↓wE_tup, ↓wE_lst, ↓wE_if, ↓wE_isi, ↓wE_sl, ↓wR_oNo, ↓wR_oAt, ↓ex_int, ↓ex_bl, ↓ex_lst, ↓ex_par, ↓wB_val, ↓wB_tru, ↓wB_not, ↓wB_and, ↓wB_or, ↓wB_yes, ↓wE_and, ↓wE_or, ↓wE_not, ↓wE_chain, ↓nxQ_nx, ↓nxQ_rt, ↓nxQ_ct, ↓nxQ_bk, ↓wS_nil, ↓wS_seq, ↓wS_bk, ↓wS_ct, ↓wS_exp, ↓wS_asg, ↓wS_ret, ↓wS_if, ↓wS_aug, ↓wS_asgG, ↓wS_par, ↓wS_app, ↓wS_setix, ↓wS_augix, ↓wS_for, ↓wA_seq, ↓wA_rng, ↓wE_lc, ↓o_add_ii, ↓o_add_ll, ↓o_addI_ii, ↓o_subI_ii, ↓o_mul_ii, ↓o_mulI_ii, ↓o_mul_li, ↓o_mulL_li, ↓o_fdiv_ii, ↓o_mod_ii, ↓o_pow_ii, ↓o_neg_i, ↓o_cmp_ii, ↓o_eq_ii, ↓o_ne_ii, ↓o_is_nn, ↓o_is_in, ↓o_not_nn, ↓o_not_in, ↓o_ix_lst, ↓o_ix_tup, ↓o_ix_scr, ↓o_at, ↓o_at_neg, ↓o_set, ↓o_rng1, ↓o_rng2, ↓o_seq_lst, ↓o_seq_tup, ↓o_seq_scr, ↓o_enum_lst, ↓o_len_l, ↓o_len_t, ↓o_abs, ↓o_max2, ↓o_min2, ↓o_int_i, ↓o_int_b, ↓o_list_l, ↓o_list_s, ↓o_list_t, ↓o_sum_tl, ↓o_tru_b, ↓o_isi_int_i, ↓o_isi_int_non, ↓o_isi_bool_i, ↓o_isi_list_l, ↓o_gN, ↓o_gT, ↓o_gsNil, ↓o_gsCons, ↓o_cut_l, ↓o_cut_s, ↓wO_some, ↓wR_ok, ↓wR_of, ↓lpQ_nx, ↓lpQ_ct, wE_var, wE_c, wE_bin, wE_un, wA_nil, wA_cons, wE_app, wE_call, wE_tup, wE_lst, wE_if, wE_isi, wE_sl, wR_oNo, wR_oAt, ex_int, ex_bl, ex_lst, ex_par, wB_val, wB_tru, wB_not, wB_and, wB_or, wB_yes, wE_and, wE_or, wE_not, wE_chain, nxQ_nx, nxQ_rt, nxQ_ct, nxQ_bk, wS_nil, wS_seq, wS_bk, wS_ct, wS_exp, wS_asg, wS_ret, wS_if, wS_aug, wS_asgG, wS_par, wS_app, wS_setix, wS_augix, wS_for, wA_seq, wA_rng, wE_lc, o_add_ii, o_add_ll, o_addI_ii, o_subI_ii, o_mul_ii, o_mulI_ii, o_mul_li, o_mulL_li, o_fdiv_ii, o_mod_ii, o_pow_ii, o_neg_i, o_cmp_ii, o_eq_ii, o_ne_ii, o_is_nn, o_is_in, o_not_nn, o_not_in, o_ix_lst, o_ix_tup, o_ix_scr, o_at, o_at_neg, o_set, o_rng1, o_rng2, o_seq_lst, o_seq_tup, o_seq_scr, o_enum_lst, o_len_l, o_len_t, o_abs, o_max2, o_min2, o_int_i, o_int_b, o_list_l, o_list_s, o_list_t, o_sum_tl, o_tru_b, o_isi_int_i, o_isi_int_non, o_isi_bool_i, o_isi_list_l, o_gN, o_gT, o_gsNil, o_gsCons, o_cut_l, o_cut_s, wO_some, wR_ok, wR_of, lpQ_nx, lpQ_ct, tl_set, tl_len, tl_cons, tl_snoc, enum_tl, List.getElem?_cons_zero, List.getElem?_cons_succ, List.set_cons_zero, List.set_cons_succ, List.length_cons, List.length_nil, List.length_map, List.length_range, List.cons_append, List.nil_append, List.replicate, Nat.reduceAdd, Nat.reduceSub, Int.toNat_natCast, decide_eq_true_eq, Bool.not_eq_true, Bool.not_true, Bool.not_false, if_true, Bool.false_eq_true, if_false, true_and, and_true, Int.reduceNeg, Int.reduceLE, Int.reduceLT, Nat.reduceLeDiff, Nat.reduceLT, Int.zero_add, Nat.zero_add, Int.sub_zero, ite_true, ite_false, reduceIte, Bool.not_eq_eq_eq_not, whole_ok _ (hf i)]
  · rw [o_all_tl (h := fun _ => true) (fun _ _ _ => rfl)]
/-- the upper bound as data -/
def most (b : Option Int) : D := match b with
  | none => .non
  | some t => .int t
theorem wS_no {t : BF} {g1 g2 : SF} {Γ : List D} {QS : Fl → Prop} (h : wB t Γ fun b => b = false) (q : wS g2 Γ QS) : wS (sIf t g1 g2) Γ QS := by
  rw [wS_if]
  refine wR_mono h fun b hb => ?_
  subst hb
  exact q
theorem wS_yes {t : BF} {g1 g2 : SF} {Γ : List D} {QS : Fl → Prop} (h : wB t Γ fun b => b = true) (q : wS g1 Γ QS) : wS (sIf t g1 g2) Γ QS := by
  rw [wS_if]
  refine wR_mono h fun b hb => ?_
  subst hb
  exact q
theorem check_ok (n : Nat) (w : Fin 3) (f : Int → Int) (least : Int) (b : Option Int) (hn : 1 ≤ n) (hn2 : n ≤ 12) (hf : ∀ i, 0 ≤ f i) (h0 : 0 ≤ least) (h1 : w = 2 → 1 ≤ least) (h2 : ∀ t, b = some t → least ≤ t) (h3 : f 0 > 0 → ∃ t, b = some t ∧ t ≤ 1) : m_check [il n f, .str (wd w), .int least, most b] = .ok .non := by
  obtain ⟨e1, e2, e3, e4, e5, e6⟩ := wd_ok w
  refine m_okN rfl ?_
  unfold b_check
  rw [wS_seq]
  refine wS_no ?_ (wS_nil.2 ?_)
  · simp (disch := omega) only [↓wE_var, ↓wE_c, ↓wE_bin, ↓wE_un, ↓wA_nil, ↓wA_cons, ↓wE_app, ↓wE_call, ↓wE_tup, ↓wE_lst, ↓wE_if, ↓wE_isi, ↓wE_sl, ↓wR_oNo, ↓wR_oAt, ↓ex_int, ↓ex_bl, ↓ex_lst, ↓ex_par, ↓wB_val, ↓wB_tru, ↓wB_not, ↓wB_and, ↓wB_or, ↓wB_yes, ↓wE_and, ↓wE_or, ↓wE_not, ↓wE_chain, ↓nxQ_nx, ↓nxQ_rt, ↓nxQ_ct, ↓nxQ_bk, ↓wS_nil, ↓wS_seq, ↓wS_bk, ↓wS_ct, ↓wS_exp, ↓wS_asg, ↓wS_ret, ↓wS_if, ↓wS_aug, ↓wS_asgG, ↓wS_par, ↓wS_app, ↓wS_setix, ↓wS_augix, ↓wS_for, ↓wA_seq, ↓wA_rng, ↓wE_lc, ↓o_add_ii, ↓o_add_ll, ↓o_addI_ii, ↓o_subI_ii, ↓o_mul_ii, ↓o_mulI_ii, ↓o_mul_li, ↓o_mulL_li, ↓o_fdiv_ii, ↓o_mod_ii, ↓o_pow_ii, ↓o_neg_i, ↓o_cmp_ii, ↓o_eq_ii, ↓o_ne_ii, ↓o_is_nn, ↓o_is_in, ↓o_not_nn, ↓o_not_in, ↓o_ix_lst, ↓o_ix_tup, ↓o_ix_scr, ↓o_at, ↓o_at_neg, ↓o_set, ↓o_rng1, ↓o_rng2, ↓o_seq_lst, ↓o_seq_tup, ↓o_seq_scr, ↓o_enum_lst, ↓o_len_l, ↓o_len_t, ↓o_abs, ↓o_max2, ↓o_min2, ↓o_int_i, ↓o_int_b, ↓o_list_l, ↓o_list_s, ↓o_list_t, ↓o_sum_tl, ↓o_tru_b, ↓o_isi_int_i, ↓o_isi_int_non, ↓o_isi_bool_i, ↓o_isi_list_l, ↓o_gN, ↓o_gT, ↓o_gsNil, ↓o_gsCons, ↓o_cut_l, ↓o_cut_s, ↓wO_some, ↓wR_ok, ↓wR_of, ↓lpQ_nx, ↓lpQ_ct, wE_var, wE_c, wE_bin, wE_un, wA_nil, wA_cons, wE_app, wE_call, wE_tup, wE_lst, wE_if, wE_isi, wE_sl, wR_oNo, wR_oAt, ex_int, ex_bl, ex_lst, ex_par, wB_val, wB_tru, wB_not, wB_and, wB_or, wB_yes, wE_and, wE_or, wE_not, wE_chain, nxQ_nx, nxQ_rt, nxQ_ct, nxQ_bk, wS_nil, wS_seq, wS_bk, wS_ct, wS_exp, wS_asg, wS_ret, wS_if, wS_aug, wS_asgG, wS_par, wS_app, wS_setix, wS_augix, wS_for, wA_seq, wA_rng, wE_lc, o_add_ii, o_add_ll, o_addI_ii, o_subI_ii, o_mul_ii, o_mulI_ii, o_mul_li, o_mulL_li, o_fdiv_ii, o_mod_ii, o_pow_ii, o_neg_i, o_cmp_ii, o_eq_ii, o_ne_ii, o_is_nn, o_is_in, o_not_nn, o_not_in, o_ix_lst, o_ix_tup, o_ix_scr, o_at, o_at_neg, o_set, o_rng1, o_rng2, o_seq_lst, o_seq_tup, o_seq_scr, o_enum_lst, o_len_l, o_len_t, o_abs, o_max2, o_min2, o_int_i, o_int_b, o_list_l, o_list_s, o_list_t, o_sum_tl, o_tru_b, o_isi_int_i, o_isi_int_non, o_isi_bool_i, o_isi_list_l, o_gN, o_gT, o_gsNil, o_gsCons, o_cut_l, o_cut_s, wO_some, wR_ok, wR_of, lpQ_nx, lpQ_ct, tl_set, tl_len, tl_cons, tl_snoc, enum_tl, List.getElem?_cons_zero, List.getElem?_cons_succ, List.set_cons_zero, List.set_cons_succ, List.length_cons, List.length_nil, List.length_map, List.length_range, List.cons_append, List.nil_append, List.replicate, Nat.reduceAdd, Nat.reduceSub, Int.toNat_natCast, decide_eq_true_eq, Bool.not_eq_true, Bool.not_true, Bool.not_false, if_true, Bool.false_eq_true, if_false, true_and, and_true, Int.reduceNeg, Int.reduceLE, Int.reduceLT, Nat.reduceLeDiff, Nat.reduceLT, Int.zero_add, Nat.zero_add, Int.sub_zero, ite_true, ite_false, reduceIte, Bool.not_eq_eq_eq_not, o_eq_ss, e1, e2, e3, e4, e5, e6, counts_ok n f hn hn2 hf, whole_ok least h0]
    by_cases cw : w = 2
    · rw [if_pos cw]
      have := h1 cw
      exact decide_eq_false (by omega)
    · rw [if_neg cw]; simp
  · rw [nxQ_nx, wS_seq]
    refine wS_no ?_ (wS_nil.2 ?_)
    · cases b with
      | none => simp only [↓wE_var, ↓wE_c, ↓wE_bin, ↓wE_un, ↓wA_nil, ↓wA_cons, ↓wE_app, ↓wE_call, ↓wE_tup, ↓wE_lst, ↓wE_if, ↓wE_isi, ↓wE_sl, ↓wR_oNo, ↓wR_oAt, ↓ex_int, ↓ex_bl, ↓ex_lst, ↓ex_par, ↓wB_val, ↓wB_tru, ↓wB_not, ↓wB_and, ↓wB_or, ↓wB_yes, ↓wE_and, ↓wE_or, ↓wE_not, ↓wE_chain, ↓nxQ_nx, ↓nxQ_rt, ↓nxQ_ct, ↓nxQ_bk, ↓wS_nil, ↓wS_seq, ↓wS_bk, ↓wS_ct, ↓wS_exp, ↓wS_asg, ↓wS_ret, ↓wS_if, ↓wS_aug, ↓wS_asgG, ↓wS_par, ↓wS_app, ↓wS_setix, ↓wS_augix, ↓wS_for, ↓wA_seq, ↓wA_rng, ↓wE_lc, ↓o_add_ii, ↓o_add_ll, ↓o_addI_ii, ↓o_subI_ii, ↓o_mul_ii, ↓o_mulI_ii, ↓o_mul_li, ↓o_mulL_li, ↓o_fdiv_ii, ↓o_mod_ii, ↓o_pow_ii, ↓o_neg_i, ↓o_cmp_ii, ↓o_eq_ii, ↓o_ne_ii, ↓o_is_nn, ↓o_is_in, ↓o_not_nn, ↓o_not_in, ↓o_ix_lst, ↓o_ix_tup, ↓o_ix_scr, ↓o_at, ↓o_at_neg, ↓o_set, ↓o_rng1, ↓o_rng2, ↓o_seq_lst, ↓o_seq_tup, ↓o_seq_scr, ↓o_enum_lst, ↓o_len_l, ↓o_len_t, ↓o_abs, ↓o_max2, ↓o_min2, ↓o_int_i, ↓o_int_b, ↓o_list_l, ↓o_list_s, ↓o_list_t, ↓o_sum_tl, ↓o_tru_b, ↓o_isi_int_i, ↓o_isi_int_non, ↓o_isi_bool_i, ↓o_isi_list_l, ↓o_gN, ↓o_gT, ↓o_gsNil, ↓o_gsCons, ↓o_cut_l, ↓o_cut_s, ↓wO_some, ↓wR_ok, ↓wR_of, ↓lpQ_nx, ↓lpQ_ct, wE_var, wE_c, wE_bin, wE_un, wA_nil, wA_cons, wE_app, wE_call, wE_tup, wE_lst, wE_if, wE_isi, wE_sl, wR_oNo, wR_oAt, ex_int, ex_bl, ex_lst, ex_par, wB_val, wB_tru, wB_not, wB_and, wB_or, wB_yes, wE_and, wE_or, wE_not, wE_chain, nxQ_nx, nxQ_rt, nxQ_ct, nxQ_bk, wS_nil, wS_seq, wS_bk, wS_ct, wS_exp, wS_asg, wS_ret, wS_if, wS_aug, wS_asgG, wS_par, wS_app, wS_setix, wS_augix, wS_for, wA_seq, wA_rng, wE_lc, o_add_ii, o_add_ll, o_addI_ii, o_subI_ii, o_mul_ii, o_mulI_ii, o_mul_li, o_mulL_li, o_fdiv_ii, o_mod_ii, o_pow_ii, o_neg_i, o_cmp_ii, o_eq_ii, o_ne_ii, o_is_nn, o_is_in, o_not_nn, o_not_in, o_ix_lst, o_ix_tup, o_ix_scr, o_at, o_at_neg, o_set, o_rng1, o_rng2, o_seq_lst, o_seq_tup, o_seq_scr, o_enum_lst, o_len_l, o_len_t, o_abs, o_max2, o_min2, o_int_i, o_int_b, o_list_l, o_list_s, o_list_t, o_sum_tl, o_tru_b, o_isi_int_i, o_isi_int_non, o_isi_bool_i, o_isi_list_l, o_gN, o_gT, o_gsNil, o_gsCons, o_cut_l, o_cut_s, wO_some, wR_ok, wR_of, lpQ_nx, lpQ_ct, tl_set, tl_len, tl_cons, tl_snoc, enum_tl, List.getElem?_cons_zero, List.getElem?_cons_succ, List.set_cons_zero, List.set_cons_succ, List.length_cons, List.length_nil, List.length_map, List.length_range, List.cons_append, List.nil_append, List.replicate, Nat.reduceAdd, Nat.reduceSub, Int.toNat_natCast, decide_eq_true_eq, Bool.not_eq_true, Bool.not_true, Bool.not_false, if_true, Bool.false_eq_true, if_false, true_and, and_true, Int.reduceNeg, Int.reduceLE, Int.reduceLT, Nat.reduceLeDiff, Nat.reduceLT, Int.zero_add, Nat.zero_add, Int.sub_zero, ite_true, ite_false, reduceIte, Bool.not_eq_eq_eq_not, most]
      | some t =>
        have h4 := h2 t rfl
        simp only [↓wE_var, ↓wE_c, ↓wE_bin, ↓wE_un, ↓wA_nil, ↓wA_cons, ↓wE_app, ↓wE_call, ↓wE_tup, ↓wE_lst, ↓wE_if, ↓wE_isi, ↓wE_sl, ↓wR_oNo, ↓wR_oAt, ↓ex_int, ↓ex_bl, ↓ex_lst, ↓ex_par, ↓wB_val, ↓wB_tru, ↓wB_not, ↓wB_and, ↓wB_or, ↓wB_yes, ↓wE_and, ↓wE_or, ↓wE_not, ↓wE_chain, ↓nxQ_nx, ↓nxQ_rt, ↓nxQ_ct, ↓nxQ_bk, ↓wS_nil, ↓wS_seq, ↓wS_bk, ↓wS_ct, ↓wS_exp, ↓wS_asg, ↓wS_ret, ↓wS_if, ↓wS_aug, ↓wS_asgG, ↓wS_par, ↓wS_app, ↓wS_setix, ↓wS_augix, ↓wS_for, ↓wA_seq, ↓wA_rng, ↓wE_lc, ↓o_add_ii, ↓o_add_ll, ↓o_addI_ii, ↓o_subI_ii, ↓o_mul_ii, ↓o_mulI_ii, ↓o_mul_li, ↓o_mulL_li, ↓o_fdiv_ii, ↓o_mod_ii, ↓o_pow_ii, ↓o_neg_i, ↓o_cmp_ii, ↓o_eq_ii, ↓o_ne_ii, ↓o_is_nn, ↓o_is_in, ↓o_not_nn, ↓o_not_in, ↓o_ix_lst, ↓o_ix_tup, ↓o_ix_scr, ↓o_at, ↓o_at_neg, ↓o_set, ↓o_rng1, ↓o_rng2, ↓o_seq_lst, ↓o_seq_tup, ↓o_seq_scr, ↓o_enum_lst, ↓o_len_l, ↓o_len_t, ↓o_abs, ↓o_max2, ↓o_min2, ↓o_int_i, ↓o_int_b, ↓o_list_l, ↓o_list_s, ↓o_list_t, ↓o_sum_tl, ↓o_tru_b, ↓o_isi_int_i, ↓o_isi_int_non, ↓o_isi_bool_i, ↓o_isi_list_l, ↓o_gN, ↓o_gT, ↓o_gsNil, ↓o_gsCons, ↓o_cut_l, ↓o_cut_s, ↓wO_some, ↓wR_ok, ↓wR_of, ↓lpQ_nx, ↓lpQ_ct, wE_var, wE_c, wE_bin, wE_un, wA_nil, wA_cons, wE_app, wE_call, wE_tup, wE_lst, wE_if, wE_isi, wE_sl, wR_oNo, wR_oAt, ex_int, ex_bl, ex_lst, ex_par, wB_val, wB_tru, wB_not, wB_and, wB_or, wB_yes, wE_and, wE_or, wE_not, wE_chain, nxQ_nx, nxQ_rt, nxQ_ct, nxQ_bk, wS_nil, wS_seq, wS_bk, wS_ct, wS_exp, wS_asg, wS_ret, wS_if, wS_aug, wS_asgG, wS_par, wS_app, wS_setix, wS_augix, wS_for, wA_seq, wA_rng, wE_lc, o_add_ii, o_add_ll, o_addI_ii, o_subI_ii, o_mul_ii, o_mulI_ii, o_mul_li, o_mulL_li, o_fdiv_ii, o_mod_ii, o_pow_ii, o_neg_i, o_cmp_ii, o_eq_ii, o_ne_ii, o_is_nn, o_is_in, o_not_nn, o_not_in, o_ix_lst, o_ix_tup, o_ix_scr, o_at, o_at_neg, o_set, o_rng1, o_rng2, o_seq_lst, o_seq_tup, o_seq_scr, o_enum_lst, o_len_l, o_len_t, o_abs, o_max2, o_min2, o_int_i, o_int_b, o_list_l, o_list_s, o_list_t, o_sum_tl, o_tru_b, o_isi_int_i, o_isi_int_non, o_isi_bool_i, o_isi_list_l, o_gN, o_gT, o_gsNil, o_gsCons, o_cut_l, o_cut_s, wO_some, wR_ok, wR_of, lpQ_nx, lpQ_ct, tl_set, tl_len, tl_cons, tl_snoc, enum_tl, List.getElem?_cons_zero, List.getElem?_cons_succ, List.set_cons_zero, List.set_cons_succ, List.length_cons, List.length_nil, List.length_map, List.length_range, List.cons_append, List.nil_append, List.replicate, Nat.reduceAdd, Nat.reduceSub, Int.toNat_natCast, decide_eq_true_eq, Bool.not_eq_true, Bool.not_true, Bool.not_false, if_true, Bool.false_eq_true, if_false, true_and, and_true, Int.reduceNeg, Int.reduceLE, Int.reduceLT, Nat.reduceLeDiff, Nat.reduceLT, Int.zero_add, Nat.zero_add, Int.sub_zero, ite_true, ite_false, reduceIte, Bool.not_eq_eq_eq_not, most, whole_ok t (by omega)]
        exact decide_eq_false (by omega)
    · rw [nxQ_nx]
      refine wS_no ?_ (wS_nil.2 ⟨_, rfl⟩)
      simp (disch := omega) only [↓wE_var, ↓wE_c, ↓wE_bin, ↓wE_un, ↓wA_nil, ↓wA_cons, ↓wE_app, ↓wE_call, ↓wE_tup, ↓wE_lst, ↓wE_if, ↓wE_isi, ↓wE_sl, ↓wR_oNo, ↓wR_oAt, ↓ex_int, ↓ex_bl, ↓ex_lst, ↓ex_par, ↓wB_val, ↓wB_tru, ↓wB_not, ↓wB_and, ↓wB_or, ↓wB_yes, ↓wE_and, ↓wE_or, ↓wE_not, ↓wE_chain, ↓nxQ_nx, ↓nxQ_rt, ↓nxQ_ct, ↓nxQ_bk, ↓wS_nil, ↓wS_seq, ↓wS_bk, ↓wS_ct, ↓wS_exp, ↓wS_asg, ↓wS_ret, ↓wS_if, ↓wS_aug, ↓wS_asgG, ↓wS_par, ↓wS_app, ↓wS_setix, ↓wS_augix, ↓wS_for, ↓wA_seq, ↓wA_rng, ↓wE_lc, ↓o_add_ii, ↓o_add_ll, ↓o_addI_ii, ↓o_subI_ii, ↓o_mul_ii, ↓o_mulI_ii, ↓o_mul_li, ↓o_mulL_li, ↓o_fdiv_ii, ↓o_mod_ii, ↓o_pow_ii, ↓o_neg_i, ↓o_cmp_ii, ↓o_eq_ii, ↓o_ne_ii, ↓o_is_nn, ↓o_is_in, ↓o_not_nn, ↓o_not_in, ↓o_ix_lst, ↓o_ix_tup, ↓o_ix_scr, ↓o_at, ↓o_at_neg, ↓o_set, ↓o_rng1, ↓o_rng2, ↓o_seq_lst, ↓o_seq_tup, ↓o_seq_scr, ↓o_enum_lst, ↓o_len_l, ↓o_len_t, ↓o_abs, ↓o_max2, ↓o_min2, ↓o_int_i, ↓o_int_b, ↓o_list_l, ↓o_list_s, ↓o_list_t, ↓o_sum_tl, ↓o_tru_b, ↓o_isi_int_i, ↓o_isi_int_non, ↓o_isi_bool_i, ↓o_isi_list_l, ↓o_gN, ↓o_gT, ↓o_gsNil, ↓o_gsCons, ↓o_cut_l, ↓o_cut_s, ↓wO_some, ↓wR_ok, ↓wR_of, ↓lpQ_nx, ↓lpQ_ct, wE_var, wE_c, wE_bin, wE_un, wA_nil, wA_cons, wE_app, wE_call, wE_tup, wE_lst, wE_if, wE_isi, wE_sl, wR_oNo, wR_oAt, ex_int, ex_bl, ex_lst, ex_par, wB_val, wB_tru, wB_not, wB_and, wB_or, wB_yes, wE_and, wE_or, wE_not, wE_chain, nxQ_nx, nxQ_rt, nxQ_ct, nxQ_bk, wS_nil, wS_seq, wS_bk, wS_ct, wS_exp, wS_asg, wS_ret, wS_if, wS_aug, wS_asgG, wS_par, wS_app, wS_setix, wS_augix, wS_for, wA_seq, wA_rng, wE_lc, o_add_ii, o_add_ll, o_addI_ii, o_subI_ii, o_mul_ii, o_mulI_ii, o_mul_li, o_mulL_li, o_fdiv_ii, o_mod_ii, o_pow_ii, o_neg_i, o_cmp_ii, o_eq_ii, o_ne_ii, o_is_nn, o_is_in, o_not_nn, o_not_in, o_ix_lst, o_ix_tup, o_ix_scr, o_at, o_at_neg, o_set, o_rng1, o_rng2, o_seq_lst, o_seq_tup, o_seq_scr, o_enum_lst, o_len_l, o_len_t, o_abs, o_max2, o_min2, o_int_i, o_int_b, o_list_l, o_list_s, o_list_t, o_sum_tl, o_tru_b, o_isi_int_i, o_isi_int_non, o_isi_bool_i, o_isi_list_l, o_gN, o_gT, o_gsNil, o_gsCons, o_cut_l, o_cut_s, wO_some, wR_ok, wR_of, lpQ_nx, lpQ_ct, tl_set, tl_len, tl_cons, tl_snoc, enum_tl, List.getElem?_cons_zero, List.getElem?_cons_succ, List.set_cons_zero, List.set_cons_succ, List.length_cons, List.length_nil, List.length_map, List.length_range, List.cons_append, List.nil_append, List.replicate, Nat.reduceAdd, Nat.reduceSub, Int.toNat_natCast, decide_eq_true_eq, Bool.not_eq_true, Bool.not_true, Bool.not_false, if_true, Bool.false_eq_true, if_false, true_and, and_true, Int.reduceNeg, Int.reduceLE, Int.reduceLT, Nat.reduceLeDiff, Nat.reduceLT, Int.zero_add, Nat.zero_add, Int.sub_zero, ite_true, ite_false, reduceIte, Bool.not_eq_eq_eq_not]
      by_cases c0 : 0 < f 0
      · rw [if_pos c0]
        obtain ⟨t, rfl, ht⟩ := h3 c0
        simp only [↓wE_var, ↓wE_c, ↓wE_bin, ↓wE_un, ↓wA_nil, ↓wA_cons, ↓wE_app, ↓wE_call, ↓wE_tup, ↓wE_lst, ↓wE_if, ↓wE_isi, ↓wE_sl, ↓wR_oNo, ↓wR_oAt, ↓ex_int, ↓ex_bl, ↓ex_lst, ↓ex_par, ↓wB_val, ↓wB_tru, ↓wB_not, ↓wB_and, ↓wB_or, ↓wB_yes, ↓wE_and, ↓wE_or, ↓wE_not, ↓wE_chain, ↓nxQ_nx, ↓nxQ_rt, ↓nxQ_ct, ↓nxQ_bk, ↓wS_nil, ↓wS_seq, ↓wS_bk, ↓wS_ct, ↓wS_exp, ↓wS_asg, ↓wS_ret, ↓wS_if, ↓wS_aug, ↓wS_asgG, ↓wS_par, ↓wS_app, ↓wS_setix, ↓wS_augix, ↓wS_for, ↓wA_seq, ↓wA_rng, ↓wE_lc, ↓o_add_ii, ↓o_add_ll, ↓o_addI_ii, ↓o_subI_ii, ↓o_mul_ii, ↓o_mulI_ii, ↓o_mul_li, ↓o_mulL_li, ↓o_fdiv_ii, ↓o_mod_ii, ↓o_pow_ii, ↓o_neg_i, ↓o_cmp_ii, ↓o_eq_ii, ↓o_ne_ii, ↓o_is_nn, ↓o_is_in, ↓o_not_nn, ↓o_not_in, ↓o_ix_lst, ↓o_ix_tup, ↓o_ix_scr, ↓o_at, ↓o_at_neg, ↓o_set, ↓o_rng1, ↓o_rng2, ↓o_seq_lst, ↓o_seq_tup, ↓o_seq_scr, ↓o_enum_lst, ↓o_len_l, ↓o_len_t, ↓o_abs, ↓o_max2, ↓o_min2, ↓o_int_i, ↓o_int_b, ↓o_list_l, ↓o_list_s, ↓o_list_t, ↓o_sum_tl, ↓o_tru_b, ↓o_isi_int_i, ↓o_isi_int_non, ↓o_isi_bool_i, ↓o_isi_list_l, ↓o_gN, ↓o_gT, ↓o_gsNil, ↓o_gsCons, ↓o_cut_l, ↓o_cut_s, ↓wO_some, ↓wR_ok, ↓wR_of, ↓lpQ_nx, ↓lpQ_ct, wE_var, wE_c, wE_bin, wE_un, wA_nil, wA_cons, wE_app, wE_call, wE_tup, wE_lst, wE_if, wE_isi, wE_sl, wR_oNo, wR_oAt, ex_int, ex_bl, ex_lst, ex_par, wB_val, wB_tru, wB_not, wB_and, wB_or, wB_yes, wE_and, wE_or, wE_not, wE_chain, nxQ_nx, nxQ_rt, nxQ_ct, nxQ_bk, wS_nil, wS_seq, wS_bk, wS_ct, wS_exp, wS_asg, wS_ret, wS_if, wS_aug, wS_asgG, wS_par, wS_app, wS_setix, wS_augix, wS_for, wA_seq, wA_rng, wE_lc, o_add_ii, o_add_ll, o_addI_ii, o_subI_ii, o_mul_ii, o_mulI_ii, o_mul_li, o_mulL_li, o_fdiv_ii, o_mod_ii, o_pow_ii, o_neg_i, o_cmp_ii, o_eq_ii, o_ne_ii, o_is_nn, o_is_in, o_not_nn, o_not_in, o_ix_lst, o_ix_tup, o_ix_scr, o_at, o_at_neg, o_set, o_rng1, o_rng2, o_seq_lst, o_seq_tup, o_seq_scr, o_enum_lst, o_len_l, o_len_t, o_abs, o_max2, o_min2, o_int_i, o_int_b, o_list_l, o_list_s, o_list_t, o_sum_tl, o_tru_b, o_isi_int_i, o_isi_int_non, o_isi_bool_i, o_isi_list_l, o_gN, o_gT, o_gsNil, o_gsCons, o_cut_l, o_cut_s, wO_some, wR_ok, wR_of, lpQ_nx, lpQ_ct, tl_set, tl_len, tl_cons, tl_snoc, enum_tl, List.getElem?_cons_zero, List.getElem?_cons_succ, List.set_cons_zero, List.set_cons_succ, List.length_cons, List.length_nil, List.length_map, List.length_range, List.cons_append, List.nil_append, List.replicate, Nat.reduceAdd, Nat.reduceSub, Int.toNat_natCast, decide_eq_true_eq, Bool.not_eq_true, Bool.not_true, Bool.not_false, if_true, Bool.false_eq_true, if_false, true_and, and_true, Int.reduceNeg, Int.reduceLE, Int.reduceLT, Nat.reduceLeDiff, Nat.reduceLT, Int.zero_add, Nat.zero_add, Int.sub_zero, ite_true, ite_false, reduceIte, Bool.not_eq_eq_eq_not, most]
        exact decide_eq_false (by omega)
      · rw [if_neg c0]; trivial
/-- the greatest number of members that tells -/
def topM (n : Nat) (f : Int → Int) (b : Option Int) : Nat := match b with
  | none => if f 0 = 0 then n - 1 else 1
  | some t => if f 0 = 0 then min t.toNat (n - 1) else min t.toNat 1
theorem top_ok (n : Nat) (f : Int → Int) (b : Option Int) (hn : 1 ≤ n) (hb : ∀ t, b = some t → 0 ≤ t) : m_top_members [il n f, most b] = .ok (.int (topM n f b)) := by
  refine m_ok rfl ?_
  unfold b_top_members
  by_cases c0 : f 0 = 0
  · cases b with
    | none =>
      simp (disch := omega) only [↓wE_var, ↓wE_c, ↓wE_bin, ↓wE_un, ↓wA_nil, ↓wA_cons, ↓wE_app, ↓wE_call, ↓wE_tup, ↓wE_lst, ↓wE_if, ↓wE_isi, ↓wE_sl, ↓wR_oNo, ↓wR_oAt, ↓ex_int, ↓ex_bl, ↓ex_lst, ↓ex_par, ↓wB_val, ↓wB_tru, ↓wB_not, ↓wB_and, ↓wB_or, ↓wB_yes, ↓wE_and, ↓wE_or, ↓wE_not, ↓wE_chain, ↓nxQ_nx, ↓nxQ_rt, ↓nxQ_ct, ↓nxQ_bk, ↓wS_nil, ↓wS_seq, ↓wS_bk, ↓wS_ct, ↓wS_exp, ↓wS_asg, ↓wS_ret, ↓wS_if, ↓wS_aug, ↓wS_asgG, ↓wS_par, ↓wS_app, ↓wS_setix, ↓wS_augix, ↓wS_for, ↓wA_seq, ↓wA_rng, ↓wE_lc, ↓o_add_ii, ↓o_add_ll, ↓o_addI_ii, ↓o_subI_ii, ↓o_mul_ii, ↓o_mulI_ii, ↓o_mul_li, ↓o_mulL_li, ↓o_fdiv_ii, ↓o_mod_ii, ↓o_pow_ii, ↓o_neg_i, ↓o_cmp_ii, ↓o_eq_ii, ↓o_ne_ii, ↓o_is_nn, ↓o_is_in, ↓o_not_nn, ↓o_not_in, ↓o_ix_lst, ↓o_ix_tup, ↓o_ix_scr, ↓o_at, ↓o_at_neg, ↓o_set, ↓o_rng1, ↓o_rng2, ↓o_seq_lst, ↓o_seq_tup, ↓o_seq_scr, ↓o_enum_lst, ↓o_len_l, ↓o_len_t, ↓o_abs, ↓o_max2, ↓o_min2, ↓o_int_i, ↓o_int_b, ↓o_list_l, ↓o_list_s, ↓o_list_t, ↓o_sum_tl, ↓o_tru_b, ↓o_isi_int_i, ↓o_isi_int_non, ↓o_isi_bool_i, ↓o_isi_list_l, ↓o_gN, ↓o_gT, ↓o_gsNil, ↓o_gsCons, ↓o_cut_l, ↓o_cut_s, ↓wO_some, ↓wR_ok, ↓wR_of, ↓lpQ_nx, ↓lpQ_ct, wE_var, wE_c, wE_bin, wE_un, wA_nil, wA_cons, wE_app, wE_call, wE_tup, wE_lst, wE_if, wE_isi, wE_sl, wR_oNo, wR_oAt, ex_int, ex_bl, ex_lst, ex_par, wB_val, wB_tru, wB_not, wB_and, wB_or, wB_yes, wE_and, wE_or, wE_not, wE_chain, nxQ_nx, nxQ_rt, nxQ_ct, nxQ_bk, wS_nil, wS_seq, wS_bk, wS_ct, wS_exp, wS_asg, wS_ret, wS_if, wS_aug, wS_asgG, wS_par, wS_app, wS_setix, wS_augix, wS_for, wA_seq, wA_rng, wE_lc, o_add_ii, o_add_ll, o_addI_ii, o_subI_ii, o_mul_ii, o_mulI_ii, o_mul_li, o_mulL_li, o_fdiv_ii, o_mod_ii, o_pow_ii, o_neg_i, o_cmp_ii, o_eq_ii, o_ne_ii, o_is_nn, o_is_in, o_not_nn, o_not_in, o_ix_lst, o_ix_tup, o_ix_scr, o_at, o_at_neg, o_set, o_rng1, o_rng2, o_seq_lst, o_seq_tup, o_seq_scr, o_enum_lst, o_len_l, o_len_t, o_abs, o_max2, o_min2, o_int_i, o_int_b, o_list_l, o_list_s, o_list_t, o_sum_tl, o_tru_b, o_isi_int_i, o_isi_int_non, o_isi_bool_i, o_isi_list_l, o_gN, o_gT, o_gsNil, o_gsCons, o_cut_l, o_cut_s, wO_some, wR_ok, wR_of, lpQ_nx, lpQ_ct, tl_set, tl_len, tl_cons, tl_snoc, enum_tl, List.getElem?_cons_zero, List.getElem?_cons_succ, List.set_cons_zero, List.set_cons_succ, List.length_cons, List.length_nil, List.length_map, List.length_range, List.cons_append, List.nil_append, List.replicate, Nat.reduceAdd, Nat.reduceSub, Int.toNat_natCast, decide_eq_true_eq, Bool.not_eq_true, Bool.not_true, Bool.not_false, if_true, Bool.false_eq_true, if_false, true_and, and_true, Int.reduceNeg, Int.reduceLE, Int.reduceLT, Nat.reduceLeDiff, Nat.reduceLT, Int.zero_add, Nat.zero_add, Int.sub_zero, ite_true, ite_false, reduceIte, Bool.not_eq_eq_eq_not, most]
      rw [if_pos c0]
      simp only [topM, if_pos c0]
      congr 2; omega
    | some t =>
      have := hb t rfl
      simp (disch := omega) only [↓wE_var, ↓wE_c, ↓wE_bin, ↓wE_un, ↓wA_nil, ↓wA_cons, ↓wE_app, ↓wE_call, ↓wE_tup, ↓wE_lst, ↓wE_if, ↓wE_isi, ↓wE_sl, ↓wR_oNo, ↓wR_oAt, ↓ex_int, ↓ex_bl, ↓ex_lst, ↓ex_par, ↓wB_val, ↓wB_tru, ↓wB_not, ↓wB_and, ↓wB_or, ↓wB_yes, ↓wE_and, ↓wE_or, ↓wE_not, ↓wE_chain, ↓nxQ_nx, ↓nxQ_rt, ↓nxQ_ct, ↓nxQ_bk, ↓wS_nil, ↓wS_seq, ↓wS_bk, ↓wS_ct, ↓wS_exp, ↓wS_asg, ↓wS_ret, ↓wS_if, ↓wS_aug, ↓wS_asgG, ↓wS_par, ↓wS_app, ↓wS_setix, ↓wS_augix, ↓wS_for, ↓wA_seq, ↓wA_rng, ↓wE_lc, ↓o_add_ii, ↓o_add_ll, ↓o_addI_ii, ↓o_subI_ii, ↓o_mul_ii, ↓o_mulI_ii, ↓o_mul_li, ↓o_mulL_li, ↓o_fdiv_ii, ↓o_mod_ii, ↓o_pow_ii, ↓o_neg_i, ↓o_cmp_ii, ↓o_eq_ii, ↓o_ne_ii, ↓o_is_nn, ↓o_is_in, ↓o_not_nn, ↓o_not_in, ↓o_ix_lst, ↓o_ix_tup, ↓o_ix_scr, ↓o_at, ↓o_at_neg, ↓o_set, ↓o_rng1, ↓o_rng2, ↓o_seq_lst, ↓o_seq_tup, ↓o_seq_scr, ↓o_enum_lst, ↓o_len_l, ↓o_len_t, ↓o_abs, ↓o_max2, ↓o_min2, ↓o_int_i, ↓o_int_b, ↓o_list_l, ↓o_list_s, ↓o_list_t, ↓o_sum_tl, ↓o_tru_b, ↓o_isi_int_i, ↓o_isi_int_non, ↓o_isi_bool_i, ↓o_isi_list_l, ↓o_gN, ↓o_gT, ↓o_gsNil, ↓o_gsCons, ↓o_cut_l, ↓o_cut_s, ↓wO_some, ↓wR_ok, ↓wR_of, ↓lpQ_nx, ↓lpQ_ct, wE_var, wE_c, wE_bin, wE_un, wA_nil, wA_cons, wE_app, wE_call, wE_tup, wE_lst, wE_if, wE_isi, wE_sl, wR_oNo, wR_oAt, ex_int, ex_bl, ex_lst, ex_par, wB_val, wB_tru, wB_not, wB_and, wB_or, wB_yes, wE_and, wE_or, wE_not, wE_chain, nxQ_nx, nxQ_rt, nxQ_ct, nxQ_bk, wS_nil, wS_seq, wS_bk, wS_ct, wS_exp, wS_asg, wS_ret, wS_if, wS_aug, wS_asgG, wS_par, wS_app, wS_setix, wS_augix, wS_for, wA_seq, wA_rng, wE_lc, o_add_ii, o_add_ll, o_addI_ii, o_subI_ii, o_mul_ii, o_mulI_ii, o_mul_li, o_mulL_li, o_fdiv_ii, o_mod_ii, o_pow_ii, o_neg_i, o_cmp_ii, o_eq_ii, o_ne_ii, o_is_nn, o_is_in, o_not_nn, o_not_in, o_ix_lst, o_ix_tup, o_ix_scr, o_at, o_at_neg, o_set, o_rng1, o_rng2, o_seq_lst, o_seq_tup, o_seq_scr, o_enum_lst, o_len_l, o_len_t, o_abs, o_max2, o_min2, o_int_i, o_int_b, o_list_l, o_list_s, o_list_t, o_sum_tl, o_tru_b, o_isi_int_i, o_isi_int_non, o_isi_bool_i, o_isi_list_l, o_gN, o_gT, o_gsNil, o_gsCons, o_cut_l, o_cut_s, wO_some, wR_ok, wR_of, lpQ_nx, lpQ_ct, tl_set, tl_len, tl_cons, tl_snoc, enum_tl, List.getElem?_cons_zero, List.getElem?_cons_succ, List.set_cons_zero, List.set_cons_succ, List.length_cons, List.length_nil, List.length_map, List.length_range, List.cons_append, List.nil_append, List.replicate, Nat.reduceAdd, Nat.reduceSub, Int.toNat_natCast, decide_eq_true_eq, Bool.not_eq_true, Bool.not_true, Bool.not_false, if_true, Bool.false_eq_true, if_false, true_and, and_true, Int.reduceNeg, Int.reduceLE, Int.reduceLT, Nat.reduceLeDiff, Nat.reduceLT, Int.zero_add, Nat.zero_add, Int.sub_zero, ite_true, ite_false, reduceIte, Bool.not_eq_eq_eq_not, most]
      rw [if_pos c0]
      simp only [topM, if_pos c0]
      congr 2
      split <;> omega
  · cases b with
    | none =>
      simp (disch := omega) only [↓wE_var, ↓wE_c, ↓wE_bin, ↓wE_un, ↓wA_nil, ↓wA_cons, ↓wE_app, ↓wE_call, ↓wE_tup, ↓wE_lst, ↓wE_if, ↓wE_isi, ↓wE_sl, ↓wR_oNo, ↓wR_oAt, ↓ex_int, ↓ex_bl, ↓ex_lst, ↓ex_par, ↓wB_val, ↓wB_tru, ↓wB_not, ↓wB_and, ↓wB_or, ↓wB_yes, ↓wE_and, ↓wE_or, ↓wE_not, ↓wE_chain, ↓nxQ_nx, ↓nxQ_rt, ↓nxQ_ct, ↓nxQ_bk, ↓wS_nil, ↓wS_seq, ↓wS_bk, ↓wS_ct, ↓wS_exp, ↓wS_asg, ↓wS_ret, ↓wS_if, ↓wS_aug, ↓wS_asgG, ↓wS_par, ↓wS_app, ↓wS_setix, ↓wS_augix, ↓wS_for, ↓wA_seq, ↓wA_rng, ↓wE_lc, ↓o_add_ii, ↓o_add_ll, ↓o_addI_ii, ↓o_subI_ii, ↓o_mul_ii, ↓o_mulI_ii, ↓o_mul_li, ↓o_mulL_li, ↓o_fdiv_ii, ↓o_mod_ii, ↓o_pow_ii, ↓o_neg_i, ↓o_cmp_ii, ↓o_eq_ii, ↓o_ne_ii, ↓o_is_nn, ↓o_is_in, ↓o_not_nn, ↓o_not_in, ↓o_ix_lst, ↓o_ix_tup, ↓o_ix_scr, ↓o_at, ↓o_at_neg, ↓o_set, ↓o_rng1, ↓o_rng2, ↓o_seq_lst, ↓o_seq_tup, ↓o_seq_scr, ↓o_enum_lst, ↓o_len_l, ↓o_len_t, ↓o_abs, ↓o_max2, ↓o_min2, ↓o_int_i, ↓o_int_b, ↓o_list_l, ↓o_list_s, ↓o_list_t, ↓o_sum_tl, ↓o_tru_b, ↓o_isi_int_i, ↓o_isi_int_non, ↓o_isi_bool_i, ↓o_isi_list_l, ↓o_gN, ↓o_gT, ↓o_gsNil, ↓o_gsCons, ↓o_cut_l, ↓o_cut_s, ↓wO_some, ↓wR_ok, ↓wR_of, ↓lpQ_nx, ↓lpQ_ct, wE_var, wE_c, wE_bin, wE_un, wA_nil, wA_cons, wE_app, wE_call, wE_tup, wE_lst, wE_if, wE_isi, wE_sl, wR_oNo, wR_oAt, ex_int, ex_bl, ex_lst, ex_par, wB_val, wB_tru, wB_not, wB_and, wB_or, wB_yes, wE_and, wE_or, wE_not, wE_chain, nxQ_nx, nxQ_rt, nxQ_ct, nxQ_bk, wS_nil, wS_seq, wS_bk, wS_ct, wS_exp, wS_asg, wS_ret, wS_if, wS_aug, wS_asgG, wS_par, wS_app, wS_setix, wS_augix, wS_for, wA_seq, wA_rng, wE_lc, o_add_ii, o_add_ll, o_addI_ii, o_subI_ii, o_mul_ii, o_mulI_ii, o_mul_li, o_mulL_li, o_fdiv_ii, o_mod_ii, o_pow_ii, o_neg_i, o_cmp_ii, o_eq_ii, o_ne_ii, o_is_nn, o_is_in, o_not_nn, o_not_in, o_ix_lst, o_ix_tup, o_ix_scr, o_at, o_at_neg, o_set, o_rng1, o_rng2, o_seq_lst, o_seq_tup, o_seq_scr, o_enum_lst, o_len_l, o_len_t, o_abs, o_max2, o_min2, o_int_i, o_int_b, o_list_l, o_list_s, o_list_t, o_sum_tl, o_tru_b, o_isi_int_i, o_isi_int_non, o_isi_bool_i, o_isi_list_l, o_gN, o_gT, o_gsNil, o_gsCons, o_cut_l, o_cut_s, wO_some, wR_ok, wR_of, lpQ_nx, lpQ_ct, tl_set, tl_len, tl_cons, tl_snoc, enum_tl, List.getElem?_cons_zero, List.getElem?_cons_succ, List.set_cons_zero, List.set_cons_succ, List.length_cons, List.length_nil, List.length_map, List.length_range, List.cons_append, List.nil_append, List.replicate, Nat.reduceAdd, Nat.reduceSub, Int.toNat_natCast, decide_eq_true_eq, Bool.not_eq_true, Bool.not_true, Bool.not_false, if_true, Bool.false_eq_true, if_false, true_and, and_true, Int.reduceNeg, Int.reduceLE, Int.reduceLT, Nat.reduceLeDiff, Nat.reduceLT, Int.zero_add, Nat.zero_add, Int.sub_zero, ite_true, ite_false, reduceIte, Bool.not_eq_eq_eq_not, most]
      rw [if_neg c0]
      simp only [topM, if_neg c0]
      rfl
    | some t =>
      have := hb t rfl
      simp (disch := omega) only [↓wE_var, ↓wE_c, ↓wE_bin, ↓wE_un, ↓wA_nil, ↓wA_cons, ↓wE_app, ↓wE_call, ↓wE_tup, ↓wE_lst, ↓wE_if, ↓wE_isi, ↓wE_sl, ↓wR_oNo, ↓wR_oAt, ↓ex_int, ↓ex_bl, ↓ex_lst, ↓ex_par, ↓wB_val, ↓wB_tru, ↓wB_not, ↓wB_and, ↓wB_or, ↓wB_yes, ↓wE_and, ↓wE_or, ↓wE_not, ↓wE_chain, ↓nxQ_nx, ↓nxQ_rt, ↓nxQ_ct, ↓nxQ_bk, ↓wS_nil, ↓wS_seq, ↓wS_bk, ↓wS_ct, ↓wS_exp, ↓wS_asg, ↓wS_ret, ↓wS_if, ↓wS_aug, ↓wS_asgG, ↓wS_par, ↓wS_app, ↓wS_setix, ↓wS_augix, ↓wS_for, ↓wA_seq, ↓wA_rng, ↓wE_lc, ↓o_add_ii, ↓o_add_ll, ↓o_addI_ii, ↓o_subI_ii, ↓o_mul_ii, ↓o_mulI_ii, ↓o_mul_li, ↓o_mulL_li, ↓o_fdiv_ii, ↓o_mod_ii, ↓o_pow_ii, ↓o_neg_i, ↓o_cmp_ii, ↓o_eq_ii, ↓o_ne_ii, ↓o_is_nn, ↓o_is_in, ↓o_not_nn, ↓o_not_in, ↓o_ix_lst, ↓o_ix_tup, ↓o_ix_scr, ↓o_at, ↓o_at_neg, ↓o_set, ↓o_rng1, ↓o_rng2, ↓o_seq_lst, ↓o_seq_tup, ↓o_seq_scr, ↓o_enum_lst, ↓o_len_l, ↓o_len_t, ↓o_abs, ↓o_max2, ↓o_min2, ↓o_int_i, ↓o_int_b, ↓o_list_l, ↓o_list_s, ↓o_list_t, ↓o_sum_tl, ↓o_tru_b, ↓o_isi_int_i, ↓o_isi_int_non, ↓o_isi_bool_i, ↓o_isi_list_l, ↓o_gN, ↓o_gT, ↓o_gsNil, ↓o_gsCons, ↓o_cut_l, ↓o_cut_s, ↓wO_some, ↓wR_ok, ↓wR_of, ↓lpQ_nx, ↓lpQ_ct, wE_var, wE_c, wE_bin, wE_un, wA_nil, wA_cons, wE_app, wE_call, wE_tup, wE_lst, wE_if, wE_isi, wE_sl, wR_oNo, wR_oAt, ex_int, ex_bl, ex_lst, ex_par, wB_val, wB_tru, wB_not, wB_and, wB_or, wB_yes, wE_and, wE_or, wE_not, wE_chain, nxQ_nx, nxQ_rt, nxQ_ct, nxQ_bk, wS_nil, wS_seq, wS_bk, wS_ct, wS_exp, wS_asg, wS_ret, wS_if, wS_aug, wS_asgG, wS_par, wS_app, wS_setix, wS_augix, wS_for, wA_seq, wA_rng, wE_lc, o_add_ii, o_add_ll, o_addI_ii, o_subI_ii, o_mul_ii, o_mulI_ii, o_mul_li, o_mulL_li, o_fdiv_ii, o_mod_ii, o_pow_ii, o_neg_i, o_cmp_ii, o_eq_ii, o_ne_ii, o_is_nn, o_is_in, o_not_nn, o_not_in, o_ix_lst, o_ix_tup, o_ix_scr, o_at, o_at_neg, o_set, o_rng1, o_rng2, o_seq_lst, o_seq_tup, o_seq_scr, o_enum_lst, o_len_l, o_len_t, o_abs, o_max2, o_min2, o_int_i, o_int_b, o_list_l, o_list_s, o_list_t, o_sum_tl, o_tru_b, o_isi_int_i, o_isi_int_non, o_isi_bool_i, o_isi_list_l, o_gN, o_gT, o_gsNil, o_gsCons, o_cut_l, o_cut_s, wO_some, wR_ok, wR_of, lpQ_nx, lpQ_ct, tl_set, tl_len, tl_cons, tl_snoc, enum_tl, List.getElem?_cons_zero, List.getElem?_cons_succ, List.set_cons_zero, List.set_cons_succ, List.length_cons, List.length_nil, List.length_map, List.length_range, List.cons_append, List.nil_append, List.replicate, Nat.reduceAdd, Nat.reduceSub, Int.toNat_natCast, decide_eq_true_eq, Bool.not_eq_true, Bool.not_true, Bool.not_false, if_true, Bool.false_eq_true, if_false, true_and, and_true, Int.reduceNeg, Int.reduceLE, Int.reduceLT, Nat.reduceLeDiff, Nat.reduceLT, Int.zero_add, Nat.zero_add, Int.sub_zero, ite_true, ite_false, reduceIte, Bool.not_eq_eq_eq_not, most]
      rw [if_neg c0]
      simp only [topM, if_neg c0]
      congr 2
      split <;> omega
theorem made_ok (n : Nat) (w : Fin 3) (l : Bool) (f : Int → Int) (least : Int) (b : Option Int) (hn : 1 ≤ n) (hn2 : n ≤ 12) (hc : Cts f) (h0 : 0 ≤ least) (h00 : least ≤ 100) (h1 : w = 2 → 1 ≤ least) (h2 : ∀ t, b = some t → least ≤ t) (h3 : f 0 > 0 → ∃ t, b = some t ∧ t ≤ 1) : m_made [il n f, .str (wd w), .int least, most b, .bl l] = .ok (il n fun x => sm ((topM n f b : Int) + 1 - least).toNat fun j => mem w n l f (least + j).toNat x) := by
  have ht : topM n f b ≤ 11 ∧ (f 0 = 0 ∨ topM n f b < 2) := by
    unfold topM
    by_cases c0 : f 0 = 0
    · refine ⟨?_, .inl c0⟩
      cases b <;> simp only [if_pos c0] <;> omega
    · have hp : f 0 > 0 := by have := hc.nn 0; omega
      obtain ⟨t, rfl, ht⟩ := h3 hp
      simp only [if_neg c0]
      omega
  refine m_ok rfl ?_
  unfold b_made
  simp only [↓wE_var, ↓wE_c, ↓wE_bin, ↓wE_un, ↓wA_nil, ↓wA_cons, ↓wE_app, ↓wE_call, ↓wE_tup, ↓wE_lst, ↓wE_if, ↓wE_isi, ↓wE_sl, ↓wR_oNo, ↓wR_oAt, ↓ex_int, ↓ex_bl, ↓ex_lst, ↓ex_par, ↓wB_val, ↓wB_tru, ↓wB_not, ↓wB_and, ↓wB_or, ↓wB_yes, ↓wE_and, ↓wE_or, ↓wE_not, ↓wE_chain, ↓nxQ_nx, ↓nxQ_rt, ↓nxQ_ct, ↓nxQ_bk, ↓wS_nil, ↓wS_seq, ↓wS_bk, ↓wS_ct, ↓wS_exp, ↓wS_asg, ↓wS_ret, ↓wS_if, ↓wS_aug, ↓wS_asgG, ↓wS_par, ↓wS_app, ↓wS_setix, ↓wS_augix, ↓wS_for, ↓wA_seq, ↓wA_rng, ↓wE_lc, ↓o_add_ii, ↓o_add_ll, ↓o_addI_ii, ↓o_subI_ii, ↓o_mul_ii, ↓o_mulI_ii, ↓o_mul_li, ↓o_mulL_li, ↓o_fdiv_ii, ↓o_mod_ii, ↓o_pow_ii, ↓o_neg_i, ↓o_cmp_ii, ↓o_eq_ii, ↓o_ne_ii, ↓o_is_nn, ↓o_is_in, ↓o_not_nn, ↓o_not_in, ↓o_ix_lst, ↓o_ix_tup, ↓o_ix_scr, ↓o_at, ↓o_at_neg, ↓o_set, ↓o_rng1, ↓o_rng2, ↓o_seq_lst, ↓o_seq_tup, ↓o_seq_scr, ↓o_enum_lst, ↓o_len_l, ↓o_len_t, ↓o_abs, ↓o_max2, ↓o_min2, ↓o_int_i, ↓o_int_b, ↓o_list_l, ↓o_list_s, ↓o_list_t, ↓o_sum_tl, ↓o_tru_b, ↓o_isi_int_i, ↓o_isi_int_non, ↓o_isi_bool_i, ↓o_isi_list_l, ↓o_gN, ↓o_gT, ↓o_gsNil, ↓o_gsCons, ↓o_cut_l, ↓o_cut_s, ↓wO_some, ↓wR_ok, ↓wR_of, ↓lpQ_nx, ↓lpQ_ct, wE_var, wE_c, wE_bin, wE_un, wA_nil, wA_cons, wE_app, wE_call, wE_tup, wE_lst, wE_if, wE_isi, wE_sl, wR_oNo, wR_oAt, ex_int, ex_bl, ex_lst, ex_par, wB_val, wB_tru, wB_not, wB_and, wB_or, wB_yes, wE_and, wE_or, wE_not, wE_chain, nxQ_nx, nxQ_rt, nxQ_ct, nxQ_bk, wS_nil, wS_seq, wS_bk, wS_ct, wS_exp, wS_asg, wS_ret, wS_if, wS_aug, wS_asgG, wS_par, wS_app, wS_setix, wS_augix, wS_for, wA_seq, wA_rng, wE_lc, o_add_ii, o_add_ll, o_addI_ii, o_subI_ii, o_mul_ii, o_mulI_ii, o_mul_li, o_mulL_li, o_fdiv_ii, o_mod_ii, o_pow_ii, o_neg_i, o_cmp_ii, o_eq_ii, o_ne_ii, o_is_nn, o_is_in, o_not_nn, o_not_in, o_ix_lst, o_ix_tup, o_ix_scr, o_at, o_at_neg, o_set, o_rng1, o_rng2, o_seq_lst, o_seq_tup, o_seq_scr, o_enum_lst, o_len_l, o_len_t, o_abs, o_max2, o_min2, o_int_i, o_int_b, o_list_l, o_list_s, o_list_t, o_sum_tl, o_tru_b, o_isi_int_i, o_isi_int_non, o_isi_bool_i, o_isi_list_l, o_gN, o_gT, o_gsNil, o_gsCons, o_cut_l, o_cut_s, wO_some, wR_ok, wR_of, lpQ_nx, lpQ_ct, tl_set, tl_len, tl_cons, tl_snoc, enum_tl, List.getElem?_cons_zero, List.getElem?_cons_succ, List.set_cons_zero, List.set_cons_succ, List.length_cons, List.length_nil, List.length_map, List.length_range, List.cons_append, List.nil_append, List.replicate, Nat.reduceAdd, Nat.reduceSub, Int.toNat_natCast, decide_eq_true_eq, Bool.not_eq_true, Bool.not_true, Bool.not_false, if_true, Bool.false_eq_true, if_false, true_and, and_true, Int.reduceNeg, Int.reduceLE, Int.reduceLT, Nat.reduceLeDiff, Nat.reduceLT, Int.zero_add, Nat.zero_add, Int.sub_zero, ite_true, ite_false, reduceIte, Bool.not_eq_eq_eq_not, check_ok n w f least b hn hn2 hc.nn h0 h1 h2 h3, top_ok n f b hn fun t ht => by have := h2 t ht; omega]
  rw [table_ok n (topM n f b) w l f hn hn2 ht.1 hc ht.2, wR_ok, sum_ok n (topM n f b + 1) (fun i => mem w n l f i.toNat) least (topM n f b) hn (by omega) (by omega) h0 (by omega) (by omega) (by omega), wR_ok]
theorem rows_ok' (n : Nat) (l : Bool) (f : Int → Int) (least : Int) (b : Option Int) (hn : 1 ≤ n) (hn2 : n ≤ 12) (hc : Cts f) (h0 : 0 ≤ least) (h00 : least ≤ 100) (h2 : ∀ t, b = some t → least ≤ t) (h3 : f 0 > 0 → ∃ t, b = some t ∧ t ≤ 1) : m_rows [il n f, .int least, most b, .bl l] = .ok (il n fun x => sm ((topM n f b : Int) + 1 - least).toNat fun j => mem 0 n l f (least + j).toNat x) := by
  refine m_ok rfl ?_
  unfold b_rows
  have := made_ok n 0 l f least b hn hn2 hc h0 h00 (by intro h; cases h) h2 h3
  have e : wd 0 = ("row" : Str) := rfl
  rw [e] at this
  simp only [↓wE_var, ↓wE_c, ↓wE_bin, ↓wE_un, ↓wA_nil, ↓wA_cons, ↓wE_app, ↓wE_call, ↓wE_tup, ↓wE_lst, ↓wE_if, ↓wE_isi, ↓wE_sl, ↓wR_oNo, ↓wR_oAt, ↓ex_int, ↓ex_bl, ↓ex_lst, ↓ex_par, ↓wB_val, ↓wB_tru, ↓wB_not, ↓wB_and, ↓wB_or, ↓wB_yes, ↓wE_and, ↓wE_or, ↓wE_not, ↓wE_chain, ↓nxQ_nx, ↓nxQ_rt, ↓nxQ_ct, ↓nxQ_bk, ↓wS_nil, ↓wS_seq, ↓wS_bk, ↓wS_ct, ↓wS_exp, ↓wS_asg, ↓wS_ret, ↓wS_if, ↓wS_aug, ↓wS_asgG, ↓wS_par, ↓wS_app, ↓wS_setix, ↓wS_augix, ↓wS_for, ↓wA_seq, ↓wA_rng, ↓wE_lc, ↓o_add_ii, ↓o_add_ll, ↓o_addI_ii, ↓o_subI_ii, ↓o_mul_ii, ↓o_mulI_ii, ↓o_mul_li, ↓o_mulL_li, ↓o_fdiv_ii, ↓o_mod_ii, ↓o_pow_ii, ↓o_neg_i, ↓o_cmp_ii, ↓o_eq_ii, ↓o_ne_ii, ↓o_is_nn, ↓o_is_in, ↓o_not_nn, ↓o_not_in, ↓o_ix_lst, ↓o_ix_tup, ↓o_ix_scr, ↓o_at, ↓o_at_neg, ↓o_set, ↓o_rng1, ↓o_rng2, ↓o_seq_lst, ↓o_seq_tup, ↓o_seq_scr, ↓o_enum_lst, ↓o_len_l, ↓o_len_t, ↓o_abs, ↓o_max2, ↓o_min2, ↓o_int_i, ↓o_int_b, ↓o_list_l, ↓o_list_s, ↓o_list_t, ↓o_sum_tl, ↓o_tru_b, ↓o_isi_int_i, ↓o_isi_int_non, ↓o_isi_bool_i, ↓o_isi_list_l, ↓o_gN, ↓o_gT, ↓o_gsNil, ↓o_gsCons, ↓o_cut_l, ↓o_cut_s, ↓wO_some, ↓wR_ok, ↓wR_of, ↓lpQ_nx, ↓lpQ_ct, wE_var, wE_c, wE_bin, wE_un, wA_nil, wA_cons, wE_app, wE_call, wE_tup, wE_lst, wE_if, wE_isi, wE_sl, wR_oNo, wR_oAt, ex_int, ex_bl, ex_lst, ex_par, wB_val, wB_tru, wB_not, wB_and, wB_or, wB_yes, wE_and, wE_or, wE_not, wE_chain, nxQ_nx, nxQ_rt, nxQ_ct, nxQ_bk, wS_nil, wS_seq, wS_bk, wS_ct, wS_exp, wS_asg, wS_ret, wS_if, wS_aug, wS_asgG, wS_par, wS_app, wS_setix, wS_augix, wS_for, wA_seq, wA_rng, wE_lc, o_add_ii, o_add_ll, o_addI_ii, o_subI_ii, o_mul_ii, o_mulI_ii, o_mul_li, o_mulL_li, o_fdiv_ii, o_mod_ii, o_pow_ii, o_neg_i, o_cmp_ii, o_eq_ii, o_ne_ii, o_is_nn, o_is_in, o_not_nn, o_not_in, o_ix_lst, o_ix_tup, o_ix_scr, o_at, o_at_neg, o_set, o_rng1, o_rng2, o_seq_lst, o_seq_tup, o_seq_scr, o_enum_lst, o_len_l, o_len_t, o_abs, o_max2, o_min2, o_int_i, o_int_b, o_list_l, o_list_s, o_list_t, o_sum_tl, o_tru_b, o_isi_int_i, o_isi_int_non, o_isi_bool_i, o_isi_list_l, o_gN, o_gT, o_gsNil, o_gsCons, o_cut_l, o_cut_s, wO_some, wR_ok, wR_of, lpQ_nx, lpQ_ct, tl_set, tl_len, tl_cons, tl_snoc, enum_tl, List.getElem?_cons_zero, List.getElem?_cons_succ, List.set_cons_zero, List.set_cons_succ, List.length_cons, List.length_nil, List.length_map, List.length_range, List.cons_append, List.nil_append, List.replicate, Nat.reduceAdd, Nat.reduceSub, Int.toNat_natCast, decide_eq_true_eq, Bool.not_eq_true, Bool.not_true, Bool.not_false, if_true, Bool.false_eq_true, if_false, true_and, and_true, Int.reduceNeg, Int.reduceLE, Int.reduceLT, Nat.reduceLeDiff, Nat.reduceLT, Int.zero_add, Nat.zero_add, Int.sub_zero, ite_true, ite_false, reduceIte, Bool.not_eq_eq_eq_not, this]
theorem sets_ok' (n : Nat) (l : Bool) (f : Int → Int) (least : Int) (b : Option Int) (hn : 1 ≤ n) (hn2 : n ≤ 12) (hc : Cts f) (h0 : 0 ≤ least) (h00 : least ≤ 100) (h2 : ∀ t, b = some t → least ≤ t) (h3 : f 0 > 0 → ∃ t, b = some t ∧ t ≤ 1) : m_sets [il n f, .int least, most b, .bl l] = .ok (il n fun x => sm ((topM n f b : Int) + 1 - least).toNat fun j => mem 1 n l f (least + j).toNat x) := by
  refine m_ok rfl ?_
  unfold b_sets
  have := made_ok n 1 l f least b hn hn2 hc h0 h00 (by intro h; cases h) h2 h3
  have e : wd 1 = ("set" : Str) := rfl
  rw [e] at this
  simp only [↓wE_var, ↓wE_c, ↓wE_bin, ↓wE_un, ↓wA_nil, ↓wA_cons, ↓wE_app, ↓wE_call, ↓wE_tup, ↓wE_lst, ↓wE_if, ↓wE_isi, ↓wE_sl, ↓wR_oNo, ↓wR_oAt, ↓ex_int, ↓ex_bl, ↓ex_lst, ↓ex_par, ↓wB_val, ↓wB_tru, ↓wB_not, ↓wB_and, ↓wB_or, ↓wB_yes, ↓wE_and, ↓wE_or, ↓wE_not, ↓wE_chain, ↓nxQ_nx, ↓nxQ_rt, ↓nxQ_ct, ↓nxQ_bk, ↓wS_nil, ↓wS_seq, ↓wS_bk, ↓wS_ct, ↓wS_exp, ↓wS_asg, ↓wS_ret, ↓wS_if, ↓wS_aug, ↓wS_asgG, ↓wS_par, ↓wS_app, ↓wS_setix, ↓wS_augix, ↓wS_for, ↓wA_seq, ↓wA_rng, ↓wE_lc, ↓o_add_ii, ↓o_add_ll, ↓o_addI_ii, ↓o_subI_ii, ↓o_mul_ii, ↓o_mulI_ii, ↓o_mul_li, ↓o_mulL_li, ↓o_fdiv_ii, ↓o_mod_ii, ↓o_pow_ii, ↓o_neg_i, ↓o_cmp_ii, ↓o_eq_ii, ↓o_ne_ii, ↓o_is_nn, ↓o_is_in, ↓o_not_nn, ↓o_not_in, ↓o_ix_lst, ↓o_ix_tup, ↓o_ix_scr, ↓o_at, ↓o_at_neg, ↓o_set, ↓o_rng1, ↓o_rng2, ↓o_seq_lst, ↓o_seq_tup, ↓o_seq_scr, ↓o_enum_lst, ↓o_len_l, ↓o_len_t, ↓o_abs, ↓o_max2, ↓o_min2, ↓o_int_i, ↓o_int_b, ↓o_list_l, ↓o_list_s, ↓o_list_t, ↓o_sum_tl, ↓o_tru_b, ↓o_isi_int_i, ↓o_isi_int_non, ↓o_isi_bool_i, ↓o_isi_list_l, ↓o_gN, ↓o_gT, ↓o_gsNil, ↓o_gsCons, ↓o_cut_l, ↓o_cut_s, ↓wO_some, ↓wR_ok, ↓wR_of, ↓lpQ_nx, ↓lpQ_ct, wE_var, wE_c, wE_bin, wE_un, wA_nil, wA_cons, wE_app, wE_call, wE_tup, wE_lst, wE_if, wE_isi, wE_sl, wR_oNo, wR_oAt, ex_int, ex_bl, ex_lst, ex_par, wB_val, wB_tru, wB_not, wB_and, wB_or, wB_yes, wE_and, wE_or, wE_not, wE_chain, nxQ_nx, nxQ_rt, nxQ_ct, nxQ_bk, wS_nil, wS_seq, wS_bk, wS_ct, wS_exp, wS_asg, wS_ret, wS_if, wS_aug, wS_asgG, wS_par, wS_app, wS_setix, wS_augix, wS_for, wA_seq, wA_rng, wE_lc, o_add_ii, o_add_ll, o_addI_ii, o_subI_ii, o_mul_ii, o_mulI_ii, o_mul_li, o_mulL_li, o_fdiv_ii, o_mod_ii, o_pow_ii, o_neg_i, o_cmp_ii, o_eq_ii, o_ne_ii, o_is_nn, o_is_in, o_not_nn, o_not_in, o_ix_lst, o_ix_tup, o_ix_scr, o_at, o_at_neg, o_set, o_rng1, o_rng2, o_seq_lst, o_seq_tup, o_seq_scr, o_enum_lst, o_len_l, o_len_t, o_abs, o_max2, o_min2, o_int_i, o_int_b, o_list_l, o_list_s, o_list_t, o_sum_tl, o_tru_b, o_isi_int_i, o_isi_int_non, o_isi_bool_i, o_isi_list_l, o_gN, o_gT, o_gsNil, o_gsCons, o_cut_l, o_cut_s, wO_some, wR_ok, wR_of, lpQ_nx, lpQ_ct, tl_set, tl_len, tl_cons, tl_snoc, enum_tl, List.getElem?_cons_zero, List.getElem?_cons_succ, List.set_cons_zero, List.set_cons_succ, List.length_cons, List.length_nil, List.length_map, List.length_range, List.cons_append, List.nil_append, List.replicate, Nat.reduceAdd, Nat.reduceSub, Int.toNat_natCast, decide_eq_true_eq, Bool.not_eq_true, Bool.not_true, Bool.not_false, if_true, Bool.false_eq_true, if_false, true_and, and_true, Int.reduceNeg, Int.reduceLE, Int.reduceLT, Nat.reduceLeDiff, Nat.reduceLT, Int.zero_add, Nat.zero_add, Int.sub_zero, ite_true, ite_false, reduceIte, Bool.not_eq_eq_eq_not, this]
theorem rings_ok' (n : Nat) (l : Bool) (f : Int → Int) (least : Int) (b : Option Int) (hn : 1 ≤ n) (hn2 : n ≤ 12) (hc : Cts f) (h0 : 1 ≤ least) (h00 : least ≤ 100) (h2 : ∀ t, b = some t → least ≤ t) (h3 : f 0 > 0 → ∃ t, b = some t ∧ t ≤ 1) : m_rings [il n f, .int least, most b, .bl l] = .ok (il n fun x => sm ((topM n f b : Int) + 1 - least).toNat fun j => mem 2 n l f (least + j).toNat x) := by
  refine m_ok rfl ?_
  unfold b_rings
  have := made_ok n 2 l f least b hn hn2 hc (by omega) h00 (fun _ => h0) h2 h3
  have e : wd 2 = ("ring" : Str) := rfl
  rw [e] at this
  simp only [↓wE_var, ↓wE_c, ↓wE_bin, ↓wE_un, ↓wA_nil, ↓wA_cons, ↓wE_app, ↓wE_call, ↓wE_tup, ↓wE_lst, ↓wE_if, ↓wE_isi, ↓wE_sl, ↓wR_oNo, ↓wR_oAt, ↓ex_int, ↓ex_bl, ↓ex_lst, ↓ex_par, ↓wB_val, ↓wB_tru, ↓wB_not, ↓wB_and, ↓wB_or, ↓wB_yes, ↓wE_and, ↓wE_or, ↓wE_not, ↓wE_chain, ↓nxQ_nx, ↓nxQ_rt, ↓nxQ_ct, ↓nxQ_bk, ↓wS_nil, ↓wS_seq, ↓wS_bk, ↓wS_ct, ↓wS_exp, ↓wS_asg, ↓wS_ret, ↓wS_if, ↓wS_aug, ↓wS_asgG, ↓wS_par, ↓wS_app, ↓wS_setix, ↓wS_augix, ↓wS_for, ↓wA_seq, ↓wA_rng, ↓wE_lc, ↓o_add_ii, ↓o_add_ll, ↓o_addI_ii, ↓o_subI_ii, ↓o_mul_ii, ↓o_mulI_ii, ↓o_mul_li, ↓o_mulL_li, ↓o_fdiv_ii, ↓o_mod_ii, ↓o_pow_ii, ↓o_neg_i, ↓o_cmp_ii, ↓o_eq_ii, ↓o_ne_ii, ↓o_is_nn, ↓o_is_in, ↓o_not_nn, ↓o_not_in, ↓o_ix_lst, ↓o_ix_tup, ↓o_ix_scr, ↓o_at, ↓o_at_neg, ↓o_set, ↓o_rng1, ↓o_rng2, ↓o_seq_lst, ↓o_seq_tup, ↓o_seq_scr, ↓o_enum_lst, ↓o_len_l, ↓o_len_t, ↓o_abs, ↓o_max2, ↓o_min2, ↓o_int_i, ↓o_int_b, ↓o_list_l, ↓o_list_s, ↓o_list_t, ↓o_sum_tl, ↓o_tru_b, ↓o_isi_int_i, ↓o_isi_int_non, ↓o_isi_bool_i, ↓o_isi_list_l, ↓o_gN, ↓o_gT, ↓o_gsNil, ↓o_gsCons, ↓o_cut_l, ↓o_cut_s, ↓wO_some, ↓wR_ok, ↓wR_of, ↓lpQ_nx, ↓lpQ_ct, wE_var, wE_c, wE_bin, wE_un, wA_nil, wA_cons, wE_app, wE_call, wE_tup, wE_lst, wE_if, wE_isi, wE_sl, wR_oNo, wR_oAt, ex_int, ex_bl, ex_lst, ex_par, wB_val, wB_tru, wB_not, wB_and, wB_or, wB_yes, wE_and, wE_or, wE_not, wE_chain, nxQ_nx, nxQ_rt, nxQ_ct, nxQ_bk, wS_nil, wS_seq, wS_bk, wS_ct, wS_exp, wS_asg, wS_ret, wS_if, wS_aug, wS_asgG, wS_par, wS_app, wS_setix, wS_augix, wS_for, wA_seq, wA_rng, wE_lc, o_add_ii, o_add_ll, o_addI_ii, o_subI_ii, o_mul_ii, o_mulI_ii, o_mul_li, o_mulL_li, o_fdiv_ii, o_mod_ii, o_pow_ii, o_neg_i, o_cmp_ii, o_eq_ii, o_ne_ii, o_is_nn, o_is_in, o_not_nn, o_not_in, o_ix_lst, o_ix_tup, o_ix_scr, o_at, o_at_neg, o_set, o_rng1, o_rng2, o_seq_lst, o_seq_tup, o_seq_scr, o_enum_lst, o_len_l, o_len_t, o_abs, o_max2, o_min2, o_int_i, o_int_b, o_list_l, o_list_s, o_list_t, o_sum_tl, o_tru_b, o_isi_int_i, o_isi_int_non, o_isi_bool_i, o_isi_list_l, o_gN, o_gT, o_gsNil, o_gsCons, o_cut_l, o_cut_s, wO_some, wR_ok, wR_of, lpQ_nx, lpQ_ct, tl_set, tl_len, tl_cons, tl_snoc, enum_tl, List.getElem?_cons_zero, List.getElem?_cons_succ, List.set_cons_zero, List.set_cons_succ, List.length_cons, List.length_nil, List.length_map, List.length_range, List.cons_append, List.nil_append, List.replicate, Nat.reduceAdd, Nat.reduceSub, Int.toNat_natCast, decide_eq_true_eq, Bool.not_eq_true, Bool.not_true, Bool.not_false, if_true, Bool.false_eq_true, if_false, true_and, and_true, Int.reduceNeg, Int.reduceLE, Int.reduceLT, Nat.reduceLeDiff, Nat.reduceLT, Int.zero_add, Nat.zero_add, Int.sub_zero, ite_true, ite_false, reduceIte, Bool.not_eq_eq_eq_not, this]
end L2.DL.K20
set_option Elab.async false
set_option linter.all false
set_option maxRecDepth 100000
set_option autoImplicit false
namespace L2.DL.K20
open PySem PySem.Spec PyProof.Rows L2 L2.DL L2.SR
theorem pairs_ok (n : Nat) (l : Bool) (f g : Int → Int) (hn : 1 ≤ n) (hn2 : n ≤ 12) (hc : Cts f) (hg : Cts g) : m_pairs [il n f, il n g, .bl l] = .ok (il n (cv l f g)) := by
  refine m_ok rfl ?_
  unfold b_pairs
  rw [wS_seq]
  refine wS_no ?_ (wS_nil.2 ?_)
  · simp (disch := omega) only [↓wE_var, ↓wE_c, ↓wE_bin, ↓wE_un, ↓wA_nil, ↓wA_cons, ↓wE_app, ↓wE_call, ↓wE_tup, ↓wE_lst, ↓wE_if, ↓wE_isi, ↓wE_sl, ↓wR_oNo, ↓wR_oAt, ↓ex_int, ↓ex_bl, ↓ex_lst, ↓ex_par, ↓wB_val, ↓wB_tru, ↓wB_not, ↓wB_and, ↓wB_or, ↓wB_yes, ↓wE_and, ↓wE_or, ↓wE_not, ↓wE_chain, ↓nxQ_nx, ↓nxQ_rt, ↓nxQ_ct, ↓nxQ_bk, ↓wS_nil, ↓wS_seq, ↓wS_bk, ↓wS_ct, ↓wS_exp, ↓wS_asg, ↓wS_ret, ↓wS_if, ↓wS_aug, ↓wS_asgG, ↓wS_par, ↓wS_app, ↓wS_setix, ↓wS_augix, ↓wS_for, ↓wA_seq, ↓wA_rng, ↓wE_lc, ↓o_add_ii, ↓o_add_ll, ↓o_addI_ii, ↓o_subI_ii, ↓o_mul_ii, ↓o_mulI_ii, ↓o_mul_li, ↓o_mulL_li, ↓o_fdiv_ii, ↓o_mod_ii, ↓o_pow_ii, ↓o_neg_i, ↓o_cmp_ii, ↓o_eq_ii, ↓o_ne_ii, ↓o_is_nn, ↓o_is_in, ↓o_not_nn, ↓o_not_in, ↓o_ix_lst, ↓o_ix_tup, ↓o_ix_scr, ↓o_at, ↓o_at_neg, ↓o_set, ↓o_rng1, ↓o_rng2, ↓o_seq_lst, ↓o_seq_tup, ↓o_seq_scr, ↓o_enum_lst, ↓o_len_l, ↓o_len_t, ↓o_abs, ↓o_max2, ↓o_min2, ↓o_int_i, ↓o_int_b, ↓o_list_l, ↓o_list_s, ↓o_list_t, ↓o_sum_tl, ↓o_tru_b, ↓o_isi_int_i, ↓o_isi_int_non, ↓o_isi_bool_i, ↓o_isi_list_l, ↓o_gN, ↓o_gT, ↓o_gsNil, ↓o_gsCons, ↓o_cut_l, ↓o_cut_s, ↓wO_some, ↓wR_ok, ↓wR_of, ↓lpQ_nx, ↓lpQ_ct, wE_var, wE_c, wE_bin, wE_un, wA_nil, wA_cons, wE_app, wE_call, wE_tup, wE_lst, wE_if, wE_isi, wE_sl, wR_oNo, wR_oAt, ex_int, ex_bl, ex_lst, ex_par, wB_val, wB_tru, wB_not, wB_and, wB_or, wB_yes, wE_and, wE_or, wE_not, wE_chain, nxQ_nx, nxQ_rt, nxQ_ct, nxQ_bk, wS_nil, wS_seq, wS_bk, wS_ct, wS_exp, wS_asg, wS_ret, wS_if, wS_aug, wS_asgG, wS_par, wS_app, wS_setix, wS_augix, wS_for, wA_seq, wA_rng, wE_lc, o_add_ii, o_add_ll, o_addI_ii, o_subI_ii, o_mul_ii, o_mulI_ii, o_mul_li, o_mulL_li, o_fdiv_ii, o_mod_ii, o_pow_ii, o_neg_i, o_cmp_ii, o_eq_ii, o_ne_ii, o_is_nn, o_is_in, o_not_nn, o_not_in, o_ix_lst, o_ix_tup, o_ix_scr, o_at, o_at_neg, o_set, o_rng1, o_rng2, o_seq_lst, o_seq_tup, o_seq_scr, o_enum_lst, o_len_l, o_len_t, o_abs, o_max2, o_min2, o_int_i, o_int_b, o_list_l, o_list_s, o_list_t, o_sum_tl, o_tru_b, o_isi_int_i, o_isi_int_non, o_isi_bool_i, o_isi_list_l, o_gN, o_gT, o_gsNil, o_gsCons, o_cut_l, o_cut_s, wO_some, wR_ok, wR_of, lpQ_nx, lpQ_ct, tl_set, tl_len, tl_cons, tl_snoc, enum_tl, List.getElem?_cons_zero, List.getElem?_cons_succ, List.set_cons_zero, List.set_cons_succ, List.length_cons, List.length_nil, List.length_map, List.length_range, List.cons_append, List.nil_append, List.replicate, Nat.reduceAdd, Nat.reduceSub, Int.toNat_natCast, decide_eq_true_eq, Bool.not_eq_true, Bool.not_true, Bool.not_false, if_true, Bool.false_eq_true, if_false, true_and, and_true, Int.reduceNeg, Int.reduceLE, Int.reduceLT, Nat.reduceLeDiff, Nat.reduceLT, Int.zero_add, Nat.zero_add, Int.sub_zero, ite_true, ite_false, reduceIte, Bool.not_eq_eq_eq_not, counts_ok n f hn hn2 hc.nn, counts_ok n g hn hn2 hg.nn]
    simp
  · simp (disch := omega) only [↓wE_var, ↓wE_c, ↓wE_bin, ↓wE_un, ↓wA_nil, ↓wA_cons, ↓wE_app, ↓wE_call, ↓wE_tup, ↓wE_lst, ↓wE_if, ↓wE_isi, ↓wE_sl, ↓wR_oNo, ↓wR_oAt, ↓ex_int, ↓ex_bl, ↓ex_lst, ↓ex_par, ↓wB_val, ↓wB_tru, ↓wB_not, ↓wB_and, ↓wB_or, ↓wB_yes, ↓wE_and, ↓wE_or, ↓wE_not, ↓wE_chain, ↓nxQ_nx, ↓nxQ_rt, ↓nxQ_ct, ↓nxQ_bk, ↓wS_nil, ↓wS_seq, ↓wS_bk, ↓wS_ct, ↓wS_exp, ↓wS_asg, ↓wS_ret, ↓wS_if, ↓wS_aug, ↓wS_asgG, ↓wS_par, ↓wS_app, ↓wS_setix, ↓wS_augix, ↓wS_for, ↓wA_seq, ↓wA_rng, ↓wE_lc, ↓o_add_ii, ↓o_add_ll, ↓o_addI_ii, ↓o_subI_ii, ↓o_mul_ii, ↓o_mulI_ii, ↓o_mul_li, ↓o_mulL_li, ↓o_fdiv_ii, ↓o_mod_ii, ↓o_pow_ii, ↓o_neg_i, ↓o_cmp_ii, ↓o_eq_ii, ↓o_ne_ii, ↓o_is_nn, ↓o_is_in, ↓o_not_nn, ↓o_not_in, ↓o_ix_lst, ↓o_ix_tup, ↓o_ix_scr, ↓o_at, ↓o_at_neg, ↓o_set, ↓o_rng1, ↓o_rng2, ↓o_seq_lst, ↓o_seq_tup, ↓o_seq_scr, ↓o_enum_lst, ↓o_len_l, ↓o_len_t, ↓o_abs, ↓o_max2, ↓o_min2, ↓o_int_i, ↓o_int_b, ↓o_list_l, ↓o_list_s, ↓o_list_t, ↓o_sum_tl, ↓o_tru_b, ↓o_isi_int_i, ↓o_isi_int_non, ↓o_isi_bool_i, ↓o_isi_list_l, ↓o_gN, ↓o_gT, ↓o_gsNil, ↓o_gsCons, ↓o_cut_l, ↓o_cut_s, ↓wO_some, ↓wR_ok, ↓wR_of, ↓lpQ_nx, ↓lpQ_ct, wE_var, wE_c, wE_bin, wE_un, wA_nil, wA_cons, wE_app, wE_call, wE_tup, wE_lst, wE_if, wE_isi, wE_sl, wR_oNo, wR_oAt, ex_int, ex_bl, ex_lst, ex_par, wB_val, wB_tru, wB_not, wB_and, wB_or, wB_yes, wE_and, wE_or, wE_not, wE_chain, nxQ_nx, nxQ_rt, nxQ_ct, nxQ_bk, wS_nil, wS_seq, wS_bk, wS_ct, wS_exp, wS_asg, wS_ret, wS_if, wS_aug, wS_asgG, wS_par, wS_app, wS_setix, wS_augix, wS_for, wA_seq, wA_rng, wE_lc, o_add_ii, o_add_ll, o_addI_ii, o_subI_ii, o_mul_ii, o_mulI_ii, o_mul_li, o_mulL_li, o_fdiv_ii, o_mod_ii, o_pow_ii, o_neg_i, o_cmp_ii, o_eq_ii, o_ne_ii, o_is_nn, o_is_in, o_not_nn, o_not_in, o_ix_lst, o_ix_tup, o_ix_scr, o_at, o_at_neg, o_set, o_rng1, o_rng2, o_seq_lst, o_seq_tup, o_seq_scr, o_enum_lst, o_len_l, o_len_t, o_abs, o_max2, o_min2, o_int_i, o_int_b, o_list_l, o_list_s, o_list_t, o_sum_tl, o_tru_b, o_isi_int_i, o_isi_int_non, o_isi_bool_i, o_isi_list_l, o_gN, o_gT, o_gsNil, o_gsCons, o_cut_l, o_cut_s, wO_some, wR_ok, wR_of, lpQ_nx, lpQ_ct, tl_set, tl_len, tl_cons, tl_snoc, enum_tl, List.getElem?_cons_zero, List.getElem?_cons_succ, List.set_cons_zero, List.set_cons_succ, List.length_cons, List.length_nil, List.length_map, List.length_range, List.cons_append, List.nil_append, List.replicate, Nat.reduceAdd, Nat.reduceSub, Int.toNat_natCast, decide_eq_true_eq, Bool.not_eq_true, Bool.not_true, Bool.not_false, if_true, Bool.false_eq_true, if_false, true_and, and_true, Int.reduceNeg, Int.reduceLE, Int.reduceLT, Nat.reduceLeDiff, Nat.reduceLT, Int.zero_add, Nat.zero_add, Int.sub_zero, ite_true, ite_false, reduceIte, Bool.not_eq_eq_eq_not, prod_ok n l f g hn (by omega) (.inl hc.small)]
theorem cut_one {n : Nat} {g : Int → D} (hn : 1 ≤ n) : cutD (tl n g) (some 1) none = tl (n - 1) fun i => g (i + 1) := by
  unfold cutD
  rw [show (some (1 : Int)) = some ((1 : Nat) : Int) from rfl, HT.sIx_nat, HT.sIx_none, tl_len, Nat.min_eq_left hn]
  refine tl_ext (by rw [List.length_take, List.length_drop, tl_len]; omega) fun i hi => ?_
  rw [List.getElem?_take, if_pos (by omega), List.getElem?_drop, tl_get (by omega)]
  congr 2
  omega
theorem sm_cut2 {N k : Nat} {h : Int → Int} {c : Int → Prop} [DecidablePred c] (hk : k ≤ N) (h1 : ∀ j : Int, 0 ≤ j → j < k → c j) (h2 : ∀ j : Int, k ≤ j → j < N → c j → h j = 0) : (sm N fun j => if c j then h j else 0) = sm k h := by
  induction N with
  | zero => rw [show k = 0 by omega]; rfl
  | succ N ih =>
    by_cases e : k = N + 1
    · subst e
      exact sm_congr fun t h3 h4 => if_pos (h1 t h3 h4)
    · rw [sm, ih (by omega) (fun j h3 h4 => h2 j h3 (by omega))]
      have : (if c (N : Int) then h N else 0) = 0 := by
        by_cases hc : c (N : Int)
        · rw [if_pos hc]; exact h2 N (by omega) (by omega) hc
        · rw [if_neg hc]
      rw [this, Int.add_zero]
/-- is m among the numbers of members asked for -/
def cndB (f : Int → Int) (b : Option Int) (m : Int) : Bool := (match b with
  | none => true
  | some t => decide (m ≤ t)) && (decide (f 0 = 0) || decide (m < 2))
theorem cnd_iff {f : Int → Int} {b : Option Int} {m : Int} : cndB f b m = true ↔ (∀ t, b = some t → m ≤ t) ∧ (f 0 = 0 ∨ m < 2) := by
  unfold cndB
  cases b with
  | none => simp
  | some t => simp
theorem due_top (n : Nat) (w : Fin 3) (l : Bool) (f : Int → Int) (least : Int) (b : Option Int) (hn : 1 ≤ n) (hc : Cts f) (h0 : 0 ≤ least) (h2 : ∀ t, b = some t → least ≤ t) (h3 : f 0 > 0 → ∃ t, b = some t ∧ t ≤ 1) (x : Int) (hx : 0 ≤ x) (hx2 : x < n) :
    (sm ((if 2 > (n : Int) then 2 else (n : Int)) - least).toNat fun j => if cndB f b (least + j) = true then mem w n l f (least + j).toNat x else 0) = sm ((topM n f b : Int) + 1 - least).toNat fun j => mem w n l f (least + j).toNat x := by
  by_cases c0 : f 0 = 0
  · have ht : (topM n f b : Int) ≤ n - 1 ∧ (∀ t, b = some t → (topM n f b : Int) ≤ t) ∧ ((topM n f b : Int) = n - 1 ∨ ∃ t, b = some t ∧ (topM n f b : Int) = t) := by
      unfold topM
      cases b with
      | none => simp only [if_pos c0]; exact ⟨by omega, (fun t h => nomatch h), .inl (by omega)⟩
      | some t =>
        have h4 := h2 t rfl
        simp only [if_pos c0]
        refine ⟨by omega, fun t' h => by cases h; omega, ?_⟩
        by_cases h5 : t.toNat ≤ n - 1
        · right; exact ⟨t, rfl, by omega⟩
        · left; omega
    obtain ⟨t1, t2, t3⟩ := ht
    refine sm_cut2 ?_ (fun j j0 j1 => cnd_iff.2 ⟨fun t h => ?_, .inl c0⟩) (fun j j1 j2 hcn => ?_)
    · split <;> omega
    · have := t2 t h; omega
    · have hcn := cnd_iff.1 hcn
      by_cases hm : least + j ≤ (n : Int) - 1
      · exfalso
        rcases t3 with h | ⟨t, h, h5⟩
        · omega
        · have := hcn.1 t h; omega
      · have hn1 : n = 1 := by split at j2 <;> omega
        subst hn1
        have hm1 : (least + j).toNat = 1 := by split at j2 <;> omega
        rw [hm1, mem_1, lr_one l f hx, show x = 0 by omega, c0]
  · have hp : f 0 > 0 := by have := hc.nn 0; omega
    obtain ⟨t, rfl, ht⟩ := h3 hp
    have h4 := h2 t rfl
    have e : (topM n f (some t) : Int) = t := by simp only [topM, if_neg c0]; omega
    rw [e]
    refine sm_cut2 ?_ (fun j j0 j1 => cnd_iff.2 ⟨fun t' h => ?_, .inr (by omega)⟩) (fun j j1 j2 hcn => ?_)
    · split <;> omega
    · cases h; omega
    · exfalso
      have hcn := cnd_iff.1 hcn
      have := hcn.1 t rfl
      omega
theorem law_true (ns : List Int) (h : ns.length ≤ 63) : m_law [.scr (ns.map .int)] = .ok (.bl true) := by
  obtain ⟨L, eL, hL, hd⟩ := draws_ok (ns := ns) (m := 60) (by omega)
  have eD : m_law_draws [.scr (ns.map .int), .int 60] = .ok (.lst (tl 60 fun i => .int (L.getD i.toNat 0))) := by
    have e : L.map D.int = tl 60 fun i => .int (L.getD i.toNat 0) := by
      refine tl_ext (by rw [List.length_map, hL]) fun i hi => ?_
      rw [List.getElem?_map, List.getElem?_eq_getElem (by omega), Int.toNat_natCast, List.getD_eq_getElem?_getD, List.getElem?_eq_getElem (by omega)]
      rfl
    rw [← e]
    exact eL
  have hdr : ∀ i : Int, 0 ≤ L.getD i.toNat 0 := by
    intro i
    rw [List.getD_eq_getElem?_getD]
    cases q : L[i.toNat]? with
    | none => exact Int.le_refl _
    | some y => exact (hd y (List.mem_of_getElem? q)).1
  generalize hdd : (fun i : Int => L.getD i.toNat 0) = dr at *
  have hdr : ∀ i : Int, 0 ≤ dr i := by intro i; rw [← hdd]; exact hdr i
  have eD : m_law_draws [.scr (ns.map .int), .int 60] = .ok (.lst (tl 60 fun i => .int (dr i))) := by rw [← hdd]; exact eD
  obtain ⟨n, hn⟩ : ∃ n : Nat, (n : Int) = 1 + dr 0 % 12 := ⟨(1 + dr 0 % 12).toNat, by have := Int.emod_nonneg (dr 0) (show (12 : Int) ≠ 0 by decide); omega⟩
  have hn1 : 1 ≤ n ∧ n ≤ 12 := by omega
  obtain ⟨q, hq, hq2⟩ : ∃ q : Int, (q = 2 ∨ q = 4 ∨ q = 9) ∧ ∀ Q, wO (atI [D.int 2, .int 4, .int 9] (dr 30 % 3)) Q ↔ Q (.int q) := by
    have h3 : dr 30 % 3 = 0 ∨ dr 30 % 3 = 1 ∨ dr 30 % 3 = 2 := by omega
    rcases h3 with h | h | h <;> rw [h]
    · exact ⟨2, .inl rfl, fun Q => wO_some⟩
    · exact ⟨4, .inr (.inl rfl), fun Q => wO_some⟩
    · exact ⟨9, .inr (.inr rfl), fun Q => wO_some⟩
  obtain ⟨w, hw⟩ : ∃ w : Fin 3, ∀ Q, wO (atI [D.str "row", .str "set", .str "ring"] (dr 32 % 3)) Q ↔ Q (.str (wd w)) := by
    have h3 : dr 32 % 3 = 0 ∨ dr 32 % 3 = 1 ∨ dr 32 % 3 = 2 := by omega
    rcases h3 with h | h | h <;> rw [h]
    · exact ⟨0, fun Q => wO_some⟩
    · exact ⟨1, fun Q => wO_some⟩
    · exact ⟨2, fun Q => wO_some⟩
  obtain ⟨e1, e2, e3, e4, e5, e6⟩ := wd_ok w
  refine m_ok rfl ?_
  unfold b_law
  refine wS_cut (fun Γ => Γ = [.scr (ns.map .int), .lst (tl 60 fun i => .int (dr i)), .non, .non, .non, .non, .non, .non, .non, .non, .non, .non, .non, .non, .non, .non, .non, .non]) ?_ ?_
  · simp (disch := omega) only [↓wE_var, ↓wE_c, ↓wE_bin, ↓wE_un, ↓wA_nil, ↓wA_cons, ↓wE_app, ↓wE_call, ↓wE_tup, ↓wE_lst, ↓wE_if, ↓wE_isi, ↓wE_sl, ↓wR_oNo, ↓wR_oAt, ↓ex_int, ↓ex_bl, ↓ex_lst, ↓ex_par, ↓wB_val, ↓wB_tru, ↓wB_not, ↓wB_and, ↓wB_or, ↓wB_yes, ↓wE_and, ↓wE_or, ↓wE_not, ↓wE_chain, ↓nxQ_nx, ↓nxQ_rt, ↓nxQ_ct, ↓nxQ_bk, ↓wS_nil, ↓wS_seq, ↓wS_bk, ↓wS_ct, ↓wS_exp, ↓wS_asg, ↓wS_ret, ↓wS_if, ↓wS_aug, ↓wS_asgG, ↓wS_par, ↓wS_app, ↓wS_setix, ↓wS_augix, ↓wS_for, ↓wA_seq, ↓wA_rng, ↓wE_lc, ↓o_add_ii, ↓o_add_ll, ↓o_addI_ii, ↓o_subI_ii, ↓o_mul_ii, ↓o_mulI_ii, ↓o_mul_li, ↓o_mulL_li, ↓o_fdiv_ii, ↓o_mod_ii, ↓o_pow_ii, ↓o_neg_i, ↓o_cmp_ii, ↓o_eq_ii, ↓o_ne_ii, ↓o_is_nn, ↓o_is_in, ↓o_not_nn, ↓o_not_in, ↓o_ix_lst, ↓o_ix_tup, ↓o_ix_scr, ↓o_at, ↓o_at_neg, ↓o_set, ↓o_rng1, ↓o_rng2, ↓o_seq_lst, ↓o_seq_tup, ↓o_seq_scr, ↓o_enum_lst, ↓o_len_l, ↓o_len_t, ↓o_abs, ↓o_max2, ↓o_min2, ↓o_int_i, ↓o_int_b, ↓o_list_l, ↓o_list_s, ↓o_list_t, ↓o_sum_tl, ↓o_tru_b, ↓o_isi_int_i, ↓o_isi_int_non, ↓o_isi_bool_i, ↓o_isi_list_l, ↓o_gN, ↓o_gT, ↓o_gsNil, ↓o_gsCons, ↓o_cut_l, ↓o_cut_s, ↓wO_some, ↓wR_ok, ↓wR_of, ↓lpQ_nx, ↓lpQ_ct, wE_var, wE_c, wE_bin, wE_un, wA_nil, wA_cons, wE_app, wE_call, wE_tup, wE_lst, wE_if, wE_isi, wE_sl, wR_oNo, wR_oAt, ex_int, ex_bl, ex_lst, ex_par, wB_val, wB_tru, wB_not, wB_and, wB_or, wB_yes, wE_and, wE_or, wE_not, wE_chain, nxQ_nx, nxQ_rt, nxQ_ct, nxQ_bk, wS_nil, wS_seq, wS_bk, wS_ct, wS_exp, wS_asg, wS_ret, wS_if, wS_aug, wS_asgG, wS_par, wS_app, wS_setix, wS_augix, wS_for, wA_seq, wA_rng, wE_lc, o_add_ii, o_add_ll, o_addI_ii, o_subI_ii, o_mul_ii, o_mulI_ii, o_mul_li, o_mulL_li, o_fdiv_ii, o_mod_ii, o_pow_ii, o_neg_i, o_cmp_ii, o_eq_ii, o_ne_ii, o_is_nn, o_is_in, o_not_nn, o_not_in, o_ix_lst, o_ix_tup, o_ix_scr, o_at, o_at_neg, o_set, o_rng1, o_rng2, o_seq_lst, o_seq_tup, o_seq_scr, o_enum_lst, o_len_l, o_len_t, o_abs, o_max2, o_min2, o_int_i, o_int_b, o_list_l, o_list_s, o_list_t, o_sum_tl, o_tru_b, o_isi_int_i, o_isi_int_non, o_isi_bool_i, o_isi_list_l, o_gN, o_gT, o_gsNil, o_gsCons, o_cut_l, o_cut_s, wO_some, wR_ok, wR_of, lpQ_nx, lpQ_ct, tl_set, tl_len, tl_cons, tl_snoc, enum_tl, List.getElem?_cons_zero, List.getElem?_cons_succ, List.set_cons_zero, List.set_cons_succ, List.length_cons, List.length_nil, List.length_map, List.length_range, List.cons_append, List.nil_append, List.replicate, Nat.reduceAdd, Nat.reduceSub, Int.toNat_natCast, decide_eq_true_eq, Bool.not_eq_true, Bool.not_true, Bool.not_false, if_true, Bool.false_eq_true, if_false, true_and, and_true, Int.reduceNeg, Int.reduceLE, Int.reduceLT, Nat.reduceLeDiff, Nat.reduceLT, Int.zero_add, Nat.zero_add, Int.sub_zero, ite_true, ite_false, reduceIte, Bool.not_eq_eq_eq_not, eD]
    exact ⟨_, rfl, rfl⟩
  rintro _ rfl
  have ehl : ∃ l : Bool, l = decide (dr 1 % 2 = 0) := ⟨_, rfl⟩
  obtain ⟨l, hl⟩ := ehl
  refine wS_cut (fun Γ => Γ = [.scr (ns.map .int), .lst (tl 60 fun i => .int (dr i)), .int n, .bl l, .non, .non, .non, .non, .non, .non, .non, .non, .non, .non, .non, .non, .non, .non]) ?_ ?_
  · simp (disch := omega) only [↓wE_var, ↓wE_c, ↓wE_bin, ↓wE_un, ↓wA_nil, ↓wA_cons, ↓wE_app, ↓wE_call, ↓wE_tup, ↓wE_lst, ↓wE_if, ↓wE_isi, ↓wE_sl, ↓wR_oNo, ↓wR_oAt, ↓ex_int, ↓ex_bl, ↓ex_lst, ↓ex_par, ↓wB_val, ↓wB_tru, ↓wB_not, ↓wB_and, ↓wB_or, ↓wB_yes, ↓wE_and, ↓wE_or, ↓wE_not, ↓wE_chain, ↓nxQ_nx, ↓nxQ_rt, ↓nxQ_ct, ↓nxQ_bk, ↓wS_nil, ↓wS_seq, ↓wS_bk, ↓wS_ct, ↓wS_exp, ↓wS_asg, ↓wS_ret, ↓wS_if, ↓wS_aug, ↓wS_asgG, ↓wS_par, ↓wS_app, ↓wS_setix, ↓wS_augix, ↓wS_for, ↓wA_seq, ↓wA_rng, ↓wE_lc, ↓o_add_ii, ↓o_add_ll, ↓o_addI_ii, ↓o_subI_ii, ↓o_mul_ii, ↓o_mulI_ii, ↓o_mul_li, ↓o_mulL_li, ↓o_fdiv_ii, ↓o_mod_ii, ↓o_pow_ii, ↓o_neg_i, ↓o_cmp_ii, ↓o_eq_ii, ↓o_ne_ii, ↓o_is_nn, ↓o_is_in, ↓o_not_nn, ↓o_not_in, ↓o_ix_lst, ↓o_ix_tup, ↓o_ix_scr, ↓o_at, ↓o_at_neg, ↓o_set, ↓o_rng1, ↓o_rng2, ↓o_seq_lst, ↓o_seq_tup, ↓o_seq_scr, ↓o_enum_lst, ↓o_len_l, ↓o_len_t, ↓o_abs, ↓o_max2, ↓o_min2, ↓o_int_i, ↓o_int_b, ↓o_list_l, ↓o_list_s, ↓o_list_t, ↓o_sum_tl, ↓o_tru_b, ↓o_isi_int_i, ↓o_isi_int_non, ↓o_isi_bool_i, ↓o_isi_list_l, ↓o_gN, ↓o_gT, ↓o_gsNil, ↓o_gsCons, ↓o_cut_l, ↓o_cut_s, ↓wO_some, ↓wR_ok, ↓wR_of, ↓lpQ_nx, ↓lpQ_ct, wE_var, wE_c, wE_bin, wE_un, wA_nil, wA_cons, wE_app, wE_call, wE_tup, wE_lst, wE_if, wE_isi, wE_sl, wR_oNo, wR_oAt, ex_int, ex_bl, ex_lst, ex_par, wB_val, wB_tru, wB_not, wB_and, wB_or, wB_yes, wE_and, wE_or, wE_not, wE_chain, nxQ_nx, nxQ_rt, nxQ_ct, nxQ_bk, wS_nil, wS_seq, wS_bk, wS_ct, wS_exp, wS_asg, wS_ret, wS_if, wS_aug, wS_asgG, wS_par, wS_app, wS_setix, wS_augix, wS_for, wA_seq, wA_rng, wE_lc, o_add_ii, o_add_ll, o_addI_ii, o_subI_ii, o_mul_ii, o_mulI_ii, o_mul_li, o_mulL_li, o_fdiv_ii, o_mod_ii, o_pow_ii, o_neg_i, o_cmp_ii, o_eq_ii, o_ne_ii, o_is_nn, o_is_in, o_not_nn, o_not_in, o_ix_lst, o_ix_tup, o_ix_scr, o_at, o_at_neg, o_set, o_rng1, o_rng2, o_seq_lst, o_seq_tup, o_seq_scr, o_enum_lst, o_len_l, o_len_t, o_abs, o_max2, o_min2, o_int_i, o_int_b, o_list_l, o_list_s, o_list_t, o_sum_tl, o_tru_b, o_isi_int_i, o_isi_int_non, o_isi_bool_i, o_isi_list_l, o_gN, o_gT, o_gsNil, o_gsCons, o_cut_l, o_cut_s, wO_some, wR_ok, wR_of, lpQ_nx, lpQ_ct, tl_set, tl_len, tl_cons, tl_snoc, enum_tl, List.getElem?_cons_zero, List.getElem?_cons_succ, List.set_cons_zero, List.set_cons_succ, List.length_cons, List.length_nil, List.length_map, List.length_range, List.cons_append, List.nil_append, List.replicate, Nat.reduceAdd, Nat.reduceSub, Int.toNat_natCast, decide_eq_true_eq, Bool.not_eq_true, Bool.not_true, Bool.not_false, if_true, Bool.false_eq_true, if_false, true_and, and_true, Int.reduceNeg, Int.reduceLE, Int.reduceLT, Nat.reduceLeDiff, Nat.reduceLT, Int.zero_add, Nat.zero_add, Int.sub_zero, ite_true, ite_false, reduceIte, Bool.not_eq_eq_eq_not]
    refine ⟨_, rfl, ?_⟩
    rw [hn, hl]
  rintro _ rfl
  have hqp : 0 < q ∧ q ≤ 9 := by omega
  refine wS_cut (fun Γ => Γ = [.scr (ns.map .int), .lst (tl 60 fun i => .int (dr i)), .int n, .bl l, il n fun j => dr (2 + j) % q, .non, .non, .non, .non, .non, .non, .non, .non, .non, .non, .non, .non, .non]) ?_ ?_
  · simp (disch := omega) only [↓wE_var, ↓wE_c, ↓wE_bin, ↓wE_un, ↓wA_nil, ↓wA_cons, ↓wE_app, ↓wE_call, ↓wE_tup, ↓wE_lst, ↓wE_if, ↓wE_isi, ↓wE_sl, ↓wR_oNo, ↓wR_oAt, ↓ex_int, ↓ex_bl, ↓ex_lst, ↓ex_par, ↓wB_val, ↓wB_tru, ↓wB_not, ↓wB_and, ↓wB_or, ↓wB_yes, ↓wE_and, ↓wE_or, ↓wE_not, ↓wE_chain, ↓nxQ_nx, ↓nxQ_rt, ↓nxQ_ct, ↓nxQ_bk, ↓wS_nil, ↓wS_seq, ↓wS_bk, ↓wS_ct, ↓wS_exp, ↓wS_asg, ↓wS_ret, ↓wS_if, ↓wS_aug, ↓wS_asgG, ↓wS_par, ↓wS_app, ↓wS_setix, ↓wS_augix, ↓wS_for, ↓wA_seq, ↓wA_rng, ↓wE_lc, ↓o_add_ii, ↓o_add_ll, ↓o_addI_ii, ↓o_subI_ii, ↓o_mul_ii, ↓o_mulI_ii, ↓o_mul_li, ↓o_mulL_li, ↓o_fdiv_ii, ↓o_mod_ii, ↓o_pow_ii, ↓o_neg_i, ↓o_cmp_ii, ↓o_eq_ii, ↓o_ne_ii, ↓o_is_nn, ↓o_is_in, ↓o_not_nn, ↓o_not_in, ↓o_ix_lst, ↓o_ix_tup, ↓o_ix_scr, ↓o_at, ↓o_at_neg, ↓o_set, ↓o_rng1, ↓o_rng2, ↓o_seq_lst, ↓o_seq_tup, ↓o_seq_scr, ↓o_enum_lst, ↓o_len_l, ↓o_len_t, ↓o_abs, ↓o_max2, ↓o_min2, ↓o_int_i, ↓o_int_b, ↓o_list_l, ↓o_list_s, ↓o_list_t, ↓o_sum_tl, ↓o_tru_b, ↓o_isi_int_i, ↓o_isi_int_non, ↓o_isi_bool_i, ↓o_isi_list_l, ↓o_gN, ↓o_gT, ↓o_gsNil, ↓o_gsCons, ↓o_cut_l, ↓o_cut_s, ↓wO_some, ↓wR_ok, ↓wR_of, ↓lpQ_nx, ↓lpQ_ct, wE_var, wE_c, wE_bin, wE_un, wA_nil, wA_cons, wE_app, wE_call, wE_tup, wE_lst, wE_if, wE_isi, wE_sl, wR_oNo, wR_oAt, ex_int, ex_bl, ex_lst, ex_par, wB_val, wB_tru, wB_not, wB_and, wB_or, wB_yes, wE_and, wE_or, wE_not, wE_chain, nxQ_nx, nxQ_rt, nxQ_ct, nxQ_bk, wS_nil, wS_seq, wS_bk, wS_ct, wS_exp, wS_asg, wS_ret, wS_if, wS_aug, wS_asgG, wS_par, wS_app, wS_setix, wS_augix, wS_for, wA_seq, wA_rng, wE_lc, o_add_ii, o_add_ll, o_addI_ii, o_subI_ii, o_mul_ii, o_mulI_ii, o_mul_li, o_mulL_li, o_fdiv_ii, o_mod_ii, o_pow_ii, o_neg_i, o_cmp_ii, o_eq_ii, o_ne_ii, o_is_nn, o_is_in, o_not_nn, o_not_in, o_ix_lst, o_ix_tup, o_ix_scr, o_at, o_at_neg, o_set, o_rng1, o_rng2, o_seq_lst, o_seq_tup, o_seq_scr, o_enum_lst, o_len_l, o_len_t, o_abs, o_max2, o_min2, o_int_i, o_int_b, o_list_l, o_list_s, o_list_t, o_sum_tl, o_tru_b, o_isi_int_i, o_isi_int_non, o_isi_bool_i, o_isi_list_l, o_gN, o_gT, o_gsNil, o_gsCons, o_cut_l, o_cut_s, wO_some, wR_ok, wR_of, lpQ_nx, lpQ_ct, tl_set, tl_len, tl_cons, tl_snoc, enum_tl, List.getElem?_cons_zero, List.getElem?_cons_succ, List.set_cons_zero, List.set_cons_succ, List.length_cons, List.length_nil, List.length_map, List.length_range, List.cons_append, List.nil_append, List.replicate, Nat.reduceAdd, Nat.reduceSub, Int.toNat_natCast, decide_eq_true_eq, Bool.not_eq_true, Bool.not_true, Bool.not_false, if_true, Bool.false_eq_true, if_false, true_and, and_true, Int.reduceNeg, Int.reduceLE, Int.reduceLT, Nat.reduceLeDiff, Nat.reduceLT, Int.zero_add, Nat.zero_add, Int.sub_zero, ite_true, ite_false, reduceIte, Bool.not_eq_eq_eq_not]
    refine ⟨by omega, by omega, lc_tl (fun j => .int (dr (2 + j) % q)) ?_ ⟨_, rfl, rfl⟩⟩
    intro j hj
    simp (disch := omega) only [↓wE_var, ↓wE_c, ↓wE_bin, ↓wE_un, ↓wA_nil, ↓wA_cons, ↓wE_app, ↓wE_call, ↓wE_tup, ↓wE_lst, ↓wE_if, ↓wE_isi, ↓wE_sl, ↓wR_oNo, ↓wR_oAt, ↓ex_int, ↓ex_bl, ↓ex_lst, ↓ex_par, ↓wB_val, ↓wB_tru, ↓wB_not, ↓wB_and, ↓wB_or, ↓wB_yes, ↓wE_and, ↓wE_or, ↓wE_not, ↓wE_chain, ↓nxQ_nx, ↓nxQ_rt, ↓nxQ_ct, ↓nxQ_bk, ↓wS_nil, ↓wS_seq, ↓wS_bk, ↓wS_ct, ↓wS_exp, ↓wS_asg, ↓wS_ret, ↓wS_if, ↓wS_aug, ↓wS_asgG, ↓wS_par, ↓wS_app, ↓wS_setix, ↓wS_augix, ↓wS_for, ↓wA_seq, ↓wA_rng, ↓wE_lc, ↓o_add_ii, ↓o_add_ll, ↓o_addI_ii, ↓o_subI_ii, ↓o_mul_ii, ↓o_mulI_ii, ↓o_mul_li, ↓o_mulL_li, ↓o_fdiv_ii, ↓o_mod_ii, ↓o_pow_ii, ↓o_neg_i, ↓o_cmp_ii, ↓o_eq_ii, ↓o_ne_ii, ↓o_is_nn, ↓o_is_in, ↓o_not_nn, ↓o_not_in, ↓o_ix_lst, ↓o_ix_tup, ↓o_ix_scr, ↓o_at, ↓o_at_neg, ↓o_set, ↓o_rng1, ↓o_rng2, ↓o_seq_lst, ↓o_seq_tup, ↓o_seq_scr, ↓o_enum_lst, ↓o_len_l, ↓o_len_t, ↓o_abs, ↓o_max2, ↓o_min2, ↓o_int_i, ↓o_int_b, ↓o_list_l, ↓o_list_s, ↓o_list_t, ↓o_sum_tl, ↓o_tru_b, ↓o_isi_int_i, ↓o_isi_int_non, ↓o_isi_bool_i, ↓o_isi_list_l, ↓o_gN, ↓o_gT, ↓o_gsNil, ↓o_gsCons, ↓o_cut_l, ↓o_cut_s, ↓wO_some, ↓wR_ok, ↓wR_of, ↓lpQ_nx, ↓lpQ_ct, wE_var, wE_c, wE_bin, wE_un, wA_nil, wA_cons, wE_app, wE_call, wE_tup, wE_lst, wE_if, wE_isi, wE_sl, wR_oNo, wR_oAt, ex_int, ex_bl, ex_lst, ex_par, wB_val, wB_tru, wB_not, wB_and, wB_or, wB_yes, wE_and, wE_or, wE_not, wE_chain, nxQ_nx, nxQ_rt, nxQ_ct, nxQ_bk, wS_nil, wS_seq, wS_bk, wS_ct, wS_exp, wS_asg, wS_ret, wS_if, wS_aug, wS_asgG, wS_par, wS_app, wS_setix, wS_augix, wS_for, wA_seq, wA_rng, wE_lc, o_add_ii, o_add_ll, o_addI_ii, o_subI_ii, o_mul_ii, o_mulI_ii, o_mul_li, o_mulL_li, o_fdiv_ii, o_mod_ii, o_pow_ii, o_neg_i, o_cmp_ii, o_eq_ii, o_ne_ii, o_is_nn, o_is_in, o_not_nn, o_not_in, o_ix_lst, o_ix_tup, o_ix_scr, o_at, o_at_neg, o_set, o_rng1, o_rng2, o_seq_lst, o_seq_tup, o_seq_scr, o_enum_lst, o_len_l, o_len_t, o_abs, o_max2, o_min2, o_int_i, o_int_b, o_list_l, o_list_s, o_list_t, o_sum_tl, o_tru_b, o_isi_int_i, o_isi_int_non, o_isi_bool_i, o_isi_list_l, o_gN, o_gT, o_gsNil, o_gsCons, o_cut_l, o_cut_s, wO_some, wR_ok, wR_of, lpQ_nx, lpQ_ct, tl_set, tl_len, tl_cons, tl_snoc, enum_tl, List.getElem?_cons_zero, List.getElem?_cons_succ, List.set_cons_zero, List.set_cons_succ, List.length_cons, List.length_nil, List.length_map, List.length_range, List.cons_append, List.nil_append, List.replicate, Nat.reduceAdd, Nat.reduceSub, Int.toNat_natCast, decide_eq_true_eq, Bool.not_eq_true, Bool.not_true, Bool.not_false, if_true, Bool.false_eq_true, if_false, true_and, and_true, Int.reduceNeg, Int.reduceLE, Int.reduceLT, Nat.reduceLeDiff, Nat.reduceLT, Int.zero_add, Nat.zero_add, Int.sub_zero, ite_true, ite_false, reduceIte, Bool.not_eq_eq_eq_not, ↓hq2]
    exact hqp.1
  rintro _ rfl
  refine wS_cut (fun Γ => Γ = [.scr (ns.map .int), .lst (tl 60 fun i => .int (dr i)), .int n, .bl l, il n fun j => dr (2 + j) % q, il n fun j => dr (16 + j) % 5, .non, .non, .non, .non, .non, .non, .non, .non, .non, .non, .non, .non]) ?_ ?_
  · simp (disch := omega) only [↓wE_var, ↓wE_c, ↓wE_bin, ↓wE_un, ↓wA_nil, ↓wA_cons, ↓wE_app, ↓wE_call, ↓wE_tup, ↓wE_lst, ↓wE_if, ↓wE_isi, ↓wE_sl, ↓wR_oNo, ↓wR_oAt, ↓ex_int, ↓ex_bl, ↓ex_lst, ↓ex_par, ↓wB_val, ↓wB_tru, ↓wB_not, ↓wB_and, ↓wB_or, ↓wB_yes, ↓wE_and, ↓wE_or, ↓wE_not, ↓wE_chain, ↓nxQ_nx, ↓nxQ_rt, ↓nxQ_ct, ↓nxQ_bk, ↓wS_nil, ↓wS_seq, ↓wS_bk, ↓wS_ct, ↓wS_exp, ↓wS_asg, ↓wS_ret, ↓wS_if, ↓wS_aug, ↓wS_asgG, ↓wS_par, ↓wS_app, ↓wS_setix, ↓wS_augix, ↓wS_for, ↓wA_seq, ↓wA_rng, ↓wE_lc, ↓o_add_ii, ↓o_add_ll, ↓o_addI_ii, ↓o_subI_ii, ↓o_mul_ii, ↓o_mulI_ii, ↓o_mul_li, ↓o_mulL_li, ↓o_fdiv_ii, ↓o_mod_ii, ↓o_pow_ii, ↓o_neg_i, ↓o_cmp_ii, ↓o_eq_ii, ↓o_ne_ii, ↓o_is_nn, ↓o_is_in, ↓o_not_nn, ↓o_not_in, ↓o_ix_lst, ↓o_ix_tup, ↓o_ix_scr, ↓o_at, ↓o_at_neg, ↓o_set, ↓o_rng1, ↓o_rng2, ↓o_seq_lst, ↓o_seq_tup, ↓o_seq_scr, ↓o_enum_lst, ↓o_len_l, ↓o_len_t, ↓o_abs, ↓o_max2, ↓o_min2, ↓o_int_i, ↓o_int_b, ↓o_list_l, ↓o_list_s, ↓o_list_t, ↓o_sum_tl, ↓o_tru_b, ↓o_isi_int_i, ↓o_isi_int_non, ↓o_isi_bool_i, ↓o_isi_list_l, ↓o_gN, ↓o_gT, ↓o_gsNil, ↓o_gsCons, ↓o_cut_l, ↓o_cut_s, ↓wO_some, ↓wR_ok, ↓wR_of, ↓lpQ_nx, ↓lpQ_ct, wE_var, wE_c, wE_bin, wE_un, wA_nil, wA_cons, wE_app, wE_call, wE_tup, wE_lst, wE_if, wE_isi, wE_sl, wR_oNo, wR_oAt, ex_int, ex_bl, ex_lst, ex_par, wB_val, wB_tru, wB_not, wB_and, wB_or, wB_yes, wE_and, wE_or, wE_not, wE_chain, nxQ_nx, nxQ_rt, nxQ_ct, nxQ_bk, wS_nil, wS_seq, wS_bk, wS_ct, wS_exp, wS_asg, wS_ret, wS_if, wS_aug, wS_asgG, wS_par, wS_app, wS_setix, wS_augix, wS_for, wA_seq, wA_rng, wE_lc, o_add_ii, o_add_ll, o_addI_ii, o_subI_ii, o_mul_ii, o_mulI_ii, o_mul_li, o_mulL_li, o_fdiv_ii, o_mod_ii, o_pow_ii, o_neg_i, o_cmp_ii, o_eq_ii, o_ne_ii, o_is_nn, o_is_in, o_not_nn, o_not_in, o_ix_lst, o_ix_tup, o_ix_scr, o_at, o_at_neg, o_set, o_rng1, o_rng2, o_seq_lst, o_seq_tup, o_seq_scr, o_enum_lst, o_len_l, o_len_t, o_abs, o_max2, o_min2, o_int_i, o_int_b, o_list_l, o_list_s, o_list_t, o_sum_tl, o_tru_b, o_isi_int_i, o_isi_int_non, o_isi_bool_i, o_isi_list_l, o_gN, o_gT, o_gsNil, o_gsCons, o_cut_l, o_cut_s, wO_some, wR_ok, wR_of, lpQ_nx, lpQ_ct, tl_set, tl_len, tl_cons, tl_snoc, enum_tl, List.getElem?_cons_zero, List.getElem?_cons_succ, List.set_cons_zero, List.set_cons_succ, List.length_cons, List.length_nil, List.length_map, List.length_range, List.cons_append, List.nil_append, List.replicate, Nat.reduceAdd, Nat.reduceSub, Int.toNat_natCast, decide_eq_true_eq, Bool.not_eq_true, Bool.not_true, Bool.not_false, if_true, Bool.false_eq_true, if_false, true_and, and_true, Int.reduceNeg, Int.reduceLE, Int.reduceLT, Nat.reduceLeDiff, Nat.reduceLT, Int.zero_add, Nat.zero_add, Int.sub_zero, ite_true, ite_false, reduceIte, Bool.not_eq_eq_eq_not]
    refine ⟨by omega, by omega, lc_tl (fun j => .int (dr (16 + j) % 5)) ?_ ⟨_, rfl, rfl⟩⟩
    intro j hj
    simp (disch := omega) only [↓wE_var, ↓wE_c, ↓wE_bin, ↓wE_un, ↓wA_nil, ↓wA_cons, ↓wE_app, ↓wE_call, ↓wE_tup, ↓wE_lst, ↓wE_if, ↓wE_isi, ↓wE_sl, ↓wR_oNo, ↓wR_oAt, ↓ex_int, ↓ex_bl, ↓ex_lst, ↓ex_par, ↓wB_val, ↓wB_tru, ↓wB_not, ↓wB_and, ↓wB_or, ↓wB_yes, ↓wE_and, ↓wE_or, ↓wE_not, ↓wE_chain, ↓nxQ_nx, ↓nxQ_rt, ↓nxQ_ct, ↓nxQ_bk, ↓wS_nil, ↓wS_seq, ↓wS_bk, ↓wS_ct, ↓wS_exp, ↓wS_asg, ↓wS_ret, ↓wS_if, ↓wS_aug, ↓wS_asgG, ↓wS_par, ↓wS_app, ↓wS_setix, ↓wS_augix, ↓wS_for, ↓wA_seq, ↓wA_rng, ↓wE_lc, ↓o_add_ii, ↓o_add_ll, ↓o_addI_ii, ↓o_subI_ii, ↓o_mul_ii, ↓o_mulI_ii, ↓o_mul_li, ↓o_mulL_li, ↓o_fdiv_ii, ↓o_mod_ii, ↓o_pow_ii, ↓o_neg_i, ↓o_cmp_ii, ↓o_eq_ii, ↓o_ne_ii, ↓o_is_nn, ↓o_is_in, ↓o_not_nn, ↓o_not_in, ↓o_ix_lst, ↓o_ix_tup, ↓o_ix_scr, ↓o_at, ↓o_at_neg, ↓o_set, ↓o_rng1, ↓o_rng2, ↓o_seq_lst, ↓o_seq_tup, ↓o_seq_scr, ↓o_enum_lst, ↓o_len_l, ↓o_len_t, ↓o_abs, ↓o_max2, ↓o_min2, ↓o_int_i, ↓o_int_b, ↓o_list_l, ↓o_list_s, ↓o_list_t, ↓o_sum_tl, ↓o_tru_b, ↓o_isi_int_i, ↓o_isi_int_non, ↓o_isi_bool_i, ↓o_isi_list_l, ↓o_gN, ↓o_gT, ↓o_gsNil, ↓o_gsCons, ↓o_cut_l, ↓o_cut_s, ↓wO_some, ↓wR_ok, ↓wR_of, ↓lpQ_nx, ↓lpQ_ct, wE_var, wE_c, wE_bin, wE_un, wA_nil, wA_cons, wE_app, wE_call, wE_tup, wE_lst, wE_if, wE_isi, wE_sl, wR_oNo, wR_oAt, ex_int, ex_bl, ex_lst, ex_par, wB_val, wB_tru, wB_not, wB_and, wB_or, wB_yes, wE_and, wE_or, wE_not, wE_chain, nxQ_nx, nxQ_rt, nxQ_ct, nxQ_bk, wS_nil, wS_seq, wS_bk, wS_ct, wS_exp, wS_asg, wS_ret, wS_if, wS_aug, wS_asgG, wS_par, wS_app, wS_setix, wS_augix, wS_for, wA_seq, wA_rng, wE_lc, o_add_ii, o_add_ll, o_addI_ii, o_subI_ii, o_mul_ii, o_mulI_ii, o_mul_li, o_mulL_li, o_fdiv_ii, o_mod_ii, o_pow_ii, o_neg_i, o_cmp_ii, o_eq_ii, o_ne_ii, o_is_nn, o_is_in, o_not_nn, o_not_in, o_ix_lst, o_ix_tup, o_ix_scr, o_at, o_at_neg, o_set, o_rng1, o_rng2, o_seq_lst, o_seq_tup, o_seq_scr, o_enum_lst, o_len_l, o_len_t, o_abs, o_max2, o_min2, o_int_i, o_int_b, o_list_l, o_list_s, o_list_t, o_sum_tl, o_tru_b, o_isi_int_i, o_isi_int_non, o_isi_bool_i, o_isi_list_l, o_gN, o_gT, o_gsNil, o_gsCons, o_cut_l, o_cut_s, wO_some, wR_ok, wR_of, lpQ_nx, lpQ_ct, tl_set, tl_len, tl_cons, tl_snoc, enum_tl, List.getElem?_cons_zero, List.getElem?_cons_succ, List.set_cons_zero, List.set_cons_succ, List.length_cons, List.length_nil, List.length_map, List.length_range, List.cons_append, List.nil_append, List.replicate, Nat.reduceAdd, Nat.reduceSub, Int.toNat_natCast, decide_eq_true_eq, Bool.not_eq_true, Bool.not_true, Bool.not_false, if_true, Bool.false_eq_true, if_false, true_and, and_true, Int.reduceNeg, Int.reduceLE, Int.reduceLT, Nat.reduceLeDiff, Nat.reduceLT, Int.zero_add, Nat.zero_add, Int.sub_zero, ite_true, ite_false, reduceIte, Bool.not_eq_eq_eq_not]
  rintro _ rfl
  have hf0 : Cts fun j => dr (2 + j) % q := ⟨fun i => Int.emod_nonneg _ (by omega), fun i => by have := Int.emod_lt_of_pos (dr (2 + i)) hqp.1; omega⟩
  have hg0 : Cts fun j => dr (16 + j) % 5 := ⟨fun i => Int.emod_nonneg _ (by omega), fun i => by have := Int.emod_lt_of_pos (dr (16 + i)) (show (0 : Int) < 5 by decide); omega⟩
  generalize (fun j => dr (2 + j) % q) = f0 at *
  generalize (fun j => dr (16 + j) % 5) = g at *
  refine wS_cut (fun Γ => Γ = [.scr (ns.map .int), .lst (tl 60 fun i => .int (dr i)), .int n, .bl l, il n f0, il n g, .non, .non, .non, .non, .non, .non, .non, .non, .non, .non, .non, .non]) ?_ ?_
  · refine wS_no ?_ (wS_nil.2 ⟨_, rfl, rfl⟩)
    simp (disch := omega) only [↓wE_var, ↓wE_c, ↓wE_bin, ↓wE_un, ↓wA_nil, ↓wA_cons, ↓wE_app, ↓wE_call, ↓wE_tup, ↓wE_lst, ↓wE_if, ↓wE_isi, ↓wE_sl, ↓wR_oNo, ↓wR_oAt, ↓ex_int, ↓ex_bl, ↓ex_lst, ↓ex_par, ↓wB_val, ↓wB_tru, ↓wB_not, ↓wB_and, ↓wB_or, ↓wB_yes, ↓wE_and, ↓wE_or, ↓wE_not, ↓wE_chain, ↓nxQ_nx, ↓nxQ_rt, ↓nxQ_ct, ↓nxQ_bk, ↓wS_nil, ↓wS_seq, ↓wS_bk, ↓wS_ct, ↓wS_exp, ↓wS_asg, ↓wS_ret, ↓wS_if, ↓wS_aug, ↓wS_asgG, ↓wS_par, ↓wS_app, ↓wS_setix, ↓wS_augix, ↓wS_for, ↓wA_seq, ↓wA_rng, ↓wE_lc, ↓o_add_ii, ↓o_add_ll, ↓o_addI_ii, ↓o_subI_ii, ↓o_mul_ii, ↓o_mulI_ii, ↓o_mul_li, ↓o_mulL_li, ↓o_fdiv_ii, ↓o_mod_ii, ↓o_pow_ii, ↓o_neg_i, ↓o_cmp_ii, ↓o_eq_ii, ↓o_ne_ii, ↓o_is_nn, ↓o_is_in, ↓o_not_nn, ↓o_not_in, ↓o_ix_lst, ↓o_ix_tup, ↓o_ix_scr, ↓o_at, ↓o_at_neg, ↓o_set, ↓o_rng1, ↓o_rng2, ↓o_seq_lst, ↓o_seq_tup, ↓o_seq_scr, ↓o_enum_lst, ↓o_len_l, ↓o_len_t, ↓o_abs, ↓o_max2, ↓o_min2, ↓o_int_i, ↓o_int_b, ↓o_list_l, ↓o_list_s, ↓o_list_t, ↓o_sum_tl, ↓o_tru_b, ↓o_isi_int_i, ↓o_isi_int_non, ↓o_isi_bool_i, ↓o_isi_list_l, ↓o_gN, ↓o_gT, ↓o_gsNil, ↓o_gsCons, ↓o_cut_l, ↓o_cut_s, ↓wO_some, ↓wR_ok, ↓wR_of, ↓lpQ_nx, ↓lpQ_ct, wE_var, wE_c, wE_bin, wE_un, wA_nil, wA_cons, wE_app, wE_call, wE_tup, wE_lst, wE_if, wE_isi, wE_sl, wR_oNo, wR_oAt, ex_int, ex_bl, ex_lst, ex_par, wB_val, wB_tru, wB_not, wB_and, wB_or, wB_yes, wE_and, wE_or, wE_not, wE_chain, nxQ_nx, nxQ_rt, nxQ_ct, nxQ_bk, wS_nil, wS_seq, wS_bk, wS_ct, wS_exp, wS_asg, wS_ret, wS_if, wS_aug, wS_asgG, wS_par, wS_app, wS_setix, wS_augix, wS_for, wA_seq, wA_rng, wE_lc, o_add_ii, o_add_ll, o_addI_ii, o_subI_ii, o_mul_ii, o_mulI_ii, o_mul_li, o_mulL_li, o_fdiv_ii, o_mod_ii, o_pow_ii, o_neg_i, o_cmp_ii, o_eq_ii, o_ne_ii, o_is_nn, o_is_in, o_not_nn, o_not_in, o_ix_lst, o_ix_tup, o_ix_scr, o_at, o_at_neg, o_set, o_rng1, o_rng2, o_seq_lst, o_seq_tup, o_seq_scr, o_enum_lst, o_len_l, o_len_t, o_abs, o_max2, o_min2, o_int_i, o_int_b, o_list_l, o_list_s, o_list_t, o_sum_tl, o_tru_b, o_isi_int_i, o_isi_int_non, o_isi_bool_i, o_isi_list_l, o_gN, o_gT, o_gsNil, o_gsCons, o_cut_l, o_cut_s, wO_some, wR_ok, wR_of, lpQ_nx, lpQ_ct, tl_set, tl_len, tl_cons, tl_snoc, enum_tl, List.getElem?_cons_zero, List.getElem?_cons_succ, List.set_cons_zero, List.set_cons_succ, List.length_cons, List.length_nil, List.length_map, List.length_range, List.cons_append, List.nil_append, List.replicate, Nat.reduceAdd, Nat.reduceSub, Int.toNat_natCast, decide_eq_true_eq, Bool.not_eq_true, Bool.not_true, Bool.not_false, if_true, Bool.false_eq_true, if_false, true_and, and_true, Int.reduceNeg, Int.reduceLE, Int.reduceLT, Nat.reduceLeDiff, Nat.reduceLT, Int.zero_add, Nat.zero_add, Int.sub_zero, ite_true, ite_false, reduceIte, Bool.not_eq_eq_eq_not, pairs_ok n l f0 g hn1.1 hn1.2 hf0 hg0]
    refine ⟨by omega, by omega, lc_tl (fun x => .int (cv l f0 g x)) ?_ ?_⟩
    · intro x hx
      simp (disch := omega) only [↓wE_var, ↓wE_c, ↓wE_bin, ↓wE_un, ↓wA_nil, ↓wA_cons, ↓wE_app, ↓wE_call, ↓wE_tup, ↓wE_lst, ↓wE_if, ↓wE_isi, ↓wE_sl, ↓wR_oNo, ↓wR_oAt, ↓ex_int, ↓ex_bl, ↓ex_lst, ↓ex_par, ↓wB_val, ↓wB_tru, ↓wB_not, ↓wB_and, ↓wB_or, ↓wB_yes, ↓wE_and, ↓wE_or, ↓wE_not, ↓wE_chain, ↓nxQ_nx, ↓nxQ_rt, ↓nxQ_ct, ↓nxQ_bk, ↓wS_nil, ↓wS_seq, ↓wS_bk, ↓wS_ct, ↓wS_exp, ↓wS_asg, ↓wS_ret, ↓wS_if, ↓wS_aug, ↓wS_asgG, ↓wS_par, ↓wS_app, ↓wS_setix, ↓wS_augix, ↓wS_for, ↓wA_seq, ↓wA_rng, ↓wE_lc, ↓o_add_ii, ↓o_add_ll, ↓o_addI_ii, ↓o_subI_ii, ↓o_mul_ii, ↓o_mulI_ii, ↓o_mul_li, ↓o_mulL_li, ↓o_fdiv_ii, ↓o_mod_ii, ↓o_pow_ii, ↓o_neg_i, ↓o_cmp_ii, ↓o_eq_ii, ↓o_ne_ii, ↓o_is_nn, ↓o_is_in, ↓o_not_nn, ↓o_not_in, ↓o_ix_lst, ↓o_ix_tup, ↓o_ix_scr, ↓o_at, ↓o_at_neg, ↓o_set, ↓o_rng1, ↓o_rng2, ↓o_seq_lst, ↓o_seq_tup, ↓o_seq_scr, ↓o_enum_lst, ↓o_len_l, ↓o_len_t, ↓o_abs, ↓o_max2, ↓o_min2, ↓o_int_i, ↓o_int_b, ↓o_list_l, ↓o_list_s, ↓o_list_t, ↓o_sum_tl, ↓o_tru_b, ↓o_isi_int_i, ↓o_isi_int_non, ↓o_isi_bool_i, ↓o_isi_list_l, ↓o_gN, ↓o_gT, ↓o_gsNil, ↓o_gsCons, ↓o_cut_l, ↓o_cut_s, ↓wO_some, ↓wR_ok, ↓wR_of, ↓lpQ_nx, ↓lpQ_ct, wE_var, wE_c, wE_bin, wE_un, wA_nil, wA_cons, wE_app, wE_call, wE_tup, wE_lst, wE_if, wE_isi, wE_sl, wR_oNo, wR_oAt, ex_int, ex_bl, ex_lst, ex_par, wB_val, wB_tru, wB_not, wB_and, wB_or, wB_yes, wE_and, wE_or, wE_not, wE_chain, nxQ_nx, nxQ_rt, nxQ_ct, nxQ_bk, wS_nil, wS_seq, wS_bk, wS_ct, wS_exp, wS_asg, wS_ret, wS_if, wS_aug, wS_asgG, wS_par, wS_app, wS_setix, wS_augix, wS_for, wA_seq, wA_rng, wE_lc, o_add_ii, o_add_ll, o_addI_ii, o_subI_ii, o_mul_ii, o_mulI_ii, o_mul_li, o_mulL_li, o_fdiv_ii, o_mod_ii, o_pow_ii, o_neg_i, o_cmp_ii, o_eq_ii, o_ne_ii, o_is_nn, o_is_in, o_not_nn, o_not_in, o_ix_lst, o_ix_tup, o_ix_scr, o_at, o_at_neg, o_set, o_rng1, o_rng2, o_seq_lst, o_seq_tup, o_seq_scr, o_enum_lst, o_len_l, o_len_t, o_abs, o_max2, o_min2, o_int_i, o_int_b, o_list_l, o_list_s, o_list_t, o_sum_tl, o_tru_b, o_isi_int_i, o_isi_int_non, o_isi_bool_i, o_isi_list_l, o_gN, o_gT, o_gsNil, o_gsCons, o_cut_l, o_cut_s, wO_some, wR_ok, wR_of, lpQ_nx, lpQ_ct, tl_set, tl_len, tl_cons, tl_snoc, enum_tl, List.getElem?_cons_zero, List.getElem?_cons_succ, List.set_cons_zero, List.set_cons_succ, List.length_cons, List.length_nil, List.length_map, List.length_range, List.cons_append, List.nil_append, List.replicate, Nat.reduceAdd, Nat.reduceSub, Int.toNat_natCast, decide_eq_true_eq, Bool.not_eq_true, Bool.not_true, Bool.not_false, if_true, Bool.false_eq_true, if_false, true_and, and_true, Int.reduceNeg, Int.reduceLE, Int.reduceLT, Nat.reduceLeDiff, Nat.reduceLT, Int.zero_add, Nat.zero_add, Int.sub_zero, ite_true, ite_false, reduceIte, Bool.not_eq_eq_eq_not]
      refine ⟨by omega, by omega, lc_tl (fun k => .int (f0 k * g (x - k) * wt l x k)) ?_ ?_⟩
      · intro k hk
        have hb := wt_small (l := true) (n := x) (k := k) (by omega)
        have hb : mOk (f0 k * g (x - k)) (chI x k) := .inr (by simpa [wt] using hb)
        cases l with
        | true =>
          simp (disch := omega) only [↓wE_var, ↓wE_c, ↓wE_bin, ↓wE_un, ↓wA_nil, ↓wA_cons, ↓wE_app, ↓wE_call, ↓wE_tup, ↓wE_lst, ↓wE_if, ↓wE_isi, ↓wE_sl, ↓wR_oNo, ↓wR_oAt, ↓ex_int, ↓ex_bl, ↓ex_lst, ↓ex_par, ↓wB_val, ↓wB_tru, ↓wB_not, ↓wB_and, ↓wB_or, ↓wB_yes, ↓wE_and, ↓wE_or, ↓wE_not, ↓wE_chain, ↓nxQ_nx, ↓nxQ_rt, ↓nxQ_ct, ↓nxQ_bk, ↓wS_nil, ↓wS_seq, ↓wS_bk, ↓wS_ct, ↓wS_exp, ↓wS_asg, ↓wS_ret, ↓wS_if, ↓wS_aug, ↓wS_asgG, ↓wS_par, ↓wS_app, ↓wS_setix, ↓wS_augix, ↓wS_for, ↓wA_seq, ↓wA_rng, ↓wE_lc, ↓o_add_ii, ↓o_add_ll, ↓o_addI_ii, ↓o_subI_ii, ↓o_mul_ii, ↓o_mulI_ii, ↓o_mul_li, ↓o_mulL_li, ↓o_fdiv_ii, ↓o_mod_ii, ↓o_pow_ii, ↓o_neg_i, ↓o_cmp_ii, ↓o_eq_ii, ↓o_ne_ii, ↓o_is_nn, ↓o_is_in, ↓o_not_nn, ↓o_not_in, ↓o_ix_lst, ↓o_ix_tup, ↓o_ix_scr, ↓o_at, ↓o_at_neg, ↓o_set, ↓o_rng1, ↓o_rng2, ↓o_seq_lst, ↓o_seq_tup, ↓o_seq_scr, ↓o_enum_lst, ↓o_len_l, ↓o_len_t, ↓o_abs, ↓o_max2, ↓o_min2, ↓o_int_i, ↓o_int_b, ↓o_list_l, ↓o_list_s, ↓o_list_t, ↓o_sum_tl, ↓o_tru_b, ↓o_isi_int_i, ↓o_isi_int_non, ↓o_isi_bool_i, ↓o_isi_list_l, ↓o_gN, ↓o_gT, ↓o_gsNil, ↓o_gsCons, ↓o_cut_l, ↓o_cut_s, ↓wO_some, ↓wR_ok, ↓wR_of, ↓lpQ_nx, ↓lpQ_ct, wE_var, wE_c, wE_bin, wE_un, wA_nil, wA_cons, wE_app, wE_call, wE_tup, wE_lst, wE_if, wE_isi, wE_sl, wR_oNo, wR_oAt, ex_int, ex_bl, ex_lst, ex_par, wB_val, wB_tru, wB_not, wB_and, wB_or, wB_yes, wE_and, wE_or, wE_not, wE_chain, nxQ_nx, nxQ_rt, nxQ_ct, nxQ_bk, wS_nil, wS_seq, wS_bk, wS_ct, wS_exp, wS_asg, wS_ret, wS_if, wS_aug, wS_asgG, wS_par, wS_app, wS_setix, wS_augix, wS_for, wA_seq, wA_rng, wE_lc, o_add_ii, o_add_ll, o_addI_ii, o_subI_ii, o_mul_ii, o_mulI_ii, o_mul_li, o_mulL_li, o_fdiv_ii, o_mod_ii, o_pow_ii, o_neg_i, o_cmp_ii, o_eq_ii, o_ne_ii, o_is_nn, o_is_in, o_not_nn, o_not_in, o_ix_lst, o_ix_tup, o_ix_scr, o_at, o_at_neg, o_set, o_rng1, o_rng2, o_seq_lst, o_seq_tup, o_seq_scr, o_enum_lst, o_len_l, o_len_t, o_abs, o_max2, o_min2, o_int_i, o_int_b, o_list_l, o_list_s, o_list_t, o_sum_tl, o_tru_b, o_isi_int_i, o_isi_int_non, o_isi_bool_i, o_isi_list_l, o_gN, o_gT, o_gsNil, o_gsCons, o_cut_l, o_cut_s, wO_some, wR_ok, wR_of, lpQ_nx, lpQ_ct, tl_set, tl_len, tl_cons, tl_snoc, enum_tl, List.getElem?_cons_zero, List.getElem?_cons_succ, List.set_cons_zero, List.set_cons_succ, List.length_cons, List.length_nil, List.length_map, List.length_range, List.cons_append, List.nil_append, List.replicate, Nat.reduceAdd, Nat.reduceSub, Int.toNat_natCast, decide_eq_true_eq, Bool.not_eq_true, Bool.not_true, Bool.not_false, if_true, Bool.false_eq_true, if_false, true_and, and_true, Int.reduceNeg, Int.reduceLE, Int.reduceLT, Nat.reduceLeDiff, Nat.reduceLT, Int.zero_add, Nat.zero_add, Int.sub_zero, ite_true, ite_false, reduceIte, Bool.not_eq_eq_eq_not, binom_ok x k (by omega) (by omega) (by omega)]
          exact ⟨.inl (hf0.small _), hb, by simp [wt]⟩
        | false =>
          simp (disch := omega) only [↓wE_var, ↓wE_c, ↓wE_bin, ↓wE_un, ↓wA_nil, ↓wA_cons, ↓wE_app, ↓wE_call, ↓wE_tup, ↓wE_lst, ↓wE_if, ↓wE_isi, ↓wE_sl, ↓wR_oNo, ↓wR_oAt, ↓ex_int, ↓ex_bl, ↓ex_lst, ↓ex_par, ↓wB_val, ↓wB_tru, ↓wB_not, ↓wB_and, ↓wB_or, ↓wB_yes, ↓wE_and, ↓wE_or, ↓wE_not, ↓wE_chain, ↓nxQ_nx, ↓nxQ_rt, ↓nxQ_ct, ↓nxQ_bk, ↓wS_nil, ↓wS_seq, ↓wS_bk, ↓wS_ct, ↓wS_exp, ↓wS_asg, ↓wS_ret, ↓wS_if, ↓wS_aug, ↓wS_asgG, ↓wS_par, ↓wS_app, ↓wS_setix, ↓wS_augix, ↓wS_for, ↓wA_seq, ↓wA_rng, ↓wE_lc, ↓o_add_ii, ↓o_add_ll, ↓o_addI_ii, ↓o_subI_ii, ↓o_mul_ii, ↓o_mulI_ii, ↓o_mul_li, ↓o_mulL_li, ↓o_fdiv_ii, ↓o_mod_ii, ↓o_pow_ii, ↓o_neg_i, ↓o_cmp_ii, ↓o_eq_ii, ↓o_ne_ii, ↓o_is_nn, ↓o_is_in, ↓o_not_nn, ↓o_not_in, ↓o_ix_lst, ↓o_ix_tup, ↓o_ix_scr, ↓o_at, ↓o_at_neg, ↓o_set, ↓o_rng1, ↓o_rng2, ↓o_seq_lst, ↓o_seq_tup, ↓o_seq_scr, ↓o_enum_lst, ↓o_len_l, ↓o_len_t, ↓o_abs, ↓o_max2, ↓o_min2, ↓o_int_i, ↓o_int_b, ↓o_list_l, ↓o_list_s, ↓o_list_t, ↓o_sum_tl, ↓o_tru_b, ↓o_isi_int_i, ↓o_isi_int_non, ↓o_isi_bool_i, ↓o_isi_list_l, ↓o_gN, ↓o_gT, ↓o_gsNil, ↓o_gsCons, ↓o_cut_l, ↓o_cut_s, ↓wO_some, ↓wR_ok, ↓wR_of, ↓lpQ_nx, ↓lpQ_ct, wE_var, wE_c, wE_bin, wE_un, wA_nil, wA_cons, wE_app, wE_call, wE_tup, wE_lst, wE_if, wE_isi, wE_sl, wR_oNo, wR_oAt, ex_int, ex_bl, ex_lst, ex_par, wB_val, wB_tru, wB_not, wB_and, wB_or, wB_yes, wE_and, wE_or, wE_not, wE_chain, nxQ_nx, nxQ_rt, nxQ_ct, nxQ_bk, wS_nil, wS_seq, wS_bk, wS_ct, wS_exp, wS_asg, wS_ret, wS_if, wS_aug, wS_asgG, wS_par, wS_app, wS_setix, wS_augix, wS_for, wA_seq, wA_rng, wE_lc, o_add_ii, o_add_ll, o_addI_ii, o_subI_ii, o_mul_ii, o_mulI_ii, o_mul_li, o_mulL_li, o_fdiv_ii, o_mod_ii, o_pow_ii, o_neg_i, o_cmp_ii, o_eq_ii, o_ne_ii, o_is_nn, o_is_in, o_not_nn, o_not_in, o_ix_lst, o_ix_tup, o_ix_scr, o_at, o_at_neg, o_set, o_rng1, o_rng2, o_seq_lst, o_seq_tup, o_seq_scr, o_enum_lst, o_len_l, o_len_t, o_abs, o_max2, o_min2, o_int_i, o_int_b, o_list_l, o_list_s, o_list_t, o_sum_tl, o_tru_b, o_isi_int_i, o_isi_int_non, o_isi_bool_i, o_isi_list_l, o_gN, o_gT, o_gsNil, o_gsCons, o_cut_l, o_cut_s, wO_some, wR_ok, wR_of, lpQ_nx, lpQ_ct, tl_set, tl_len, tl_cons, tl_snoc, enum_tl, List.getElem?_cons_zero, List.getElem?_cons_succ, List.set_cons_zero, List.set_cons_succ, List.length_cons, List.length_nil, List.length_map, List.length_range, List.cons_append, List.nil_append, List.replicate, Nat.reduceAdd, Nat.reduceSub, Int.toNat_natCast, decide_eq_true_eq, Bool.not_eq_true, Bool.not_true, Bool.not_false, if_true, Bool.false_eq_true, if_false, true_and, and_true, Int.reduceNeg, Int.reduceLE, Int.reduceLT, Nat.reduceLeDiff, Nat.reduceLT, Int.zero_add, Nat.zero_add, Int.sub_zero, ite_true, ite_false, reduceIte, Bool.not_eq_eq_eq_not]
          exact ⟨.inl (hf0.small _), .inr (by decide), by simp [wt]⟩
      · simp (disch := omega) only [↓wE_var, ↓wE_c, ↓wE_bin, ↓wE_un, ↓wA_nil, ↓wA_cons, ↓wE_app, ↓wE_call, ↓wE_tup, ↓wE_lst, ↓wE_if, ↓wE_isi, ↓wE_sl, ↓wR_oNo, ↓wR_oAt, ↓ex_int, ↓ex_bl, ↓ex_lst, ↓ex_par, ↓wB_val, ↓wB_tru, ↓wB_not, ↓wB_and, ↓wB_or, ↓wB_yes, ↓wE_and, ↓wE_or, ↓wE_not, ↓wE_chain, ↓nxQ_nx, ↓nxQ_rt, ↓nxQ_ct, ↓nxQ_bk, ↓wS_nil, ↓wS_seq, ↓wS_bk, ↓wS_ct, ↓wS_exp, ↓wS_asg, ↓wS_ret, ↓wS_if, ↓wS_aug, ↓wS_asgG, ↓wS_par, ↓wS_app, ↓wS_setix, ↓wS_augix, ↓wS_for, ↓wA_seq, ↓wA_rng, ↓wE_lc, ↓o_add_ii, ↓o_add_ll, ↓o_addI_ii, ↓o_subI_ii, ↓o_mul_ii, ↓o_mulI_ii, ↓o_mul_li, ↓o_mulL_li, ↓o_fdiv_ii, ↓o_mod_ii, ↓o_pow_ii, ↓o_neg_i, ↓o_cmp_ii, ↓o_eq_ii, ↓o_ne_ii, ↓o_is_nn, ↓o_is_in, ↓o_not_nn, ↓o_not_in, ↓o_ix_lst, ↓o_ix_tup, ↓o_ix_scr, ↓o_at, ↓o_at_neg, ↓o_set, ↓o_rng1, ↓o_rng2, ↓o_seq_lst, ↓o_seq_tup, ↓o_seq_scr, ↓o_enum_lst, ↓o_len_l, ↓o_len_t, ↓o_abs, ↓o_max2, ↓o_min2, ↓o_int_i, ↓o_int_b, ↓o_list_l, ↓o_list_s, ↓o_list_t, ↓o_sum_tl, ↓o_tru_b, ↓o_isi_int_i, ↓o_isi_int_non, ↓o_isi_bool_i, ↓o_isi_list_l, ↓o_gN, ↓o_gT, ↓o_gsNil, ↓o_gsCons, ↓o_cut_l, ↓o_cut_s, ↓wO_some, ↓wR_ok, ↓wR_of, ↓lpQ_nx, ↓lpQ_ct, wE_var, wE_c, wE_bin, wE_un, wA_nil, wA_cons, wE_app, wE_call, wE_tup, wE_lst, wE_if, wE_isi, wE_sl, wR_oNo, wR_oAt, ex_int, ex_bl, ex_lst, ex_par, wB_val, wB_tru, wB_not, wB_and, wB_or, wB_yes, wE_and, wE_or, wE_not, wE_chain, nxQ_nx, nxQ_rt, nxQ_ct, nxQ_bk, wS_nil, wS_seq, wS_bk, wS_ct, wS_exp, wS_asg, wS_ret, wS_if, wS_aug, wS_asgG, wS_par, wS_app, wS_setix, wS_augix, wS_for, wA_seq, wA_rng, wE_lc, o_add_ii, o_add_ll, o_addI_ii, o_subI_ii, o_mul_ii, o_mulI_ii, o_mul_li, o_mulL_li, o_fdiv_ii, o_mod_ii, o_pow_ii, o_neg_i, o_cmp_ii, o_eq_ii, o_ne_ii, o_is_nn, o_is_in, o_not_nn, o_not_in, o_ix_lst, o_ix_tup, o_ix_scr, o_at, o_at_neg, o_set, o_rng1, o_rng2, o_seq_lst, o_seq_tup, o_seq_scr, o_enum_lst, o_len_l, o_len_t, o_abs, o_max2, o_min2, o_int_i, o_int_b, o_list_l, o_list_s, o_list_t, o_sum_tl, o_tru_b, o_isi_int_i, o_isi_int_non, o_isi_bool_i, o_isi_list_l, o_gN, o_gT, o_gsNil, o_gsCons, o_cut_l, o_cut_s, wO_some, wR_ok, wR_of, lpQ_nx, lpQ_ct, tl_set, tl_len, tl_cons, tl_snoc, enum_tl, List.getElem?_cons_zero, List.getElem?_cons_succ, List.set_cons_zero, List.set_cons_succ, List.length_cons, List.length_nil, List.length_map, List.length_range, List.cons_append, List.nil_append, List.replicate, Nat.reduceAdd, Nat.reduceSub, Int.toNat_natCast, decide_eq_true_eq, Bool.not_eq_true, Bool.not_true, Bool.not_false, if_true, Bool.false_eq_true, if_false, true_and, and_true, Int.reduceNeg, Int.reduceLE, Int.reduceLT, Nat.reduceLeDiff, Nat.reduceLT, Int.zero_add, Nat.zero_add, Int.sub_zero, ite_true, ite_false, reduceIte, Bool.not_eq_eq_eq_not]
        rfl
    · rw [o_ne_same (eqk_ints.ok (by omega))]
      exact ⟨_, rfl, rfl⟩
  rintro _ rfl
  -- perhaps no empty members
  refine wS_cut (fun Γ => ∃ f j14 j15 j16 j17, Cts f ∧ Γ = [.scr (ns.map .int), .lst (tl 60 fun i => .int (dr i)), .int n, .bl l, il n f, il n g, .non, .non, .non, .non, .non, .non, .non, .non, j14, j15, j16, j17]) ?_ ?_
  · rw [wS_if]
    simp (disch := omega) only [↓wE_var, ↓wE_c, ↓wE_bin, ↓wE_un, ↓wA_nil, ↓wA_cons, ↓wE_app, ↓wE_call, ↓wE_tup, ↓wE_lst, ↓wE_if, ↓wE_isi, ↓wE_sl, ↓wR_oNo, ↓wR_oAt, ↓ex_int, ↓ex_bl, ↓ex_lst, ↓ex_par, ↓wB_val, ↓wB_tru, ↓wB_not, ↓wB_and, ↓wB_or, ↓wB_yes, ↓wE_and, ↓wE_or, ↓wE_not, ↓wE_chain, ↓nxQ_nx, ↓nxQ_rt, ↓nxQ_ct, ↓nxQ_bk, ↓wS_nil, ↓wS_seq, ↓wS_bk, ↓wS_ct, ↓wS_exp, ↓wS_asg, ↓wS_ret, ↓wS_if, ↓wS_aug, ↓wS_asgG, ↓wS_par, ↓wS_app, ↓wS_setix, ↓wS_augix, ↓wS_for, ↓wA_seq, ↓wA_rng, ↓wE_lc, ↓o_add_ii, ↓o_add_ll, ↓o_addI_ii, ↓o_subI_ii, ↓o_mul_ii, ↓o_mulI_ii, ↓o_mul_li, ↓o_mulL_li, ↓o_fdiv_ii, ↓o_mod_ii, ↓o_pow_ii, ↓o_neg_i, ↓o_cmp_ii, ↓o_eq_ii, ↓o_ne_ii, ↓o_is_nn, ↓o_is_in, ↓o_not_nn, ↓o_not_in, ↓o_ix_lst, ↓o_ix_tup, ↓o_ix_scr, ↓o_at, ↓o_at_neg, ↓o_set, ↓o_rng1, ↓o_rng2, ↓o_seq_lst, ↓o_seq_tup, ↓o_seq_scr, ↓o_enum_lst, ↓o_len_l, ↓o_len_t, ↓o_abs, ↓o_max2, ↓o_min2, ↓o_int_i, ↓o_int_b, ↓o_list_l, ↓o_list_s, ↓o_list_t, ↓o_sum_tl, ↓o_tru_b, ↓o_isi_int_i, ↓o_isi_int_non, ↓o_isi_bool_i, ↓o_isi_list_l, ↓o_gN, ↓o_gT, ↓o_gsNil, ↓o_gsCons, ↓o_cut_l, ↓o_cut_s, ↓wO_some, ↓wR_ok, ↓wR_of, ↓lpQ_nx, ↓lpQ_ct, wE_var, wE_c, wE_bin, wE_un, wA_nil, wA_cons, wE_app, wE_call, wE_tup, wE_lst, wE_if, wE_isi, wE_sl, wR_oNo, wR_oAt, ex_int, ex_bl, ex_lst, ex_par, wB_val, wB_tru, wB_not, wB_and, wB_or, wB_yes, wE_and, wE_or, wE_not, wE_chain, nxQ_nx, nxQ_rt, nxQ_ct, nxQ_bk, wS_nil, wS_seq, wS_bk, wS_ct, wS_exp, wS_asg, wS_ret, wS_if, wS_aug, wS_asgG, wS_par, wS_app, wS_setix, wS_augix, wS_for, wA_seq, wA_rng, wE_lc, o_add_ii, o_add_ll, o_addI_ii, o_subI_ii, o_mul_ii, o_mulI_ii, o_mul_li, o_mulL_li, o_fdiv_ii, o_mod_ii, o_pow_ii, o_neg_i, o_cmp_ii, o_eq_ii, o_ne_ii, o_is_nn, o_is_in, o_not_nn, o_not_in, o_ix_lst, o_ix_tup, o_ix_scr, o_at, o_at_neg, o_set, o_rng1, o_rng2, o_seq_lst, o_seq_tup, o_seq_scr, o_enum_lst, o_len_l, o_len_t, o_abs, o_max2, o_min2, o_int_i, o_int_b, o_list_l, o_list_s, o_list_t, o_sum_tl, o_tru_b, o_isi_int_i, o_isi_int_non, o_isi_bool_i, o_isi_list_l, o_gN, o_gT, o_gsNil, o_gsCons, o_cut_l, o_cut_s, wO_some, wR_ok, wR_of, lpQ_nx, lpQ_ct, tl_set, tl_len, tl_cons, tl_snoc, enum_tl, List.getElem?_cons_zero, List.getElem?_cons_succ, List.set_cons_zero, List.set_cons_succ, List.length_cons, List.length_nil, List.length_map, List.length_range, List.cons_append, List.nil_append, List.replicate, Nat.reduceAdd, Nat.reduceSub, Int.toNat_natCast, decide_eq_true_eq, Bool.not_eq_true, Bool.not_true, Bool.not_false, if_true, Bool.false_eq_true, if_false, true_and, and_true, Int.reduceNeg, Int.reduceLE, Int.reduceLT, Nat.reduceLeDiff, Nat.reduceLT, Int.zero_add, Nat.zero_add, Int.sub_zero, ite_true, ite_false, reduceIte, Bool.not_eq_eq_eq_not]
    split
    · rw [cut_one hn1.1]
      simp (disch := omega) only [↓wE_var, ↓wE_c, ↓wE_bin, ↓wE_un, ↓wA_nil, ↓wA_cons, ↓wE_app, ↓wE_call, ↓wE_tup, ↓wE_lst, ↓wE_if, ↓wE_isi, ↓wE_sl, ↓wR_oNo, ↓wR_oAt, ↓ex_int, ↓ex_bl, ↓ex_lst, ↓ex_par, ↓wB_val, ↓wB_tru, ↓wB_not, ↓wB_and, ↓wB_or, ↓wB_yes, ↓wE_and, ↓wE_or, ↓wE_not, ↓wE_chain, ↓nxQ_nx, ↓nxQ_rt, ↓nxQ_ct, ↓nxQ_bk, ↓wS_nil, ↓wS_seq, ↓wS_bk, ↓wS_ct, ↓wS_exp, ↓wS_asg, ↓wS_ret, ↓wS_if, ↓wS_aug, ↓wS_asgG, ↓wS_par, ↓wS_app, ↓wS_setix, ↓wS_augix, ↓wS_for, ↓wA_seq, ↓wA_rng, ↓wE_lc, ↓o_add_ii, ↓o_add_ll, ↓o_addI_ii, ↓o_subI_ii, ↓o_mul_ii, ↓o_mulI_ii, ↓o_mul_li, ↓o_mulL_li, ↓o_fdiv_ii, ↓o_mod_ii, ↓o_pow_ii, ↓o_neg_i, ↓o_cmp_ii, ↓o_eq_ii, ↓o_ne_ii, ↓o_is_nn, ↓o_is_in, ↓o_not_nn, ↓o_not_in, ↓o_ix_lst, ↓o_ix_tup, ↓o_ix_scr, ↓o_at, ↓o_at_neg, ↓o_set, ↓o_rng1, ↓o_rng2, ↓o_seq_lst, ↓o_seq_tup, ↓o_seq_scr, ↓o_enum_lst, ↓o_len_l, ↓o_len_t, ↓o_abs, ↓o_max2, ↓o_min2, ↓o_int_i, ↓o_int_b, ↓o_list_l, ↓o_list_s, ↓o_list_t, ↓o_sum_tl, ↓o_tru_b, ↓o_isi_int_i, ↓o_isi_int_non, ↓o_isi_bool_i, ↓o_isi_list_l, ↓o_gN, ↓o_gT, ↓o_gsNil, ↓o_gsCons, ↓o_cut_l, ↓o_cut_s, ↓wO_some, ↓wR_ok, ↓wR_of, ↓lpQ_nx, ↓lpQ_ct, wE_var, wE_c, wE_bin, wE_un, wA_nil, wA_cons, wE_app, wE_call, wE_tup, wE_lst, wE_if, wE_isi, wE_sl, wR_oNo, wR_oAt, ex_int, ex_bl, ex_lst, ex_par, wB_val, wB_tru, wB_not, wB_and, wB_or, wB_yes, wE_and, wE_or, wE_not, wE_chain, nxQ_nx, nxQ_rt, nxQ_ct, nxQ_bk, wS_nil, wS_seq, wS_bk, wS_ct, wS_exp, wS_asg, wS_ret, wS_if, wS_aug, wS_asgG, wS_par, wS_app, wS_setix, wS_augix, wS_for, wA_seq, wA_rng, wE_lc, o_add_ii, o_add_ll, o_addI_ii, o_subI_ii, o_mul_ii, o_mulI_ii, o_mul_li, o_mulL_li, o_fdiv_ii, o_mod_ii, o_pow_ii, o_neg_i, o_cmp_ii, o_eq_ii, o_ne_ii, o_is_nn, o_is_in, o_not_nn, o_not_in, o_ix_lst, o_ix_tup, o_ix_scr, o_at, o_at_neg, o_set, o_rng1, o_rng2, o_seq_lst, o_seq_tup, o_seq_scr, o_enum_lst, o_len_l, o_len_t, o_abs, o_max2, o_min2, o_int_i, o_int_b, o_list_l, o_list_s, o_list_t, o_sum_tl, o_tru_b, o_isi_int_i, o_isi_int_non, o_isi_bool_i, o_isi_list_l, o_gN, o_gT, o_gsNil, o_gsCons, o_cut_l, o_cut_s, wO_some, wR_ok, wR_of, lpQ_nx, lpQ_ct, tl_set, tl_len, tl_cons, tl_snoc, enum_tl, List.getElem?_cons_zero, List.getElem?_cons_succ, List.set_cons_zero, List.set_cons_succ, List.length_cons, List.length_nil, List.length_map, List.length_range, List.cons_append, List.nil_append, List.replicate, Nat.reduceAdd, Nat.reduceSub, Int.toNat_natCast, decide_eq_true_eq, Bool.not_eq_true, Bool.not_true, Bool.not_false, if_true, Bool.false_eq_true, if_false, true_and, and_true, Int.reduceNeg, Int.reduceLE, Int.reduceLT, Nat.reduceLeDiff, Nat.reduceLT, Int.zero_add, Nat.zero_add, Int.sub_zero, ite_true, ite_false, reduceIte, Bool.not_eq_eq_eq_not]
      refine ⟨by omega, _, rfl, fun i => if i = 0 then 0 else f0 i, .non, .non, .non, .non, ⟨fun i => ?_, fun i => ?_⟩, ?_⟩
      · split
        · omega
        · exact hf0.nn i
      · split
        · omega
        · exact hf0.le i
      · have e : (tl (n - 1 + 1) fun i => if i = 0 then D.int 0 else .int (f0 (i - 1 + 1))) = tl n fun i => .int (if i = 0 then 0 else f0 i) := by
          rw [show n - 1 + 1 = n by omega]
          refine tl_congr fun i _ _ => ?_
          by_cases h : i = 0
          · rw [if_pos h, if_pos h]
          · rw [if_neg h, if_neg h, show i - 1 + 1 = i by omega]
        rw [e]
    · exact ⟨_, rfl, f0, _, _, _, _, hf0, rfl⟩
  rintro _ ⟨f, j14, j15, j16, j17, hc, rfl⟩
  -- the word
  refine wS_cut (fun Γ => Γ = [.scr (ns.map .int), .lst (tl 60 fun i => .int (dr i)), .int n, .bl l, il n f, il n g, .str (wd w), .non, .non, .non, .non, .non, .non, .non, j14, j15, j16, j17]) ?_ ?_
  · simp (disch := omega) only [↓wE_var, ↓wE_c, ↓wE_bin, ↓wE_un, ↓wA_nil, ↓wA_cons, ↓wE_app, ↓wE_call, ↓wE_tup, ↓wE_lst, ↓wE_if, ↓wE_isi, ↓wE_sl, ↓wR_oNo, ↓wR_oAt, ↓ex_int, ↓ex_bl, ↓ex_lst, ↓ex_par, ↓wB_val, ↓wB_tru, ↓wB_not, ↓wB_and, ↓wB_or, ↓wB_yes, ↓wE_and, ↓wE_or, ↓wE_not, ↓wE_chain, ↓nxQ_nx, ↓nxQ_rt, ↓nxQ_ct, ↓nxQ_bk, ↓wS_nil, ↓wS_seq, ↓wS_bk, ↓wS_ct, ↓wS_exp, ↓wS_asg, ↓wS_ret, ↓wS_if, ↓wS_aug, ↓wS_asgG, ↓wS_par, ↓wS_app, ↓wS_setix, ↓wS_augix, ↓wS_for, ↓wA_seq, ↓wA_rng, ↓wE_lc, ↓o_add_ii, ↓o_add_ll, ↓o_addI_ii, ↓o_subI_ii, ↓o_mul_ii, ↓o_mulI_ii, ↓o_mul_li, ↓o_mulL_li, ↓o_fdiv_ii, ↓o_mod_ii, ↓o_pow_ii, ↓o_neg_i, ↓o_cmp_ii, ↓o_eq_ii, ↓o_ne_ii, ↓o_is_nn, ↓o_is_in, ↓o_not_nn, ↓o_not_in, ↓o_ix_lst, ↓o_ix_tup, ↓o_ix_scr, ↓o_at, ↓o_at_neg, ↓o_set, ↓o_rng1, ↓o_rng2, ↓o_seq_lst, ↓o_seq_tup, ↓o_seq_scr, ↓o_enum_lst, ↓o_len_l, ↓o_len_t, ↓o_abs, ↓o_max2, ↓o_min2, ↓o_int_i, ↓o_int_b, ↓o_list_l, ↓o_list_s, ↓o_list_t, ↓o_sum_tl, ↓o_tru_b, ↓o_isi_int_i, ↓o_isi_int_non, ↓o_isi_bool_i, ↓o_isi_list_l, ↓o_gN, ↓o_gT, ↓o_gsNil, ↓o_gsCons, ↓o_cut_l, ↓o_cut_s, ↓wO_some, ↓wR_ok, ↓wR_of, ↓lpQ_nx, ↓lpQ_ct, wE_var, wE_c, wE_bin, wE_un, wA_nil, wA_cons, wE_app, wE_call, wE_tup, wE_lst, wE_if, wE_isi, wE_sl, wR_oNo, wR_oAt, ex_int, ex_bl, ex_lst, ex_par, wB_val, wB_tru, wB_not, wB_and, wB_or, wB_yes, wE_and, wE_or, wE_not, wE_chain, nxQ_nx, nxQ_rt, nxQ_ct, nxQ_bk, wS_nil, wS_seq, wS_bk, wS_ct, wS_exp, wS_asg, wS_ret, wS_if, wS_aug, wS_asgG, wS_par, wS_app, wS_setix, wS_augix, wS_for, wA_seq, wA_rng, wE_lc, o_add_ii, o_add_ll, o_addI_ii, o_subI_ii, o_mul_ii, o_mulI_ii, o_mul_li, o_mulL_li, o_fdiv_ii, o_mod_ii, o_pow_ii, o_neg_i, o_cmp_ii, o_eq_ii, o_ne_ii, o_is_nn, o_is_in, o_not_nn, o_not_in, o_ix_lst, o_ix_tup, o_ix_scr, o_at, o_at_neg, o_set, o_rng1, o_rng2, o_seq_lst, o_seq_tup, o_seq_scr, o_enum_lst, o_len_l, o_len_t, o_abs, o_max2, o_min2, o_int_i, o_int_b, o_list_l, o_list_s, o_list_t, o_sum_tl, o_tru_b, o_isi_int_i, o_isi_int_non, o_isi_bool_i, o_isi_list_l, o_gN, o_gT, o_gsNil, o_gsCons, o_cut_l, o_cut_s, wO_some, wR_ok, wR_of, lpQ_nx, lpQ_ct, tl_set, tl_len, tl_cons, tl_snoc, enum_tl, List.getElem?_cons_zero, List.getElem?_cons_succ, List.set_cons_zero, List.set_cons_succ, List.length_cons, List.length_nil, List.length_map, List.length_range, List.cons_append, List.nil_append, List.replicate, Nat.reduceAdd, Nat.reduceSub, Int.toNat_natCast, decide_eq_true_eq, Bool.not_eq_true, Bool.not_true, Bool.not_false, if_true, Bool.false_eq_true, if_false, true_and, and_true, Int.reduceNeg, Int.reduceLE, Int.reduceLT, Nat.reduceLeDiff, Nat.reduceLT, Int.zero_add, Nat.zero_add, Int.sub_zero, ite_true, ite_false, reduceIte, Bool.not_eq_eq_eq_not, ↓hw]
    exact ⟨_, rfl, rfl⟩
  rintro _ rfl
  -- the bounds
  refine wS_cut (fun Γ => ∃ least : Int, (0 ≤ least ∧ least ≤ 3) ∧ (w = 2 → 1 ≤ least) ∧ Γ = [.scr (ns.map .int), .lst (tl 60 fun i => .int (dr i)), .int n, .bl l, il n f, il n g, .str (wd w), .int least, .non, .non, .non, .non, .non, .non, j14, j15, j16, j17]) ?_ ?_
  · simp (disch := omega) only [↓wE_var, ↓wE_c, ↓wE_bin, ↓wE_un, ↓wA_nil, ↓wA_cons, ↓wE_app, ↓wE_call, ↓wE_tup, ↓wE_lst, ↓wE_if, ↓wE_isi, ↓wE_sl, ↓wR_oNo, ↓wR_oAt, ↓ex_int, ↓ex_bl, ↓ex_lst, ↓ex_par, ↓wB_val, ↓wB_tru, ↓wB_not, ↓wB_and, ↓wB_or, ↓wB_yes, ↓wE_and, ↓wE_or, ↓wE_not, ↓wE_chain, ↓nxQ_nx, ↓nxQ_rt, ↓nxQ_ct, ↓nxQ_bk, ↓wS_nil, ↓wS_seq, ↓wS_bk, ↓wS_ct, ↓wS_exp, ↓wS_asg, ↓wS_ret, ↓wS_if, ↓wS_aug, ↓wS_asgG, ↓wS_par, ↓wS_app, ↓wS_setix, ↓wS_augix, ↓wS_for, ↓wA_seq, ↓wA_rng, ↓wE_lc, ↓o_add_ii, ↓o_add_ll, ↓o_addI_ii, ↓o_subI_ii, ↓o_mul_ii, ↓o_mulI_ii, ↓o_mul_li, ↓o_mulL_li, ↓o_fdiv_ii, ↓o_mod_ii, ↓o_pow_ii, ↓o_neg_i, ↓o_cmp_ii, ↓o_eq_ii, ↓o_ne_ii, ↓o_is_nn, ↓o_is_in, ↓o_not_nn, ↓o_not_in, ↓o_ix_lst, ↓o_ix_tup, ↓o_ix_scr, ↓o_at, ↓o_at_neg, ↓o_set, ↓o_rng1, ↓o_rng2, ↓o_seq_lst, ↓o_seq_tup, ↓o_seq_scr, ↓o_enum_lst, ↓o_len_l, ↓o_len_t, ↓o_abs, ↓o_max2, ↓o_min2, ↓o_int_i, ↓o_int_b, ↓o_list_l, ↓o_list_s, ↓o_list_t, ↓o_sum_tl, ↓o_tru_b, ↓o_isi_int_i, ↓o_isi_int_non, ↓o_isi_bool_i, ↓o_isi_list_l, ↓o_gN, ↓o_gT, ↓o_gsNil, ↓o_gsCons, ↓o_cut_l, ↓o_cut_s, ↓wO_some, ↓wR_ok, ↓wR_of, ↓lpQ_nx, ↓lpQ_ct, wE_var, wE_c, wE_bin, wE_un, wA_nil, wA_cons, wE_app, wE_call, wE_tup, wE_lst, wE_if, wE_isi, wE_sl, wR_oNo, wR_oAt, ex_int, ex_bl, ex_lst, ex_par, wB_val, wB_tru, wB_not, wB_and, wB_or, wB_yes, wE_and, wE_or, wE_not, wE_chain, nxQ_nx, nxQ_rt, nxQ_ct, nxQ_bk, wS_nil, wS_seq, wS_bk, wS_ct, wS_exp, wS_asg, wS_ret, wS_if, wS_aug, wS_asgG, wS_par, wS_app, wS_setix, wS_augix, wS_for, wA_seq, wA_rng, wE_lc, o_add_ii, o_add_ll, o_addI_ii, o_subI_ii, o_mul_ii, o_mulI_ii, o_mul_li, o_mulL_li, o_fdiv_ii, o_mod_ii, o_pow_ii, o_neg_i, o_cmp_ii, o_eq_ii, o_ne_ii, o_is_nn, o_is_in, o_not_nn, o_not_in, o_ix_lst, o_ix_tup, o_ix_scr, o_at, o_at_neg, o_set, o_rng1, o_rng2, o_seq_lst, o_seq_tup, o_seq_scr, o_enum_lst, o_len_l, o_len_t, o_abs, o_max2, o_min2, o_int_i, o_int_b, o_list_l, o_list_s, o_list_t, o_sum_tl, o_tru_b, o_isi_int_i, o_isi_int_non, o_isi_bool_i, o_isi_list_l, o_gN, o_gT, o_gsNil, o_gsCons, o_cut_l, o_cut_s, wO_some, wR_ok, wR_of, lpQ_nx, lpQ_ct, tl_set, tl_len, tl_cons, tl_snoc, enum_tl, List.getElem?_cons_zero, List.getElem?_cons_succ, List.set_cons_zero, List.set_cons_succ, List.length_cons, List.length_nil, List.length_map, List.length_range, List.cons_append, List.nil_append, List.replicate, Nat.reduceAdd, Nat.reduceSub, Int.toNat_natCast, decide_eq_true_eq, Bool.not_eq_true, Bool.not_true, Bool.not_false, if_true, Bool.false_eq_true, if_false, true_and, and_true, Int.reduceNeg, Int.reduceLE, Int.reduceLT, Nat.reduceLeDiff, Nat.reduceLT, Int.zero_add, Nat.zero_add, Int.sub_zero, ite_true, ite_false, reduceIte, Bool.not_eq_eq_eq_not, o_eq_ss, e3, e6]
    refine ⟨_, rfl, _, ⟨?_, ?_⟩, ?_, rfl⟩
    · split <;> split <;> omega
    · split <;> split <;> omega
    · intro hw2
      rw [if_pos hw2]
      split <;> omega
  rintro _ ⟨least, hl0, hl1, rfl⟩
  refine wS_cut (fun Γ => ∃ b : Option Int, (∀ t, b = some t → least ≤ t) ∧ Γ = [.scr (ns.map .int), .lst (tl 60 fun i => .int (dr i)), .int n, .bl l, il n f, il n g, .str (wd w), .int least, most b, .non, .non, .non, .non, .non, j14, j15, j16, j17]) ?_ ?_
  · simp (disch := omega) only [↓wE_var, ↓wE_c, ↓wE_bin, ↓wE_un, ↓wA_nil, ↓wA_cons, ↓wE_app, ↓wE_call, ↓wE_tup, ↓wE_lst, ↓wE_if, ↓wE_isi, ↓wE_sl, ↓wR_oNo, ↓wR_oAt, ↓ex_int, ↓ex_bl, ↓ex_lst, ↓ex_par, ↓wB_val, ↓wB_tru, ↓wB_not, ↓wB_and, ↓wB_or, ↓wB_yes, ↓wE_and, ↓wE_or, ↓wE_not, ↓wE_chain, ↓nxQ_nx, ↓nxQ_rt, ↓nxQ_ct, ↓nxQ_bk, ↓wS_nil, ↓wS_seq, ↓wS_bk, ↓wS_ct, ↓wS_exp, ↓wS_asg, ↓wS_ret, ↓wS_if, ↓wS_aug, ↓wS_asgG, ↓wS_par, ↓wS_app, ↓wS_setix, ↓wS_augix, ↓wS_for, ↓wA_seq, ↓wA_rng, ↓wE_lc, ↓o_add_ii, ↓o_add_ll, ↓o_addI_ii, ↓o_subI_ii, ↓o_mul_ii, ↓o_mulI_ii, ↓o_mul_li, ↓o_mulL_li, ↓o_fdiv_ii, ↓o_mod_ii, ↓o_pow_ii, ↓o_neg_i, ↓o_cmp_ii, ↓o_eq_ii, ↓o_ne_ii, ↓o_is_nn, ↓o_is_in, ↓o_not_nn, ↓o_not_in, ↓o_ix_lst, ↓o_ix_tup, ↓o_ix_scr, ↓o_at, ↓o_at_neg, ↓o_set, ↓o_rng1, ↓o_rng2, ↓o_seq_lst, ↓o_seq_tup, ↓o_seq_scr, ↓o_enum_lst, ↓o_len_l, ↓o_len_t, ↓o_abs, ↓o_max2, ↓o_min2, ↓o_int_i, ↓o_int_b, ↓o_list_l, ↓o_list_s, ↓o_list_t, ↓o_sum_tl, ↓o_tru_b, ↓o_isi_int_i, ↓o_isi_int_non, ↓o_isi_bool_i, ↓o_isi_list_l, ↓o_gN, ↓o_gT, ↓o_gsNil, ↓o_gsCons, ↓o_cut_l, ↓o_cut_s, ↓wO_some, ↓wR_ok, ↓wR_of, ↓lpQ_nx, ↓lpQ_ct, wE_var, wE_c, wE_bin, wE_un, wA_nil, wA_cons, wE_app, wE_call, wE_tup, wE_lst, wE_if, wE_isi, wE_sl, wR_oNo, wR_oAt, ex_int, ex_bl, ex_lst, ex_par, wB_val, wB_tru, wB_not, wB_and, wB_or, wB_yes, wE_and, wE_or, wE_not, wE_chain, nxQ_nx, nxQ_rt, nxQ_ct, nxQ_bk, wS_nil, wS_seq, wS_bk, wS_ct, wS_exp, wS_asg, wS_ret, wS_if, wS_aug, wS_asgG, wS_par, wS_app, wS_setix, wS_augix, wS_for, wA_seq, wA_rng, wE_lc, o_add_ii, o_add_ll, o_addI_ii, o_subI_ii, o_mul_ii, o_mulI_ii, o_mul_li, o_mulL_li, o_fdiv_ii, o_mod_ii, o_pow_ii, o_neg_i, o_cmp_ii, o_eq_ii, o_ne_ii, o_is_nn, o_is_in, o_not_nn, o_not_in, o_ix_lst, o_ix_tup, o_ix_scr, o_at, o_at_neg, o_set, o_rng1, o_rng2, o_seq_lst, o_seq_tup, o_seq_scr, o_enum_lst, o_len_l, o_len_t, o_abs, o_max2, o_min2, o_int_i, o_int_b, o_list_l, o_list_s, o_list_t, o_sum_tl, o_tru_b, o_isi_int_i, o_isi_int_non, o_isi_bool_i, o_isi_list_l, o_gN, o_gT, o_gsNil, o_gsCons, o_cut_l, o_cut_s, wO_some, wR_ok, wR_of, lpQ_nx, lpQ_ct, tl_set, tl_len, tl_cons, tl_snoc, enum_tl, List.getElem?_cons_zero, List.getElem?_cons_succ, List.set_cons_zero, List.set_cons_succ, List.length_cons, List.length_nil, List.length_map, List.length_range, List.cons_append, List.nil_append, List.replicate, Nat.reduceAdd, Nat.reduceSub, Int.toNat_natCast, decide_eq_true_eq, Bool.not_eq_true, Bool.not_true, Bool.not_false, if_true, Bool.false_eq_true, if_false, true_and, and_true, Int.reduceNeg, Int.reduceLE, Int.reduceLT, Nat.reduceLeDiff, Nat.reduceLT, Int.zero_add, Nat.zero_add, Int.sub_zero, ite_true, ite_false, reduceIte, Bool.not_eq_eq_eq_not]
    have h4 : dr 35 % 4 = 0 ∨ dr 35 % 4 = 1 ∨ dr 35 % 4 = 2 ∨ dr 35 % 4 = 3 := by omega
    rcases h4 with h | h | h | h <;> rw [h]
    · exact wO_some.2 ⟨_, rfl, none, (fun t h => nomatch h), rfl⟩
    · exact wO_some.2 ⟨_, rfl, some least, (fun t h => by cases h; omega), rfl⟩
    · exact wO_some.2 ⟨_, rfl, some (least + 1), (fun t h => by cases h; omega), rfl⟩
    · exact wO_some.2 ⟨_, rfl, some (least + dr 34 % 9), (fun t h => by cases h; omega), rfl⟩
  rintro _ ⟨b, hb, rfl⟩
  refine wS_cut (fun Γ => ∃ (least : Int) (b : Option Int), (0 ≤ least ∧ least ≤ 3) ∧ (w = 2 → 1 ≤ least) ∧ (∀ t, b = some t → least ≤ t) ∧ (f 0 > 0 → ∃ t, b = some t ∧ t ≤ 1) ∧ Γ = [.scr (ns.map .int), .lst (tl 60 fun i => .int (dr i)), .int n, .bl l, il n f, il n g, .str (wd w), .int least, most b, .non, .non, .non, .non, .non, j14, j15, j16, j17]) ?_ ?_
  · rw [wS_if]
    simp (disch := omega) only [↓wE_var, ↓wE_c, ↓wE_bin, ↓wE_un, ↓wA_nil, ↓wA_cons, ↓wE_app, ↓wE_call, ↓wE_tup, ↓wE_lst, ↓wE_if, ↓wE_isi, ↓wE_sl, ↓wR_oNo, ↓wR_oAt, ↓ex_int, ↓ex_bl, ↓ex_lst, ↓ex_par, ↓wB_val, ↓wB_tru, ↓wB_not, ↓wB_and, ↓wB_or, ↓wB_yes, ↓wE_and, ↓wE_or, ↓wE_not, ↓wE_chain, ↓nxQ_nx, ↓nxQ_rt, ↓nxQ_ct, ↓nxQ_bk, ↓wS_nil, ↓wS_seq, ↓wS_bk, ↓wS_ct, ↓wS_exp, ↓wS_asg, ↓wS_ret, ↓wS_if, ↓wS_aug, ↓wS_asgG, ↓wS_par, ↓wS_app, ↓wS_setix, ↓wS_augix, ↓wS_for, ↓wA_seq, ↓wA_rng, ↓wE_lc, ↓o_add_ii, ↓o_add_ll, ↓o_addI_ii, ↓o_subI_ii, ↓o_mul_ii, ↓o_mulI_ii, ↓o_mul_li, ↓o_mulL_li, ↓o_fdiv_ii, ↓o_mod_ii, ↓o_pow_ii, ↓o_neg_i, ↓o_cmp_ii, ↓o_eq_ii, ↓o_ne_ii, ↓o_is_nn, ↓o_is_in, ↓o_not_nn, ↓o_not_in, ↓o_ix_lst, ↓o_ix_tup, ↓o_ix_scr, ↓o_at, ↓o_at_neg, ↓o_set, ↓o_rng1, ↓o_rng2, ↓o_seq_lst, ↓o_seq_tup, ↓o_seq_scr, ↓o_enum_lst, ↓o_len_l, ↓o_len_t, ↓o_abs, ↓o_max2, ↓o_min2, ↓o_int_i, ↓o_int_b, ↓o_list_l, ↓o_list_s, ↓o_list_t, ↓o_sum_tl, ↓o_tru_b, ↓o_isi_int_i, ↓o_isi_int_non, ↓o_isi_bool_i, ↓o_isi_list_l, ↓o_gN, ↓o_gT, ↓o_gsNil, ↓o_gsCons, ↓o_cut_l, ↓o_cut_s, ↓wO_some, ↓wR_ok, ↓wR_of, ↓lpQ_nx, ↓lpQ_ct, wE_var, wE_c, wE_bin, wE_un, wA_nil, wA_cons, wE_app, wE_call, wE_tup, wE_lst, wE_if, wE_isi, wE_sl, wR_oNo, wR_oAt, ex_int, ex_bl, ex_lst, ex_par, wB_val, wB_tru, wB_not, wB_and, wB_or, wB_yes, wE_and, wE_or, wE_not, wE_chain, nxQ_nx, nxQ_rt, nxQ_ct, nxQ_bk, wS_nil, wS_seq, wS_bk, wS_ct, wS_exp, wS_asg, wS_ret, wS_if, wS_aug, wS_asgG, wS_par, wS_app, wS_setix, wS_augix, wS_for, wA_seq, wA_rng, wE_lc, o_add_ii, o_add_ll, o_addI_ii, o_subI_ii, o_mul_ii, o_mulI_ii, o_mul_li, o_mulL_li, o_fdiv_ii, o_mod_ii, o_pow_ii, o_neg_i, o_cmp_ii, o_eq_ii, o_ne_ii, o_is_nn, o_is_in, o_not_nn, o_not_in, o_ix_lst, o_ix_tup, o_ix_scr, o_at, o_at_neg, o_set, o_rng1, o_rng2, o_seq_lst, o_seq_tup, o_seq_scr, o_enum_lst, o_len_l, o_len_t, o_abs, o_max2, o_min2, o_int_i, o_int_b, o_list_l, o_list_s, o_list_t, o_sum_tl, o_tru_b, o_isi_int_i, o_isi_int_non, o_isi_bool_i, o_isi_list_l, o_gN, o_gT, o_gsNil, o_gsCons, o_cut_l, o_cut_s, wO_some, wR_ok, wR_of, lpQ_nx, lpQ_ct, tl_set, tl_len, tl_cons, tl_snoc, enum_tl, List.getElem?_cons_zero, List.getElem?_cons_succ, List.set_cons_zero, List.set_cons_succ, List.length_cons, List.length_nil, List.length_map, List.length_range, List.cons_append, List.nil_append, List.replicate, Nat.reduceAdd, Nat.reduceSub, Int.toNat_natCast, decide_eq_true_eq, Bool.not_eq_true, Bool.not_true, Bool.not_false, if_true, Bool.false_eq_true, if_false, true_and, and_true, Int.reduceNeg, Int.reduceLE, Int.reduceLT, Nat.reduceLeDiff, Nat.reduceLT, Int.zero_add, Nat.zero_add, Int.sub_zero, ite_true, ite_false, reduceIte, Bool.not_eq_eq_eq_not, o_eq_ss, e3, e6]
    by_cases c0 : 0 < f 0
    · rw [if_pos c0]
      have hA : ∃ lo : Int, (0 ≤ lo ∧ lo ≤ 1) ∧ (w = 2 → 1 ≤ lo) ∧ (if (if w = 2 then 1 else 0) > dr 33 % 2 then (if w = 2 then 1 else 0) else dr 33 % 2) = lo := by
        refine ⟨_, ⟨?_, ?_⟩, ?_, rfl⟩
        · split <;> split <;> omega
        · split <;> split <;> omega
        · intro hw2
          rw [if_pos hw2]
          split <;> omega
      obtain ⟨lo, hlo, hlo2, elo⟩ := hA
      rw [elo]
      exact ⟨_, rfl, lo, some (if dr 34 % 2 > lo then dr 34 % 2 else lo), by omega, hlo2, (fun t h => by cases h; split <;> omega), (fun _ => ⟨_, rfl, by split <;> omega⟩), rfl⟩
    · rw [if_neg c0]
      exact ⟨_, rfl, least, b, hl0, hl1, hb, fun h => absurd h c0, rfl⟩
  clear hb hl0 hl1
  rintro _ ⟨least, b, hl0, hl1, hb, hb1, rfl⟩
  -- what is due
  refine wS_cut (fun Γ => Γ = [.scr (ns.map .int), .lst (tl 60 fun i => .int (dr i)), .int n, .bl l, il n f, il n g, .str (wd w), .int least, most b, il n fun _ => 0, .non, .non, .non, .non, j14, j15, j16, j17]) ?_ ?_
  · simp (disch := omega) only [↓wE_var, ↓wE_c, ↓wE_bin, ↓wE_un, ↓wA_nil, ↓wA_cons, ↓wE_app, ↓wE_call, ↓wE_tup, ↓wE_lst, ↓wE_if, ↓wE_isi, ↓wE_sl, ↓wR_oNo, ↓wR_oAt, ↓ex_int, ↓ex_bl, ↓ex_lst, ↓ex_par, ↓wB_val, ↓wB_tru, ↓wB_not, ↓wB_and, ↓wB_or, ↓wB_yes, ↓wE_and, ↓wE_or, ↓wE_not, ↓wE_chain, ↓nxQ_nx, ↓nxQ_rt, ↓nxQ_ct, ↓nxQ_bk, ↓wS_nil, ↓wS_seq, ↓wS_bk, ↓wS_ct, ↓wS_exp, ↓wS_asg, ↓wS_ret, ↓wS_if, ↓wS_aug, ↓wS_asgG, ↓wS_par, ↓wS_app, ↓wS_setix, ↓wS_augix, ↓wS_for, ↓wA_seq, ↓wA_rng, ↓wE_lc, ↓o_add_ii, ↓o_add_ll, ↓o_addI_ii, ↓o_subI_ii, ↓o_mul_ii, ↓o_mulI_ii, ↓o_mul_li, ↓o_mulL_li, ↓o_fdiv_ii, ↓o_mod_ii, ↓o_pow_ii, ↓o_neg_i, ↓o_cmp_ii, ↓o_eq_ii, ↓o_ne_ii, ↓o_is_nn, ↓o_is_in, ↓o_not_nn, ↓o_not_in, ↓o_ix_lst, ↓o_ix_tup, ↓o_ix_scr, ↓o_at, ↓o_at_neg, ↓o_set, ↓o_rng1, ↓o_rng2, ↓o_seq_lst, ↓o_seq_tup, ↓o_seq_scr, ↓o_enum_lst, ↓o_len_l, ↓o_len_t, ↓o_abs, ↓o_max2, ↓o_min2, ↓o_int_i, ↓o_int_b, ↓o_list_l, ↓o_list_s, ↓o_list_t, ↓o_sum_tl, ↓o_tru_b, ↓o_isi_int_i, ↓o_isi_int_non, ↓o_isi_bool_i, ↓o_isi_list_l, ↓o_gN, ↓o_gT, ↓o_gsNil, ↓o_gsCons, ↓o_cut_l, ↓o_cut_s, ↓wO_some, ↓wR_ok, ↓wR_of, ↓lpQ_nx, ↓lpQ_ct, wE_var, wE_c, wE_bin, wE_un, wA_nil, wA_cons, wE_app, wE_call, wE_tup, wE_lst, wE_if, wE_isi, wE_sl, wR_oNo, wR_oAt, ex_int, ex_bl, ex_lst, ex_par, wB_val, wB_tru, wB_not, wB_and, wB_or, wB_yes, wE_and, wE_or, wE_not, wE_chain, nxQ_nx, nxQ_rt, nxQ_ct, nxQ_bk, wS_nil, wS_seq, wS_bk, wS_ct, wS_exp, wS_asg, wS_ret, wS_if, wS_aug, wS_asgG, wS_par, wS_app, wS_setix, wS_augix, wS_for, wA_seq, wA_rng, wE_lc, o_add_ii, o_add_ll, o_addI_ii, o_subI_ii, o_mul_ii, o_mulI_ii, o_mul_li, o_mulL_li, o_fdiv_ii, o_mod_ii, o_pow_ii, o_neg_i, o_cmp_ii, o_eq_ii, o_ne_ii, o_is_nn, o_is_in, o_not_nn, o_not_in, o_ix_lst, o_ix_tup, o_ix_scr, o_at, o_at_neg, o_set, o_rng1, o_rng2, o_seq_lst, o_seq_tup, o_seq_scr, o_enum_lst, o_len_l, o_len_t, o_abs, o_max2, o_min2, o_int_i, o_int_b, o_list_l, o_list_s, o_list_t, o_sum_tl, o_tru_b, o_isi_int_i, o_isi_int_non, o_isi_bool_i, o_isi_list_l, o_gN, o_gT, o_gsNil, o_gsCons, o_cut_l, o_cut_s, wO_some, wR_ok, wR_of, lpQ_nx, lpQ_ct, tl_set, tl_len, tl_cons, tl_snoc, enum_tl, List.getElem?_cons_zero, List.getElem?_cons_succ, List.set_cons_zero, List.set_cons_succ, List.length_cons, List.length_nil, List.length_map, List.length_range, List.cons_append, List.nil_append, List.replicate, Nat.reduceAdd, Nat.reduceSub, Int.toNat_natCast, decide_eq_true_eq, Bool.not_eq_true, Bool.not_true, Bool.not_false, if_true, Bool.false_eq_true, if_false, true_and, and_true, Int.reduceNeg, Int.reduceLE, Int.reduceLT, Nat.reduceLeDiff, Nat.reduceLT, Int.zero_add, Nat.zero_add, Int.sub_zero, ite_true, ite_false, reduceIte, Bool.not_eq_eq_eq_not]
    exact ⟨by omega, _, rfl, rfl⟩
  rintro _ rfl
  refine wS_cut (fun Γ => ∃ j10 j11 j14 j15 j16 j17, Γ = [.scr (ns.map .int), .lst (tl 60 fun i => .int (dr i)), .int n, .bl l, il n f, il n g, .str (wd w), .int least, most b, il n fun x => sm ((topM n f b : Int) + 1 - least).toNat fun j => mem w n l f (least + j).toNat x, j10, j11, .non, .non, j14, j15, j16, j17]) ?_ ?_
  · simp (disch := omega) only [↓wE_var, ↓wE_c, ↓wE_bin, ↓wE_un, ↓wA_nil, ↓wA_cons, ↓wE_app, ↓wE_call, ↓wE_tup, ↓wE_lst, ↓wE_if, ↓wE_isi, ↓wE_sl, ↓wR_oNo, ↓wR_oAt, ↓ex_int, ↓ex_bl, ↓ex_lst, ↓ex_par, ↓wB_val, ↓wB_tru, ↓wB_not, ↓wB_and, ↓wB_or, ↓wB_yes, ↓wE_and, ↓wE_or, ↓wE_not, ↓wE_chain, ↓nxQ_nx, ↓nxQ_rt, ↓nxQ_ct, ↓nxQ_bk, ↓wS_nil, ↓wS_seq, ↓wS_bk, ↓wS_ct, ↓wS_exp, ↓wS_asg, ↓wS_ret, ↓wS_if, ↓wS_aug, ↓wS_asgG, ↓wS_par, ↓wS_app, ↓wS_setix, ↓wS_augix, ↓wS_for, ↓wA_seq, ↓wA_rng, ↓wE_lc, ↓o_add_ii, ↓o_add_ll, ↓o_addI_ii, ↓o_subI_ii, ↓o_mul_ii, ↓o_mulI_ii, ↓o_mul_li, ↓o_mulL_li, ↓o_fdiv_ii, ↓o_mod_ii, ↓o_pow_ii, ↓o_neg_i, ↓o_cmp_ii, ↓o_eq_ii, ↓o_ne_ii, ↓o_is_nn, ↓o_is_in, ↓o_not_nn, ↓o_not_in, ↓o_ix_lst, ↓o_ix_tup, ↓o_ix_scr, ↓o_at, ↓o_at_neg, ↓o_set, ↓o_rng1, ↓o_rng2, ↓o_seq_lst, ↓o_seq_tup, ↓o_seq_scr, ↓o_enum_lst, ↓o_len_l, ↓o_len_t, ↓o_abs, ↓o_max2, ↓o_min2, ↓o_int_i, ↓o_int_b, ↓o_list_l, ↓o_list_s, ↓o_list_t, ↓o_sum_tl, ↓o_tru_b, ↓o_isi_int_i, ↓o_isi_int_non, ↓o_isi_bool_i, ↓o_isi_list_l, ↓o_gN, ↓o_gT, ↓o_gsNil, ↓o_gsCons, ↓o_cut_l, ↓o_cut_s, ↓wO_some, ↓wR_ok, ↓wR_of, ↓lpQ_nx, ↓lpQ_ct, wE_var, wE_c, wE_bin, wE_un, wA_nil, wA_cons, wE_app, wE_call, wE_tup, wE_lst, wE_if, wE_isi, wE_sl, wR_oNo, wR_oAt, ex_int, ex_bl, ex_lst, ex_par, wB_val, wB_tru, wB_not, wB_and, wB_or, wB_yes, wE_and, wE_or, wE_not, wE_chain, nxQ_nx, nxQ_rt, nxQ_ct, nxQ_bk, wS_nil, wS_seq, wS_bk, wS_ct, wS_exp, wS_asg, wS_ret, wS_if, wS_aug, wS_asgG, wS_par, wS_app, wS_setix, wS_augix, wS_for, wA_seq, wA_rng, wE_lc, o_add_ii, o_add_ll, o_addI_ii, o_subI_ii, o_mul_ii, o_mulI_ii, o_mul_li, o_mulL_li, o_fdiv_ii, o_mod_ii, o_pow_ii, o_neg_i, o_cmp_ii, o_eq_ii, o_ne_ii, o_is_nn, o_is_in, o_not_nn, o_not_in, o_ix_lst, o_ix_tup, o_ix_scr, o_at, o_at_neg, o_set, o_rng1, o_rng2, o_seq_lst, o_seq_tup, o_seq_scr, o_enum_lst, o_len_l, o_len_t, o_abs, o_max2, o_min2, o_int_i, o_int_b, o_list_l, o_list_s, o_list_t, o_sum_tl, o_tru_b, o_isi_int_i, o_isi_int_non, o_isi_bool_i, o_isi_list_l, o_gN, o_gT, o_gsNil, o_gsCons, o_cut_l, o_cut_s, wO_some, wR_ok, wR_of, lpQ_nx, lpQ_ct, tl_set, tl_len, tl_cons, tl_snoc, enum_tl, List.getElem?_cons_zero, List.getElem?_cons_succ, List.set_cons_zero, List.set_cons_succ, List.length_cons, List.length_nil, List.length_map, List.length_range, List.cons_append, List.nil_append, List.replicate, Nat.reduceAdd, Nat.reduceSub, Int.toNat_natCast, decide_eq_true_eq, Bool.not_eq_true, Bool.not_true, Bool.not_false, if_true, Bool.false_eq_true, if_false, true_and, and_true, Int.reduceNeg, Int.reduceLE, Int.reduceLT, Nat.reduceLeDiff, Nat.reduceLT, Int.zero_add, Nat.zero_add, Int.sub_zero, ite_true, ite_false, reduceIte, Bool.not_eq_eq_eq_not]
    refine ⟨by split <;> omega, wF_rng (fun i Γ => ∃ L j10 j11 j14 j15 j16 j17, Γ = [.scr (ns.map .int), .lst (tl 60 fun i => .int (dr i)), .int n, .bl l, il n f, il n g, .str (wd w), .int least, most b, .lst L, j10, j11, .non, .non, j14, j15, j16, j17] ∧ L = tl n fun x => .int (sm i fun j => if cndB f b (least + j) = true then mem w n l f (least + j).toNat x else 0)) ⟨_, _, _, _, _, _, _, rfl, rfl⟩ ?_ ?_⟩
    · rintro i Γ hi ⟨_, j10, j11, j14, j15, j16, j17, rfl, rfl⟩
      have hi2 : least + i < 12 := by split at hi <;> omega
      rw [o_gN]
      simp only [List.set_cons_zero, List.set_cons_succ]
      rw [wS_if]
      refine wR_mono (Q := fun c => c = cndB f b (least + i)) ?_ ?_
      · change wB _ _ _
        unfold cndB
        cases b with
        | none =>
          simp (disch := omega) only [↓wE_var, ↓wE_c, ↓wE_bin, ↓wE_un, ↓wA_nil, ↓wA_cons, ↓wE_app, ↓wE_call, ↓wE_tup, ↓wE_lst, ↓wE_if, ↓wE_isi, ↓wE_sl, ↓wR_oNo, ↓wR_oAt, ↓ex_int, ↓ex_bl, ↓ex_lst, ↓ex_par, ↓wB_val, ↓wB_tru, ↓wB_not, ↓wB_and, ↓wB_or, ↓wB_yes, ↓wE_and, ↓wE_or, ↓wE_not, ↓wE_chain, ↓nxQ_nx, ↓nxQ_rt, ↓nxQ_ct, ↓nxQ_bk, ↓wS_nil, ↓wS_seq, ↓wS_bk, ↓wS_ct, ↓wS_exp, ↓wS_asg, ↓wS_ret, ↓wS_if, ↓wS_aug, ↓wS_asgG, ↓wS_par, ↓wS_app, ↓wS_setix, ↓wS_augix, ↓wS_for, ↓wA_seq, ↓wA_rng, ↓wE_lc, ↓o_add_ii, ↓o_add_ll, ↓o_addI_ii, ↓o_subI_ii, ↓o_mul_ii, ↓o_mulI_ii, ↓o_mul_li, ↓o_mulL_li, ↓o_fdiv_ii, ↓o_mod_ii, ↓o_pow_ii, ↓o_neg_i, ↓o_cmp_ii, ↓o_eq_ii, ↓o_ne_ii, ↓o_is_nn, ↓o_is_in, ↓o_not_nn, ↓o_not_in, ↓o_ix_lst, ↓o_ix_tup, ↓o_ix_scr, ↓o_at, ↓o_at_neg, ↓o_set, ↓o_rng1, ↓o_rng2, ↓o_seq_lst, ↓o_seq_tup, ↓o_seq_scr, ↓o_enum_lst, ↓o_len_l, ↓o_len_t, ↓o_abs, ↓o_max2, ↓o_min2, ↓o_int_i, ↓o_int_b, ↓o_list_l, ↓o_list_s, ↓o_list_t, ↓o_sum_tl, ↓o_tru_b, ↓o_isi_int_i, ↓o_isi_int_non, ↓o_isi_bool_i, ↓o_isi_list_l, ↓o_gN, ↓o_gT, ↓o_gsNil, ↓o_gsCons, ↓o_cut_l, ↓o_cut_s, ↓wO_some, ↓wR_ok, ↓wR_of, ↓lpQ_nx, ↓lpQ_ct, wE_var, wE_c, wE_bin, wE_un, wA_nil, wA_cons, wE_app, wE_call, wE_tup, wE_lst, wE_if, wE_isi, wE_sl, wR_oNo, wR_oAt, ex_int, ex_bl, ex_lst, ex_par, wB_val, wB_tru, wB_not, wB_and, wB_or, wB_yes, wE_and, wE_or, wE_not, wE_chain, nxQ_nx, nxQ_rt, nxQ_ct, nxQ_bk, wS_nil, wS_seq, wS_bk, wS_ct, wS_exp, wS_asg, wS_ret, wS_if, wS_aug, wS_asgG, wS_par, wS_app, wS_setix, wS_augix, wS_for, wA_seq, wA_rng, wE_lc, o_add_ii, o_add_ll, o_addI_ii, o_subI_ii, o_mul_ii, o_mulI_ii, o_mul_li, o_mulL_li, o_fdiv_ii, o_mod_ii, o_pow_ii, o_neg_i, o_cmp_ii, o_eq_ii, o_ne_ii, o_is_nn, o_is_in, o_not_nn, o_not_in, o_ix_lst, o_ix_tup, o_ix_scr, o_at, o_at_neg, o_set, o_rng1, o_rng2, o_seq_lst, o_seq_tup, o_seq_scr, o_enum_lst, o_len_l, o_len_t, o_abs, o_max2, o_min2, o_int_i, o_int_b, o_list_l, o_list_s, o_list_t, o_sum_tl, o_tru_b, o_isi_int_i, o_isi_int_non, o_isi_bool_i, o_isi_list_l, o_gN, o_gT, o_gsNil, o_gsCons, o_cut_l, o_cut_s, wO_some, wR_ok, wR_of, lpQ_nx, lpQ_ct, tl_set, tl_len, tl_cons, tl_snoc, enum_tl, List.getElem?_cons_zero, List.getElem?_cons_succ, List.set_cons_zero, List.set_cons_succ, List.length_cons, List.length_nil, List.length_map, List.length_range, List.cons_append, List.nil_append, List.replicate, Nat.reduceAdd, Nat.reduceSub, Int.toNat_natCast, decide_eq_true_eq, Bool.not_eq_true, Bool.not_true, Bool.not_false, if_true, Bool.false_eq_true, if_false, true_and, and_true, Int.reduceNeg, Int.reduceLE, Int.reduceLT, Nat.reduceLeDiff, Nat.reduceLT, Int.zero_add, Nat.zero_add, Int.sub_zero, ite_true, ite_false, reduceIte, Bool.not_eq_eq_eq_not, most]
          by_cases c0 : f 0 = 0
          · rw [if_pos c0, decide_eq_true c0]; rfl
          · rw [if_neg c0, decide_eq_false c0]; rfl
        | some t =>
          simp (disch := omega) only [↓wE_var, ↓wE_c, ↓wE_bin, ↓wE_un, ↓wA_nil, ↓wA_cons, ↓wE_app, ↓wE_call, ↓wE_tup, ↓wE_lst, ↓wE_if, ↓wE_isi, ↓wE_sl, ↓wR_oNo, ↓wR_oAt, ↓ex_int, ↓ex_bl, ↓ex_lst, ↓ex_par, ↓wB_val, ↓wB_tru, ↓wB_not, ↓wB_and, ↓wB_or, ↓wB_yes, ↓wE_and, ↓wE_or, ↓wE_not, ↓wE_chain, ↓nxQ_nx, ↓nxQ_rt, ↓nxQ_ct, ↓nxQ_bk, ↓wS_nil, ↓wS_seq, ↓wS_bk, ↓wS_ct, ↓wS_exp, ↓wS_asg, ↓wS_ret, ↓wS_if, ↓wS_aug, ↓wS_asgG, ↓wS_par, ↓wS_app, ↓wS_setix, ↓wS_augix, ↓wS_for, ↓wA_seq, ↓wA_rng, ↓wE_lc, ↓o_add_ii, ↓o_add_ll, ↓o_addI_ii, ↓o_subI_ii, ↓o_mul_ii, ↓o_mulI_ii, ↓o_mul_li, ↓o_mulL_li, ↓o_fdiv_ii, ↓o_mod_ii, ↓o_pow_ii, ↓o_neg_i, ↓o_cmp_ii, ↓o_eq_ii, ↓o_ne_ii, ↓o_is_nn, ↓o_is_in, ↓o_not_nn, ↓o_not_in, ↓o_ix_lst, ↓o_ix_tup, ↓o_ix_scr, ↓o_at, ↓o_at_neg, ↓o_set, ↓o_rng1, ↓o_rng2, ↓o_seq_lst, ↓o_seq_tup, ↓o_seq_scr, ↓o_enum_lst, ↓o_len_l, ↓o_len_t, ↓o_abs, ↓o_max2, ↓o_min2, ↓o_int_i, ↓o_int_b, ↓o_list_l, ↓o_list_s, ↓o_list_t, ↓o_sum_tl, ↓o_tru_b, ↓o_isi_int_i, ↓o_isi_int_non, ↓o_isi_bool_i, ↓o_isi_list_l, ↓o_gN, ↓o_gT, ↓o_gsNil, ↓o_gsCons, ↓o_cut_l, ↓o_cut_s, ↓wO_some, ↓wR_ok, ↓wR_of, ↓lpQ_nx, ↓lpQ_ct, wE_var, wE_c, wE_bin, wE_un, wA_nil, wA_cons, wE_app, wE_call, wE_tup, wE_lst, wE_if, wE_isi, wE_sl, wR_oNo, wR_oAt, ex_int, ex_bl, ex_lst, ex_par, wB_val, wB_tru, wB_not, wB_and, wB_or, wB_yes, wE_and, wE_or, wE_not, wE_chain, nxQ_nx, nxQ_rt, nxQ_ct, nxQ_bk, wS_nil, wS_seq, wS_bk, wS_ct, wS_exp, wS_asg, wS_ret, wS_if, wS_aug, wS_asgG, wS_par, wS_app, wS_setix, wS_augix, wS_for, wA_seq, wA_rng, wE_lc, o_add_ii, o_add_ll, o_addI_ii, o_subI_ii, o_mul_ii, o_mulI_ii, o_mul_li, o_mulL_li, o_fdiv_ii, o_mod_ii, o_pow_ii, o_neg_i, o_cmp_ii, o_eq_ii, o_ne_ii, o_is_nn, o_is_in, o_not_nn, o_not_in, o_ix_lst, o_ix_tup, o_ix_scr, o_at, o_at_neg, o_set, o_rng1, o_rng2, o_seq_lst, o_seq_tup, o_seq_scr, o_enum_lst, o_len_l, o_len_t, o_abs, o_max2, o_min2, o_int_i, o_int_b, o_list_l, o_list_s, o_list_t, o_sum_tl, o_tru_b, o_isi_int_i, o_isi_int_non, o_isi_bool_i, o_isi_list_l, o_gN, o_gT, o_gsNil, o_gsCons, o_cut_l, o_cut_s, wO_some, wR_ok, wR_of, lpQ_nx, lpQ_ct, tl_set, tl_len, tl_cons, tl_snoc, enum_tl, List.getElem?_cons_zero, List.getElem?_cons_succ, List.set_cons_zero, List.set_cons_succ, List.length_cons, List.length_nil, List.length_map, List.length_range, List.cons_append, List.nil_append, List.replicate, Nat.reduceAdd, Nat.reduceSub, Int.toNat_natCast, decide_eq_true_eq, Bool.not_eq_true, Bool.not_true, Bool.not_false, if_true, Bool.false_eq_true, if_false, true_and, and_true, Int.reduceNeg, Int.reduceLE, Int.reduceLT, Nat.reduceLeDiff, Nat.reduceLT, Int.zero_add, Nat.zero_add, Int.sub_zero, ite_true, ite_false, reduceIte, Bool.not_eq_eq_eq_not, most]
          by_cases ct : least + i ≤ t
          · rw [if_pos ct, decide_eq_true ct]
            by_cases c0 : f 0 = 0
            · rw [if_pos c0, decide_eq_true c0]; rfl
            · rw [if_neg c0, decide_eq_false c0]; rfl
          · rw [if_neg ct, decide_eq_false ct]; rfl
      · rintro c rfl
        by_cases hc1 : cndB f b (least + i) = true
        · rw [if_pos hc1]
          have h1 := cnd_iff.1 hc1
          have hm := members_ok n f hn1.1 hn1.2 hc 20 (least + i).toNat w l (by omega) (by omega) (by rcases h1.2 with h | h; exact .inl h; exact .inr (by omega))
          rw [show (((least + i).toNat : Nat) : Int) = least + i by omega] at hm
          simp (disch := omega) only [↓wE_var, ↓wE_c, ↓wE_bin, ↓wE_un, ↓wA_nil, ↓wA_cons, ↓wE_app, ↓wE_call, ↓wE_tup, ↓wE_lst, ↓wE_if, ↓wE_isi, ↓wE_sl, ↓wR_oNo, ↓wR_oAt, ↓ex_int, ↓ex_bl, ↓ex_lst, ↓ex_par, ↓wB_val, ↓wB_tru, ↓wB_not, ↓wB_and, ↓wB_or, ↓wB_yes, ↓wE_and, ↓wE_or, ↓wE_not, ↓wE_chain, ↓nxQ_nx, ↓nxQ_rt, ↓nxQ_ct, ↓nxQ_bk, ↓wS_nil, ↓wS_seq, ↓wS_bk, ↓wS_ct, ↓wS_exp, ↓wS_asg, ↓wS_ret, ↓wS_if, ↓wS_aug, ↓wS_asgG, ↓wS_par, ↓wS_app, ↓wS_setix, ↓wS_augix, ↓wS_for, ↓wA_seq, ↓wA_rng, ↓wE_lc, ↓o_add_ii, ↓o_add_ll, ↓o_addI_ii, ↓o_subI_ii, ↓o_mul_ii, ↓o_mulI_ii, ↓o_mul_li, ↓o_mulL_li, ↓o_fdiv_ii, ↓o_mod_ii, ↓o_pow_ii, ↓o_neg_i, ↓o_cmp_ii, ↓o_eq_ii, ↓o_ne_ii, ↓o_is_nn, ↓o_is_in, ↓o_not_nn, ↓o_not_in, ↓o_ix_lst, ↓o_ix_tup, ↓o_ix_scr, ↓o_at, ↓o_at_neg, ↓o_set, ↓o_rng1, ↓o_rng2, ↓o_seq_lst, ↓o_seq_tup, ↓o_seq_scr, ↓o_enum_lst, ↓o_len_l, ↓o_len_t, ↓o_abs, ↓o_max2, ↓o_min2, ↓o_int_i, ↓o_int_b, ↓o_list_l, ↓o_list_s, ↓o_list_t, ↓o_sum_tl, ↓o_tru_b, ↓o_isi_int_i, ↓o_isi_int_non, ↓o_isi_bool_i, ↓o_isi_list_l, ↓o_gN, ↓o_gT, ↓o_gsNil, ↓o_gsCons, ↓o_cut_l, ↓o_cut_s, ↓wO_some, ↓wR_ok, ↓wR_of, ↓lpQ_nx, ↓lpQ_ct, wE_var, wE_c, wE_bin, wE_un, wA_nil, wA_cons, wE_app, wE_call, wE_tup, wE_lst, wE_if, wE_isi, wE_sl, wR_oNo, wR_oAt, ex_int, ex_bl, ex_lst, ex_par, wB_val, wB_tru, wB_not, wB_and, wB_or, wB_yes, wE_and, wE_or, wE_not, wE_chain, nxQ_nx, nxQ_rt, nxQ_ct, nxQ_bk, wS_nil, wS_seq, wS_bk, wS_ct, wS_exp, wS_asg, wS_ret, wS_if, wS_aug, wS_asgG, wS_par, wS_app, wS_setix, wS_augix, wS_for, wA_seq, wA_rng, wE_lc, o_add_ii, o_add_ll, o_addI_ii, o_subI_ii, o_mul_ii, o_mulI_ii, o_mul_li, o_mulL_li, o_fdiv_ii, o_mod_ii, o_pow_ii, o_neg_i, o_cmp_ii, o_eq_ii, o_ne_ii, o_is_nn, o_is_in, o_not_nn, o_not_in, o_ix_lst, o_ix_tup, o_ix_scr, o_at, o_at_neg, o_set, o_rng1, o_rng2, o_seq_lst, o_seq_tup, o_seq_scr, o_enum_lst, o_len_l, o_len_t, o_abs, o_max2, o_min2, o_int_i, o_int_b, o_list_l, o_list_s, o_list_t, o_sum_tl, o_tru_b, o_isi_int_i, o_isi_int_non, o_isi_bool_i, o_isi_list_l, o_gN, o_gT, o_gsNil, o_gsCons, o_cut_l, o_cut_s, wO_some, wR_ok, wR_of, lpQ_nx, lpQ_ct, tl_set, tl_len, tl_cons, tl_snoc, enum_tl, List.getElem?_cons_zero, List.getElem?_cons_succ, List.set_cons_zero, List.set_cons_succ, List.length_cons, List.length_nil, List.length_map, List.length_range, List.cons_append, List.nil_append, List.replicate, Nat.reduceAdd, Nat.reduceSub, Int.toNat_natCast, decide_eq_true_eq, Bool.not_eq_true, Bool.not_true, Bool.not_false, if_true, Bool.false_eq_true, if_false, true_and, and_true, Int.reduceNeg, Int.reduceLE, Int.reduceLT, Nat.reduceLeDiff, Nat.reduceLT, Int.zero_add, Nat.zero_add, Int.sub_zero, ite_true, ite_false, reduceIte, Bool.not_eq_eq_eq_not, hm]
          refine ⟨by omega, by omega, lc_tl (fun x => .int ((sm i fun j => if cndB f b (least + j) = true then mem w n l f (least + j).toNat x else 0) + mem w n l f (least + i).toNat x)) ?_ ?_⟩
          · intro x hx
            simp (disch := omega) only [↓wE_var, ↓wE_c, ↓wE_bin, ↓wE_un, ↓wA_nil, ↓wA_cons, ↓wE_app, ↓wE_call, ↓wE_tup, ↓wE_lst, ↓wE_if, ↓wE_isi, ↓wE_sl, ↓wR_oNo, ↓wR_oAt, ↓ex_int, ↓ex_bl, ↓ex_lst, ↓ex_par, ↓wB_val, ↓wB_tru, ↓wB_not, ↓wB_and, ↓wB_or, ↓wB_yes, ↓wE_and, ↓wE_or, ↓wE_not, ↓wE_chain, ↓nxQ_nx, ↓nxQ_rt, ↓nxQ_ct, ↓nxQ_bk, ↓wS_nil, ↓wS_seq, ↓wS_bk, ↓wS_ct, ↓wS_exp, ↓wS_asg, ↓wS_ret, ↓wS_if, ↓wS_aug, ↓wS_asgG, ↓wS_par, ↓wS_app, ↓wS_setix, ↓wS_augix, ↓wS_for, ↓wA_seq, ↓wA_rng, ↓wE_lc, ↓o_add_ii, ↓o_add_ll, ↓o_addI_ii, ↓o_subI_ii, ↓o_mul_ii, ↓o_mulI_ii, ↓o_mul_li, ↓o_mulL_li, ↓o_fdiv_ii, ↓o_mod_ii, ↓o_pow_ii, ↓o_neg_i, ↓o_cmp_ii, ↓o_eq_ii, ↓o_ne_ii, ↓o_is_nn, ↓o_is_in, ↓o_not_nn, ↓o_not_in, ↓o_ix_lst, ↓o_ix_tup, ↓o_ix_scr, ↓o_at, ↓o_at_neg, ↓o_set, ↓o_rng1, ↓o_rng2, ↓o_seq_lst, ↓o_seq_tup, ↓o_seq_scr, ↓o_enum_lst, ↓o_len_l, ↓o_len_t, ↓o_abs, ↓o_max2, ↓o_min2, ↓o_int_i, ↓o_int_b, ↓o_list_l, ↓o_list_s, ↓o_list_t, ↓o_sum_tl, ↓o_tru_b, ↓o_isi_int_i, ↓o_isi_int_non, ↓o_isi_bool_i, ↓o_isi_list_l, ↓o_gN, ↓o_gT, ↓o_gsNil, ↓o_gsCons, ↓o_cut_l, ↓o_cut_s, ↓wO_some, ↓wR_ok, ↓wR_of, ↓lpQ_nx, ↓lpQ_ct, wE_var, wE_c, wE_bin, wE_un, wA_nil, wA_cons, wE_app, wE_call, wE_tup, wE_lst, wE_if, wE_isi, wE_sl, wR_oNo, wR_oAt, ex_int, ex_bl, ex_lst, ex_par, wB_val, wB_tru, wB_not, wB_and, wB_or, wB_yes, wE_and, wE_or, wE_not, wE_chain, nxQ_nx, nxQ_rt, nxQ_ct, nxQ_bk, wS_nil, wS_seq, wS_bk, wS_ct, wS_exp, wS_asg, wS_ret, wS_if, wS_aug, wS_asgG, wS_par, wS_app, wS_setix, wS_augix, wS_for, wA_seq, wA_rng, wE_lc, o_add_ii, o_add_ll, o_addI_ii, o_subI_ii, o_mul_ii, o_mulI_ii, o_mul_li, o_mulL_li, o_fdiv_ii, o_mod_ii, o_pow_ii, o_neg_i, o_cmp_ii, o_eq_ii, o_ne_ii, o_is_nn, o_is_in, o_not_nn, o_not_in, o_ix_lst, o_ix_tup, o_ix_scr, o_at, o_at_neg, o_set, o_rng1, o_rng2, o_seq_lst, o_seq_tup, o_seq_scr, o_enum_lst, o_len_l, o_len_t, o_abs, o_max2, o_min2, o_int_i, o_int_b, o_list_l, o_list_s, o_list_t, o_sum_tl, o_tru_b, o_isi_int_i, o_isi_int_non, o_isi_bool_i, o_isi_list_l, o_gN, o_gT, o_gsNil, o_gsCons, o_cut_l, o_cut_s, wO_some, wR_ok, wR_of, lpQ_nx, lpQ_ct, tl_set, tl_len, tl_cons, tl_snoc, enum_tl, List.getElem?_cons_zero, List.getElem?_cons_succ, List.set_cons_zero, List.set_cons_succ, List.length_cons, List.length_nil, List.length_map, List.length_range, List.cons_append, List.nil_append, List.replicate, Nat.reduceAdd, Nat.reduceSub, Int.toNat_natCast, decide_eq_true_eq, Bool.not_eq_true, Bool.not_true, Bool.not_false, if_true, Bool.false_eq_true, if_false, true_and, and_true, Int.reduceNeg, Int.reduceLE, Int.reduceLT, Nat.reduceLeDiff, Nat.reduceLT, Int.zero_add, Nat.zero_add, Int.sub_zero, ite_true, ite_false, reduceIte, Bool.not_eq_eq_eq_not]
          · refine ⟨_, _, _, _, _, _, _, rfl, tl_congr fun x _ _ => ?_⟩
            rw [sm, if_pos hc1]
        · rw [if_neg hc1, wS_nil, lpQ_nx]
          refine ⟨_, _, _, _, _, _, _, rfl, tl_congr fun x _ _ => ?_⟩
          rw [sm, if_neg hc1, Int.add_zero]
    · rintro Γ' ⟨_, j10, j11, j14, j15, j16, j17, rfl, rfl⟩
      refine ⟨_, rfl, j10, j11, j14, j15, j16, j17, ?_⟩
      have e : (tl n fun x => D.int (sm ((if 2 > (n : Int) then 2 else (n : Int)) - least).toNat fun j => if cndB f b (least + j) = true then mem w n l f (least + j).toNat x else 0)) = tl n fun x => .int (sm ((topM n f b : Int) + 1 - least).toNat fun j => mem w n l f (least + j).toNat x) :=
        tl_congr fun x h1 h2 => congrArg D.int (due_top n w l f least b hn1.1 hc hl0.1 hb hb1 x h1 h2)
      rw [e]
  rintro _ ⟨j10, j11, j14, j15, j16, j17, rfl⟩
  refine wS_cut (fun Γ => Γ = [.scr (ns.map .int), .lst (tl 60 fun i => .int (dr i)), .int n, .bl l, il n f, il n g, .str (wd w), .int least, most b, il n fun x => sm ((topM n f b : Int) + 1 - least).toNat fun j => mem w n l f (least + j).toNat x, j10, j11, il n f, .non, j14, j15, j16, j17]) ?_ ?_
  · simp (disch := omega) only [↓wE_var, ↓wE_c, ↓wE_bin, ↓wE_un, ↓wA_nil, ↓wA_cons, ↓wE_app, ↓wE_call, ↓wE_tup, ↓wE_lst, ↓wE_if, ↓wE_isi, ↓wE_sl, ↓wR_oNo, ↓wR_oAt, ↓ex_int, ↓ex_bl, ↓ex_lst, ↓ex_par, ↓wB_val, ↓wB_tru, ↓wB_not, ↓wB_and, ↓wB_or, ↓wB_yes, ↓wE_and, ↓wE_or, ↓wE_not, ↓wE_chain, ↓nxQ_nx, ↓nxQ_rt, ↓nxQ_ct, ↓nxQ_bk, ↓wS_nil, ↓wS_seq, ↓wS_bk, ↓wS_ct, ↓wS_exp, ↓wS_asg, ↓wS_ret, ↓wS_if, ↓wS_aug, ↓wS_asgG, ↓wS_par, ↓wS_app, ↓wS_setix, ↓wS_augix, ↓wS_for, ↓wA_seq, ↓wA_rng, ↓wE_lc, ↓o_add_ii, ↓o_add_ll, ↓o_addI_ii, ↓o_subI_ii, ↓o_mul_ii, ↓o_mulI_ii, ↓o_mul_li, ↓o_mulL_li, ↓o_fdiv_ii, ↓o_mod_ii, ↓o_pow_ii, ↓o_neg_i, ↓o_cmp_ii, ↓o_eq_ii, ↓o_ne_ii, ↓o_is_nn, ↓o_is_in, ↓o_not_nn, ↓o_not_in, ↓o_ix_lst, ↓o_ix_tup, ↓o_ix_scr, ↓o_at, ↓o_at_neg, ↓o_set, ↓o_rng1, ↓o_rng2, ↓o_seq_lst, ↓o_seq_tup, ↓o_seq_scr, ↓o_enum_lst, ↓o_len_l, ↓o_len_t, ↓o_abs, ↓o_max2, ↓o_min2, ↓o_int_i, ↓o_int_b, ↓o_list_l, ↓o_list_s, ↓o_list_t, ↓o_sum_tl, ↓o_tru_b, ↓o_isi_int_i, ↓o_isi_int_non, ↓o_isi_bool_i, ↓o_isi_list_l, ↓o_gN, ↓o_gT, ↓o_gsNil, ↓o_gsCons, ↓o_cut_l, ↓o_cut_s, ↓wO_some, ↓wR_ok, ↓wR_of, ↓lpQ_nx, ↓lpQ_ct, wE_var, wE_c, wE_bin, wE_un, wA_nil, wA_cons, wE_app, wE_call, wE_tup, wE_lst, wE_if, wE_isi, wE_sl, wR_oNo, wR_oAt, ex_int, ex_bl, ex_lst, ex_par, wB_val, wB_tru, wB_not, wB_and, wB_or, wB_yes, wE_and, wE_or, wE_not, wE_chain, nxQ_nx, nxQ_rt, nxQ_ct, nxQ_bk, wS_nil, wS_seq, wS_bk, wS_ct, wS_exp, wS_asg, wS_ret, wS_if, wS_aug, wS_asgG, wS_par, wS_app, wS_setix, wS_augix, wS_for, wA_seq, wA_rng, wE_lc, o_add_ii, o_add_ll, o_addI_ii, o_subI_ii, o_mul_ii, o_mulI_ii, o_mul_li, o_mulL_li, o_fdiv_ii, o_mod_ii, o_pow_ii, o_neg_i, o_cmp_ii, o_eq_ii, o_ne_ii, o_is_nn, o_is_in, o_not_nn, o_not_in, o_ix_lst, o_ix_tup, o_ix_scr, o_at, o_at_neg, o_set, o_rng1, o_rng2, o_seq_lst, o_seq_tup, o_seq_scr, o_enum_lst, o_len_l, o_len_t, o_abs, o_max2, o_min2, o_int_i, o_int_b, o_list_l, o_list_s, o_list_t, o_sum_tl, o_tru_b, o_isi_int_i, o_isi_int_non, o_isi_bool_i, o_isi_list_l, o_gN, o_gT, o_gsNil, o_gsCons, o_cut_l, o_cut_s, wO_some, wR_ok, wR_of, lpQ_nx, lpQ_ct, tl_set, tl_len, tl_cons, tl_snoc, enum_tl, List.getElem?_cons_zero, List.getElem?_cons_succ, List.set_cons_zero, List.set_cons_succ, List.length_cons, List.length_nil, List.length_map, List.length_range, List.cons_append, List.nil_append, List.replicate, Nat.reduceAdd, Nat.reduceSub, Int.toNat_natCast, decide_eq_true_eq, Bool.not_eq_true, Bool.not_true, Bool.not_false, if_true, Bool.false_eq_true, if_false, true_and, and_true, Int.reduceNeg, Int.reduceLE, Int.reduceLT, Nat.reduceLeDiff, Nat.reduceLT, Int.zero_add, Nat.zero_add, Int.sub_zero, ite_true, ite_false, reduceIte, Bool.not_eq_eq_eq_not]
    exact ⟨_, rfl, rfl⟩
  rintro _ rfl
  -- what is found
  refine wS_cut (fun Γ => Γ = [.scr (ns.map .int), .lst (tl 60 fun i => .int (dr i)), .int n, .bl l, il n f, il n g, .str (wd w), .int least, most b, il n fun x => sm ((topM n f b : Int) + 1 - least).toNat fun j => mem w n l f (least + j).toNat x, j10, j11, il n f, il n fun x => sm ((topM n f b : Int) + 1 - least).toNat fun j => mem w n l f (least + j).toNat x, j14, j15, j16, j17]) ?_ ?_
  · rw [wS_if]
    simp (disch := omega) only [↓wE_var, ↓wE_c, ↓wE_bin, ↓wE_un, ↓wA_nil, ↓wA_cons, ↓wE_app, ↓wE_call, ↓wE_tup, ↓wE_lst, ↓wE_if, ↓wE_isi, ↓wE_sl, ↓wR_oNo, ↓wR_oAt, ↓ex_int, ↓ex_bl, ↓ex_lst, ↓ex_par, ↓wB_val, ↓wB_tru, ↓wB_not, ↓wB_and, ↓wB_or, ↓wB_yes, ↓wE_and, ↓wE_or, ↓wE_not, ↓wE_chain, ↓nxQ_nx, ↓nxQ_rt, ↓nxQ_ct, ↓nxQ_bk, ↓wS_nil, ↓wS_seq, ↓wS_bk, ↓wS_ct, ↓wS_exp, ↓wS_asg, ↓wS_ret, ↓wS_if, ↓wS_aug, ↓wS_asgG, ↓wS_par, ↓wS_app, ↓wS_setix, ↓wS_augix, ↓wS_for, ↓wA_seq, ↓wA_rng, ↓wE_lc, ↓o_add_ii, ↓o_add_ll, ↓o_addI_ii, ↓o_subI_ii, ↓o_mul_ii, ↓o_mulI_ii, ↓o_mul_li, ↓o_mulL_li, ↓o_fdiv_ii, ↓o_mod_ii, ↓o_pow_ii, ↓o_neg_i, ↓o_cmp_ii, ↓o_eq_ii, ↓o_ne_ii, ↓o_is_nn, ↓o_is_in, ↓o_not_nn, ↓o_not_in, ↓o_ix_lst, ↓o_ix_tup, ↓o_ix_scr, ↓o_at, ↓o_at_neg, ↓o_set, ↓o_rng1, ↓o_rng2, ↓o_seq_lst, ↓o_seq_tup, ↓o_seq_scr, ↓o_enum_lst, ↓o_len_l, ↓o_len_t, ↓o_abs, ↓o_max2, ↓o_min2, ↓o_int_i, ↓o_int_b, ↓o_list_l, ↓o_list_s, ↓o_list_t, ↓o_sum_tl, ↓o_tru_b, ↓o_isi_int_i, ↓o_isi_int_non, ↓o_isi_bool_i, ↓o_isi_list_l, ↓o_gN, ↓o_gT, ↓o_gsNil, ↓o_gsCons, ↓o_cut_l, ↓o_cut_s, ↓wO_some, ↓wR_ok, ↓wR_of, ↓lpQ_nx, ↓lpQ_ct, wE_var, wE_c, wE_bin, wE_un, wA_nil, wA_cons, wE_app, wE_call, wE_tup, wE_lst, wE_if, wE_isi, wE_sl, wR_oNo, wR_oAt, ex_int, ex_bl, ex_lst, ex_par, wB_val, wB_tru, wB_not, wB_and, wB_or, wB_yes, wE_and, wE_or, wE_not, wE_chain, nxQ_nx, nxQ_rt, nxQ_ct, nxQ_bk, wS_nil, wS_seq, wS_bk, wS_ct, wS_exp, wS_asg, wS_ret, wS_if, wS_aug, wS_asgG, wS_par, wS_app, wS_setix, wS_augix, wS_for, wA_seq, wA_rng, wE_lc, o_add_ii, o_add_ll, o_addI_ii, o_subI_ii, o_mul_ii, o_mulI_ii, o_mul_li, o_mulL_li, o_fdiv_ii, o_mod_ii, o_pow_ii, o_neg_i, o_cmp_ii, o_eq_ii, o_ne_ii, o_is_nn, o_is_in, o_not_nn, o_not_in, o_ix_lst, o_ix_tup, o_ix_scr, o_at, o_at_neg, o_set, o_rng1, o_rng2, o_seq_lst, o_seq_tup, o_seq_scr, o_enum_lst, o_len_l, o_len_t, o_abs, o_max2, o_min2, o_int_i, o_int_b, o_list_l, o_list_s, o_list_t, o_sum_tl, o_tru_b, o_isi_int_i, o_isi_int_non, o_isi_bool_i, o_isi_list_l, o_gN, o_gT, o_gsNil, o_gsCons, o_cut_l, o_cut_s, wO_some, wR_ok, wR_of, lpQ_nx, lpQ_ct, tl_set, tl_len, tl_cons, tl_snoc, enum_tl, List.getElem?_cons_zero, List.getElem?_cons_succ, List.set_cons_zero, List.set_cons_succ, List.length_cons, List.length_nil, List.length_map, List.length_range, List.cons_append, List.nil_append, List.replicate, Nat.reduceAdd, Nat.reduceSub, Int.toNat_natCast, decide_eq_true_eq, Bool.not_eq_true, Bool.not_true, Bool.not_false, if_true, Bool.false_eq_true, if_false, true_and, and_true, Int.reduceNeg, Int.reduceLE, Int.reduceLT, Nat.reduceLeDiff, Nat.reduceLT, Int.zero_add, Nat.zero_add, Int.sub_zero, ite_true, ite_false, reduceIte, Bool.not_eq_eq_eq_not, o_eq_ss, e1, e2, e4, e5]
    by_cases w0 : w = 0
    · rw [if_pos w0]
      subst w0
      rw [rows_ok' n l f least b hn1.1 hn1.2 hc hl0.1 (by omega) hb hb1, wR_ok]
      exact ⟨_, rfl, rfl⟩
    · rw [if_neg w0]
      by_cases w1 : w = 1
      · rw [if_pos w1]
        subst w1
        rw [sets_ok' n l f least b hn1.1 hn1.2 hc hl0.1 (by omega) hb hb1, wR_ok]
        exact ⟨_, rfl, rfl⟩
      · rw [if_neg w1]
        have w2 : w = 2 := by omega
        subst w2
        rw [rings_ok' n l f least b hn1.1 hn1.2 hc (hl1 rfl) (by omega) hb hb1, wR_ok]
        exact ⟨_, rfl, rfl⟩
  rintro _ rfl
  simp (disch := omega) only [↓wE_var, ↓wE_c, ↓wE_bin, ↓wE_un, ↓wA_nil, ↓wA_cons, ↓wE_app, ↓wE_call, ↓wE_tup, ↓wE_lst, ↓wE_if, ↓wE_isi, ↓wE_sl, ↓wR_oNo, ↓wR_oAt, ↓ex_int, ↓ex_bl, ↓ex_lst, ↓ex_par, ↓wB_val, ↓wB_tru, ↓wB_not, ↓wB_and, ↓wB_or, ↓wB_yes, ↓wE_and, ↓wE_or, ↓wE_not, ↓wE_chain, ↓nxQ_nx, ↓nxQ_rt, ↓nxQ_ct, ↓nxQ_bk, ↓wS_nil, ↓wS_seq, ↓wS_bk, ↓wS_ct, ↓wS_exp, ↓wS_asg, ↓wS_ret, ↓wS_if, ↓wS_aug, ↓wS_asgG, ↓wS_par, ↓wS_app, ↓wS_setix, ↓wS_augix, ↓wS_for, ↓wA_seq, ↓wA_rng, ↓wE_lc, ↓o_add_ii, ↓o_add_ll, ↓o_addI_ii, ↓o_subI_ii, ↓o_mul_ii, ↓o_mulI_ii, ↓o_mul_li, ↓o_mulL_li, ↓o_fdiv_ii, ↓o_mod_ii, ↓o_pow_ii, ↓o_neg_i, ↓o_cmp_ii, ↓o_eq_ii, ↓o_ne_ii, ↓o_is_nn, ↓o_is_in, ↓o_not_nn, ↓o_not_in, ↓o_ix_lst, ↓o_ix_tup, ↓o_ix_scr, ↓o_at, ↓o_at_neg, ↓o_set, ↓o_rng1, ↓o_rng2, ↓o_seq_lst, ↓o_seq_tup, ↓o_seq_scr, ↓o_enum_lst, ↓o_len_l, ↓o_len_t, ↓o_abs, ↓o_max2, ↓o_min2, ↓o_int_i, ↓o_int_b, ↓o_list_l, ↓o_list_s, ↓o_list_t, ↓o_sum_tl, ↓o_tru_b, ↓o_isi_int_i, ↓o_isi_int_non, ↓o_isi_bool_i, ↓o_isi_list_l, ↓o_gN, ↓o_gT, ↓o_gsNil, ↓o_gsCons, ↓o_cut_l, ↓o_cut_s, ↓wO_some, ↓wR_ok, ↓wR_of, ↓lpQ_nx, ↓lpQ_ct, wE_var, wE_c, wE_bin, wE_un, wA_nil, wA_cons, wE_app, wE_call, wE_tup, wE_lst, wE_if, wE_isi, wE_sl, wR_oNo, wR_oAt, ex_int, ex_bl, ex_lst, ex_par, wB_val, wB_tru, wB_not, wB_and, wB_or, wB_yes, wE_and, wE_or, wE_not, wE_chain, nxQ_nx, nxQ_rt, nxQ_ct, nxQ_bk, wS_nil, wS_seq, wS_bk, wS_ct, wS_exp, wS_asg, wS_ret, wS_if, wS_aug, wS_asgG, wS_par, wS_app, wS_setix, wS_augix, wS_for, wA_seq, wA_rng, wE_lc, o_add_ii, o_add_ll, o_addI_ii, o_subI_ii, o_mul_ii, o_mulI_ii, o_mul_li, o_mulL_li, o_fdiv_ii, o_mod_ii, o_pow_ii, o_neg_i, o_cmp_ii, o_eq_ii, o_ne_ii, o_is_nn, o_is_in, o_not_nn, o_not_in, o_ix_lst, o_ix_tup, o_ix_scr, o_at, o_at_neg, o_set, o_rng1, o_rng2, o_seq_lst, o_seq_tup, o_seq_scr, o_enum_lst, o_len_l, o_len_t, o_abs, o_max2, o_min2, o_int_i, o_int_b, o_list_l, o_list_s, o_list_t, o_sum_tl, o_tru_b, o_isi_int_i, o_isi_int_non, o_isi_bool_i, o_isi_list_l, o_gN, o_gT, o_gsNil, o_gsCons, o_cut_l, o_cut_s, wO_some, wR_ok, wR_of, lpQ_nx, lpQ_ct, tl_set, tl_len, tl_cons, tl_snoc, enum_tl, List.getElem?_cons_zero, List.getElem?_cons_succ, List.set_cons_zero, List.set_cons_succ, List.length_cons, List.length_nil, List.length_map, List.length_range, List.cons_append, List.nil_append, List.replicate, Nat.reduceAdd, Nat.reduceSub, Int.toNat_natCast, decide_eq_true_eq, Bool.not_eq_true, Bool.not_true, Bool.not_false, if_true, Bool.false_eq_true, if_false, true_and, and_true, Int.reduceNeg, Int.reduceLE, Int.reduceLT, Nat.reduceLeDiff, Nat.reduceLT, Int.zero_add, Nat.zero_add, Int.sub_zero, ite_true, ite_false, reduceIte, Bool.not_eq_eq_eq_not, o_eq_same (eqk_ints.ok (show 1 ≤ 64 by omega))]
  refine ⟨by omega, lc_tl2 (fun _ => .bl false) ?_ ?_⟩
  · intro x hx
    simp (disch := omega) only [↓wE_var, ↓wE_c, ↓wE_bin, ↓wE_un, ↓wA_nil, ↓wA_cons, ↓wE_app, ↓wE_call, ↓wE_tup, ↓wE_lst, ↓wE_if, ↓wE_isi, ↓wE_sl, ↓wR_oNo, ↓wR_oAt, ↓ex_int, ↓ex_bl, ↓ex_lst, ↓ex_par, ↓wB_val, ↓wB_tru, ↓wB_not, ↓wB_and, ↓wB_or, ↓wB_yes, ↓wE_and, ↓wE_or, ↓wE_not, ↓wE_chain, ↓nxQ_nx, ↓nxQ_rt, ↓nxQ_ct, ↓nxQ_bk, ↓wS_nil, ↓wS_seq, ↓wS_bk, ↓wS_ct, ↓wS_exp, ↓wS_asg, ↓wS_ret, ↓wS_if, ↓wS_aug, ↓wS_asgG, ↓wS_par, ↓wS_app, ↓wS_setix, ↓wS_augix, ↓wS_for, ↓wA_seq, ↓wA_rng, ↓wE_lc, ↓o_add_ii, ↓o_add_ll, ↓o_addI_ii, ↓o_subI_ii, ↓o_mul_ii, ↓o_mulI_ii, ↓o_mul_li, ↓o_mulL_li, ↓o_fdiv_ii, ↓o_mod_ii, ↓o_pow_ii, ↓o_neg_i, ↓o_cmp_ii, ↓o_eq_ii, ↓o_ne_ii, ↓o_is_nn, ↓o_is_in, ↓o_not_nn, ↓o_not_in, ↓o_ix_lst, ↓o_ix_tup, ↓o_ix_scr, ↓o_at, ↓o_at_neg, ↓o_set, ↓o_rng1, ↓o_rng2, ↓o_seq_lst, ↓o_seq_tup, ↓o_seq_scr, ↓o_enum_lst, ↓o_len_l, ↓o_len_t, ↓o_abs, ↓o_max2, ↓o_min2, ↓o_int_i, ↓o_int_b, ↓o_list_l, ↓o_list_s, ↓o_list_t, ↓o_sum_tl, ↓o_tru_b, ↓o_isi_int_i, ↓o_isi_int_non, ↓o_isi_bool_i, ↓o_isi_list_l, ↓o_gN, ↓o_gT, ↓o_gsNil, ↓o_gsCons, ↓o_cut_l, ↓o_cut_s, ↓wO_some, ↓wR_ok, ↓wR_of, ↓lpQ_nx, ↓lpQ_ct, wE_var, wE_c, wE_bin, wE_un, wA_nil, wA_cons, wE_app, wE_call, wE_tup, wE_lst, wE_if, wE_isi, wE_sl, wR_oNo, wR_oAt, ex_int, ex_bl, ex_lst, ex_par, wB_val, wB_tru, wB_not, wB_and, wB_or, wB_yes, wE_and, wE_or, wE_not, wE_chain, nxQ_nx, nxQ_rt, nxQ_ct, nxQ_bk, wS_nil, wS_seq, wS_bk, wS_ct, wS_exp, wS_asg, wS_ret, wS_if, wS_aug, wS_asgG, wS_par, wS_app, wS_setix, wS_augix, wS_for, wA_seq, wA_rng, wE_lc, o_add_ii, o_add_ll, o_addI_ii, o_subI_ii, o_mul_ii, o_mulI_ii, o_mul_li, o_mulL_li, o_fdiv_ii, o_mod_ii, o_pow_ii, o_neg_i, o_cmp_ii, o_eq_ii, o_ne_ii, o_is_nn, o_is_in, o_not_nn, o_not_in, o_ix_lst, o_ix_tup, o_ix_scr, o_at, o_at_neg, o_set, o_rng1, o_rng2, o_seq_lst, o_seq_tup, o_seq_scr, o_enum_lst, o_len_l, o_len_t, o_abs, o_max2, o_min2, o_int_i, o_int_b, o_list_l, o_list_s, o_list_t, o_sum_tl, o_tru_b, o_isi_int_i, o_isi_int_non, o_isi_bool_i, o_isi_list_l, o_gN, o_gT, o_gsNil, o_gsCons, o_cut_l, o_cut_s, wO_some, wR_ok, wR_of, lpQ_nx, lpQ_ct, tl_set, tl_len, tl_cons, tl_snoc, enum_tl, List.getElem?_cons_zero, List.getElem?_cons_succ, List.set_cons_zero, List.set_cons_succ, List.length_cons, List.length_nil, List.length_map, List.length_range, List.cons_append, List.nil_append, List.replicate, Nat.reduceAdd, Nat.reduceSub, Int.toNat_natCast, decide_eq_true_eq, Bool.not_eq_true, Bool.not_true, Bool.not_false, if_true, Bool.false_eq_true, if_false, true_and, and_true, Int.reduceNeg, Int.reduceLE, Int.reduceLT, Nat.reduceLeDiff, Nat.reduceLT, Int.zero_add, Nat.zero_add, Int.sub_zero, ite_true, ite_false, reduceIte, Bool.not_eq_eq_eq_not]
  · rw [o_any_tl (h := fun _ => false) (fun _ _ _ => rfl)]
    simp (disch := omega) only [↓wE_var, ↓wE_c, ↓wE_bin, ↓wE_un, ↓wA_nil, ↓wA_cons, ↓wE_app, ↓wE_call, ↓wE_tup, ↓wE_lst, ↓wE_if, ↓wE_isi, ↓wE_sl, ↓wR_oNo, ↓wR_oAt, ↓ex_int, ↓ex_bl, ↓ex_lst, ↓ex_par, ↓wB_val, ↓wB_tru, ↓wB_not, ↓wB_and, ↓wB_or, ↓wB_yes, ↓wE_and, ↓wE_or, ↓wE_not, ↓wE_chain, ↓nxQ_nx, ↓nxQ_rt, ↓nxQ_ct, ↓nxQ_bk, ↓wS_nil, ↓wS_seq, ↓wS_bk, ↓wS_ct, ↓wS_exp, ↓wS_asg, ↓wS_ret, ↓wS_if, ↓wS_aug, ↓wS_asgG, ↓wS_par, ↓wS_app, ↓wS_setix, ↓wS_augix, ↓wS_for, ↓wA_seq, ↓wA_rng, ↓wE_lc, ↓o_add_ii, ↓o_add_ll, ↓o_addI_ii, ↓o_subI_ii, ↓o_mul_ii, ↓o_mulI_ii, ↓o_mul_li, ↓o_mulL_li, ↓o_fdiv_ii, ↓o_mod_ii, ↓o_pow_ii, ↓o_neg_i, ↓o_cmp_ii, ↓o_eq_ii, ↓o_ne_ii, ↓o_is_nn, ↓o_is_in, ↓o_not_nn, ↓o_not_in, ↓o_ix_lst, ↓o_ix_tup, ↓o_ix_scr, ↓o_at, ↓o_at_neg, ↓o_set, ↓o_rng1, ↓o_rng2, ↓o_seq_lst, ↓o_seq_tup, ↓o_seq_scr, ↓o_enum_lst, ↓o_len_l, ↓o_len_t, ↓o_abs, ↓o_max2, ↓o_min2, ↓o_int_i, ↓o_int_b, ↓o_list_l, ↓o_list_s, ↓o_list_t, ↓o_sum_tl, ↓o_tru_b, ↓o_isi_int_i, ↓o_isi_int_non, ↓o_isi_bool_i, ↓o_isi_list_l, ↓o_gN, ↓o_gT, ↓o_gsNil, ↓o_gsCons, ↓o_cut_l, ↓o_cut_s, ↓wO_some, ↓wR_ok, ↓wR_of, ↓lpQ_nx, ↓lpQ_ct, wE_var, wE_c, wE_bin, wE_un, wA_nil, wA_cons, wE_app, wE_call, wE_tup, wE_lst, wE_if, wE_isi, wE_sl, wR_oNo, wR_oAt, ex_int, ex_bl, ex_lst, ex_par, wB_val, wB_tru, wB_not, wB_and, wB_or, wB_yes, wE_and, wE_or, wE_not, wE_chain, nxQ_nx, nxQ_rt, nxQ_ct, nxQ_bk, wS_nil, wS_seq, wS_bk, wS_ct, wS_exp, wS_asg, wS_ret, wS_if, wS_aug, wS_asgG, wS_par, wS_app, wS_setix, wS_augix, wS_for, wA_seq, wA_rng, wE_lc, o_add_ii, o_add_ll, o_addI_ii, o_subI_ii, o_mul_ii, o_mulI_ii, o_mul_li, o_mulL_li, o_fdiv_ii, o_mod_ii, o_pow_ii, o_neg_i, o_cmp_ii, o_eq_ii, o_ne_ii, o_is_nn, o_is_in, o_not_nn, o_not_in, o_ix_lst, o_ix_tup, o_ix_scr, o_at, o_at_neg, o_set, o_rng1, o_rng2, o_seq_lst, o_seq_tup, o_seq_scr, o_enum_lst, o_len_l, o_len_t, o_abs, o_max2, o_min2, o_int_i, o_int_b, o_list_l, o_list_s, o_list_t, o_sum_tl, o_tru_b, o_isi_int_i, o_isi_int_non, o_isi_bool_i, o_isi_list_l, o_gN, o_gT, o_gsNil, o_gsCons, o_cut_l, o_cut_s, wO_some, wR_ok, wR_of, lpQ_nx, lpQ_ct, tl_set, tl_len, tl_cons, tl_snoc, enum_tl, List.getElem?_cons_zero, List.getElem?_cons_succ, List.set_cons_zero, List.set_cons_succ, List.length_cons, List.length_nil, List.length_map, List.length_range, List.cons_append, List.nil_append, List.replicate, Nat.reduceAdd, Nat.reduceSub, Int.toNat_natCast, decide_eq_true_eq, Bool.not_eq_true, Bool.not_true, Bool.not_false, if_true, Bool.false_eq_true, if_false, true_and, and_true, Int.reduceNeg, Int.reduceLE, Int.reduceLT, Nat.reduceLeDiff, Nat.reduceLT, Int.zero_add, Nat.zero_add, Int.sub_zero, ite_true, ite_false, reduceIte, Bool.not_eq_eq_eq_not]
end L2.DL.K20
set_option Elab.async false
set_option linter.all false
set_option maxRecDepth 100000
set_option autoImplicit false
set_option maxHeartbeats 0
namespace L2.DL.K20
open PySem PySem.Spec PyProof.Rows L2 L2.DL
/-! ### the head: facts by names, the run -/
def q_is_whole : He.DefD := ⟨("is_whole", none), "is_whole", "is_whole", defArgs s_is_whole, defBody s_is_whole, defScope s_is_whole, [], []⟩
def q_are_counts : He.DefD := ⟨("are_counts", none), "are_counts", "are_counts", defArgs s_are_counts, defBody s_are_counts, defScope s_are_counts, [], []⟩
def q_binomials : He.DefD := ⟨("binomials", none), "binomials", "binomials", defArgs s_binomials, defBody s_binomials, defScope s_binomials, [], []⟩
def q_totients : He.DefD := ⟨("totients", none), "totients", "totients", defArgs s_totients, defBody s_totients, defScope s_totients, [], []⟩
def q_product : He.DefD := ⟨("product", none), "product", "product", defArgs s_product, defBody s_product, defScope s_product, [], []⟩
def q_unit : He.DefD := ⟨("unit", none), "unit", "unit", defArgs s_unit, defBody s_unit, defScope s_unit, [], []⟩
def q_powers : He.DefD := ⟨("powers", none), "powers", "powers", defArgs s_powers, defBody s_powers, defScope s_powers, [], []⟩
def q_stretched : He.DefD := ⟨("stretched", none), "stretched", "stretched", defArgs s_stretched, defBody s_stretched, defScope s_stretched, [], []⟩
def q_labelled_members : He.DefD := ⟨("_labelled_members", none), "_labelled_members", "_labelled_members", defArgs s_labelled_members, defBody s_labelled_members, defScope s_labelled_members, [], []⟩
def q_multisets : He.DefD := ⟨("_multisets", none), "_multisets", "_multisets", defArgs s_multisets, defBody s_multisets, defScope s_multisets, [], []⟩
def q_turned_rows : He.DefD := ⟨("turned_rows", none), "turned_rows", "turned_rows", defArgs s_turned_rows, defBody s_turned_rows, defScope s_turned_rows, [], []⟩
def q_members_table : He.DefD := ⟨("members_table", none), "members_table", "members_table", defArgs s_members_table, defBody s_members_table, defScope s_members_table, [], []⟩
def q_summed : He.DefD := ⟨("summed", none), "summed", "summed", defArgs s_summed, defBody s_summed, defScope s_summed, [], []⟩
def q_top_members : He.DefD := ⟨("top_members", none), "top_members", "top_members", defArgs s_top_members, defBody s_top_members, defScope s_top_members, [], []⟩
def q_check : He.DefD := ⟨("_check", none), "_check", "_check", defArgs s_check, defBody s_check, defScope s_check, [], []⟩
def q_made : He.DefD := ⟨("_made", none), "_made", "_made", defArgs s_made, defBody s_made, defScope s_made, [], []⟩
def q_pairs : He.DefD := ⟨("pairs", none), "pairs", "pairs", defArgs s_pairs, defBody s_pairs, defScope s_pairs, [], []⟩
def q_rows : He.DefD := ⟨("rows", none), "rows", "rows", defArgs s_rows, defBody s_rows, defScope s_rows, [], []⟩
def q_sets : He.DefD := ⟨("sets", none), "sets", "sets", defArgs s_sets, defBody s_sets, defScope s_sets, [], []⟩
def q_rings : He.DefD := ⟨("rings", none), "rings", "rings", defArgs s_rings, defBody s_rings, defScope s_rings, [], []⟩
def q_law_draws : He.DefD := ⟨("_law_draws", none), "_law_draws", "_law_draws", defArgs s_law_draws, defBody s_law_draws, defScope s_law_draws, [], []⟩
def q_law_binomial : He.DefD := ⟨("_law_binomial", none), "_law_binomial", "_law_binomial", defArgs s_law_binomial, defBody s_law_binomial, defScope s_law_binomial, [], []⟩
def q_law_rows : He.DefD := ⟨("_law_rows", none), "_law_rows", "_law_rows", defArgs s_law_rows, defBody s_law_rows, defScope s_law_rows, [], []⟩
def q_law_begun : He.DefD := ⟨("_law_begun", none), "_law_begun", "_law_begun", defArgs s_law_begun, defBody s_law_begun, defScope s_law_begun, [], []⟩
def q_law_bag : He.DefD := ⟨("_law_bag", none), "_law_bag", "_law_bag", defArgs s_law_bag, defBody s_law_bag, defScope s_law_bag, [], []⟩
def q_law_common : He.DefD := ⟨("_law_common", none), "_law_common", "_law_common", defArgs s_law_common, defBody s_law_common, defScope s_law_common, [], []⟩
def q_law_turned : He.DefD := ⟨("_law_turned", none), "_law_turned", "_law_turned", defArgs s_law_turned, defBody s_law_turned, defScope s_law_turned, [], []⟩
def q_law_members : He.DefD := ⟨("_law_members", none), "_law_members", "_law_members", defArgs s_law_members, defBody s_law_members, defScope s_law_members, [], []⟩
def q_law : He.DefD := ⟨("law", none), "law", "law", defArgs s_law, defBody s_law, defScope s_law, [], []⟩
def fn : List He.DefD := [q_is_whole, q_are_counts, q_binomials, q_totients, q_product, q_unit, q_powers, q_stretched, q_labelled_members, q_multisets, q_turned_rows, q_members_table, q_summed, q_top_members, q_check, q_made, q_pairs, q_rows, q_sets, q_rings, q_law_draws, q_law_binomial, q_law_rows, q_law_begun, q_law_bag, q_law_common, q_law_turned, q_law_members, q_law]
def fa : List He.Fa := [.glo "is_whole", .glo "are_counts", .glo "binomials", .glo "totients", .glo "product", .glo "unit", .glo "powers", .glo "stretched", .glo "_labelled_members", .glo "_multisets", .glo "turned_rows", .glo "members_table", .glo "summed", .glo "top_members", .glo "_check", .glo "_made", .glo "pairs", .glo "rows", .glo "sets", .glo "rings", .glo "_law_draws", .glo "_law_binomial", .glo "_law_rows", .glo "_law_begun", .glo "_law_bag", .glo "_law_common", .glo "_law_turned", .glo "_law_members", .glo "law", .free "abs", .free "all", .free "any", .free "bool", .free "enumerate", .free "int", .free "isinstance", .free "len", .free "list", .free "max", .free "min", .free "range", .free "sum", .int "MOST_ITEMS" 61, .glo "BadCounts", .exc "BadCounts"]
abbrev Rw : PySem.W.OpenRow := PySem.W.OpenLaw.row PySem.Challenge.rw_speciesmill_k20_pairs_rows_sets_rings
abbrev hk : PySem.W.Hook := He.hookD 4 fa fn
def ob (s : PySem.W.SharedT) : He.AlD := He.obsDG 4 fa fn (HandSHeadRun.getT s)
theorem ob_eq (s : PySem.W.SharedT) : ob s = hk.obs s.abs := He.obsDG_eq (HandSHeadRun.getT_eq s)
def loose : List Str := ["SpeciesError", "BadCounts", "MOST_ITEMS", "is_whole", "are_counts", "binomials", "totients", "product", "unit", "powers", "stretched", "_labelled_members", "_multisets", "turned_rows", "members_table", "summed", "top_members", "_check", "_made", "pairs", "rows", "sets", "rings", "_law_draws", "_law_binomial", "_law_rows", "_law_begun", "_law_bag", "_law_common", "_law_turned", "_law_members"]
theorem run (w : World) : HandSHeadRun.RunEq Rw (PySem.W.view Rw.prog [34]) hk ob 4000 loose w := by
  intro os
  kernel_rfl
def cls (K : PySem.W.Frag) : Nat → Addr
  | 0 => He.ga K "BadCounts"
  | _ => 0
theorem facts {K : PySem.W.Frag} {h : Heap} {mg : Str → Option Value} (X : K.In h) (G : h.Ns mainGlobals mg) (c : He.SaysD fa fn K) : Nonempty (Fx K mg (cls K)) := by
  obtain ⟨d0, F0⟩ := c.def_ 0 (d := q_is_whole) rfl
  obtain ⟨d1, F1⟩ := c.def_ 1 (d := q_are_counts) rfl
  obtain ⟨d2, F2⟩ := c.def_ 2 (d := q_binomials) rfl
  obtain ⟨d3, F3⟩ := c.def_ 3 (d := q_totients) rfl
  obtain ⟨d4, F4⟩ := c.def_ 4 (d := q_product) rfl
  obtain ⟨d5, F5⟩ := c.def_ 5 (d := q_unit) rfl
  obtain ⟨d6, F6⟩ := c.def_ 6 (d := q_powers) rfl
  obtain ⟨d7, F7⟩ := c.def_ 7 (d := q_stretched) rfl
  obtain ⟨d8, F8⟩ := c.def_ 8 (d := q_labelled_members) rfl
  obtain ⟨d9, F9⟩ := c.def_ 9 (d := q_multisets) rfl
  obtain ⟨d10, F10⟩ := c.def_ 10 (d := q_turned_rows) rfl
  obtain ⟨d11, F11⟩ := c.def_ 11 (d := q_members_table) rfl
  obtain ⟨d12, F12⟩ := c.def_ 12 (d := q_summed) rfl
  obtain ⟨d13, F13⟩ := c.def_ 13 (d := q_top_members) rfl
  obtain ⟨d14, F14⟩ := c.def_ 14 (d := q_check) rfl
  obtain ⟨d15, F15⟩ := c.def_ 15 (d := q_made) rfl
  obtain ⟨d16, F16⟩ := c.def_ 16 (d := q_pairs) rfl
  obtain ⟨d17, F17⟩ := c.def_ 17 (d := q_rows) rfl
  obtain ⟨d18, F18⟩ := c.def_ 18 (d := q_sets) rfl
  obtain ⟨d19, F19⟩ := c.def_ 19 (d := q_rings) rfl
  obtain ⟨d20, F20⟩ := c.def_ 20 (d := q_law_draws) rfl
  obtain ⟨d21, F21⟩ := c.def_ 21 (d := q_law_binomial) rfl
  obtain ⟨d22, F22⟩ := c.def_ 22 (d := q_law_rows) rfl
  obtain ⟨d23, F23⟩ := c.def_ 23 (d := q_law_begun) rfl
  obtain ⟨d24, F24⟩ := c.def_ 24 (d := q_law_bag) rfl
  obtain ⟨d25, F25⟩ := c.def_ 25 (d := q_law_common) rfl
  obtain ⟨d26, F26⟩ := c.def_ 26 (d := q_law_turned) rfl
  obtain ⟨d27, F27⟩ := c.def_ 27 (d := q_law_members) rfl
  obtain ⟨d28, F28⟩ := c.def_ 28 (d := q_law) rfl
  exact ⟨⟨He.free_ok X G (c.fact 29 (f := .free "abs") rfl),
    He.free_ok X G (c.fact 30 (f := .free "all") rfl),
    He.free_ok X G (c.fact 31 (f := .free "any") rfl),
    He.free_ok X G (c.fact 32 (f := .free "bool") rfl),
    He.free_ok X G (c.fact 33 (f := .free "enumerate") rfl),
    He.free_ok X G (c.fact 34 (f := .free "int") rfl),
    He.free_ok X G (c.fact 35 (f := .free "isinstance") rfl),
    He.free_ok X G (c.fact 36 (f := .free "len") rfl),
    He.free_ok X G (c.fact 37 (f := .free "list") rfl),
    He.free_ok X G (c.fact 38 (f := .free "max") rfl),
    He.free_ok X G (c.fact 39 (f := .free "min") rfl),
    He.free_ok X G (c.fact 40 (f := .free "range") rfl),
    He.free_ok X G (c.fact 41 (f := .free "sum") rfl),
    He.int_ok X G (c.fact 42 (f := .int "MOST_ITEMS" 61) rfl),
    (have q := He.exc_ok (c.fact 44 (f := .exc "BadCounts") rfl); ⟨q.1, He.glo_ok X G (c.fact 43 (f := .glo "BadCounts") rfl), q.2.1, q.2.2.1, q.2.2.2⟩),
    d0,
    (He5.fun_of F0),
    He.glo_ok X G (c.fact 0 (f := .glo "is_whole") rfl),
    (F0.bindsN fun _ _ _ _ _ _ us hl => match us, hl with | [_], _ => rfl),
    d1,
    (He5.fun_of F1),
    He.glo_ok X G (c.fact 1 (f := .glo "are_counts") rfl),
    (F1.bindsN fun _ _ _ _ _ _ us hl => match us, hl with | [_], _ => rfl),
    d2,
    (He5.fun_of F2),
    He.glo_ok X G (c.fact 2 (f := .glo "binomials") rfl),
    (F2.bindsN fun _ _ _ _ _ _ us hl => match us, hl with | [_], _ => rfl),
    d3,
    (He5.fun_of F3),
    He.glo_ok X G (c.fact 3 (f := .glo "totients") rfl),
    (F3.bindsN fun _ _ _ _ _ _ us hl => match us, hl with | [_], _ => rfl),
    d4,
    (He5.fun_of F4),
    He.glo_ok X G (c.fact 4 (f := .glo "product") rfl),
    (F4.bindsN fun _ _ _ _ _ _ us hl => match us, hl with | [_, _, _], _ => rfl),
    d5,
    (He5.fun_of F5),
    He.glo_ok X G (c.fact 5 (f := .glo "unit") rfl),
    (F5.bindsN fun _ _ _ _ _ _ us hl => match us, hl with | [_], _ => rfl),
    d6,
    (He5.fun_of F6),
    He.glo_ok X G (c.fact 6 (f := .glo "powers") rfl),
    (F6.bindsN fun _ _ _ _ _ _ us hl => match us, hl with | [_, _, _], _ => rfl),
    d7,
    (He5.fun_of F7),
    He.glo_ok X G (c.fact 7 (f := .glo "stretched") rfl),
    (F7.bindsN fun _ _ _ _ _ _ us hl => match us, hl with | [_, _], _ => rfl),
    d8,
    (He5.fun_of F8),
    He.glo_ok X G (c.fact 8 (f := .glo "_labelled_members") rfl),
    (F8.bindsN fun _ _ _ _ _ _ us hl => match us, hl with | [_, _, _], _ => rfl),
    d9,
    (He5.fun_of F9),
    He.glo_ok X G (c.fact 9 (f := .glo "_multisets") rfl),
    (F9.bindsN fun _ _ _ _ _ _ us hl => match us, hl with | [_, _], _ => rfl),
    d10,
    (He5.fun_of F10),
    He.glo_ok X G (c.fact 10 (f := .glo "turned_rows") rfl),
    (F10.bindsN fun _ _ _ _ _ _ us hl => match us, hl with | [_, _, _], _ => rfl),
    d11,
    (He5.fun_of F11),
    He.glo_ok X G (c.fact 11 (f := .glo "members_table") rfl),
    (F11.bindsN fun _ _ _ _ _ _ us hl => match us, hl with | [_, _, _, _], _ => rfl),
    d12,
    (He5.fun_of F12),
    He.glo_ok X G (c.fact 12 (f := .glo "summed") rfl),
    (F12.bindsN fun _ _ _ _ _ _ us hl => match us, hl with | [_, _, _, _], _ => rfl),
    d13,
    (He5.fun_of F13),
    He.glo_ok X G (c.fact 13 (f := .glo "top_members") rfl),
    (F13.bindsN fun _ _ _ _ _ _ us hl => match us, hl with | [_, _], _ => rfl),
    d14,
    (He5.fun_of F14),
    He.glo_ok X G (c.fact 14 (f := .glo "_check") rfl),
    (F14.bindsN fun _ _ _ _ _ _ us hl => match us, hl with | [_, _, _, _], _ => rfl),
    d15,
    (He5.fun_of F15),
    He.glo_ok X G (c.fact 15 (f := .glo "_made") rfl),
    (F15.bindsN fun _ _ _ _ _ _ us hl => match us, hl with | [_, _, _, _, _], _ => rfl),
    d16,
    (He5.fun_of F16),
    He.glo_ok X G (c.fact 16 (f := .glo "pairs") rfl),
    (F16.bindsN fun _ _ _ _ _ _ us hl => match us, hl with | [_, _, _], _ => rfl),
    d17,
    (He5.fun_of F17),
    He.glo_ok X G (c.fact 17 (f := .glo "rows") rfl),
    (F17.bindsN fun _ _ _ _ _ _ us hl => match us, hl with | [_, _, _, _], _ => rfl),
    d18,
    (He5.fun_of F18),
    He.glo_ok X G (c.fact 18 (f := .glo "sets") rfl),
    (F18.bindsN fun _ _ _ _ _ _ us hl => match us, hl with | [_, _, _, _], _ => rfl),
    d19,
    (He5.fun_of F19),
    He.glo_ok X G (c.fact 19 (f := .glo "rings") rfl),
    (F19.bindsN fun _ _ _ _ _ _ us hl => match us, hl with | [_, _, _, _], _ => rfl),
    d20,
    (He5.fun_of F20),
    He.glo_ok X G (c.fact 20 (f := .glo "_law_draws") rfl),
    (F20.bindsN fun _ _ _ _ _ _ us hl => match us, hl with | [_, _], _ => rfl),
    d21,
    (He5.fun_of F21),
    He.glo_ok X G (c.fact 21 (f := .glo "_law_binomial") rfl),
    (F21.bindsN fun _ _ _ _ _ _ us hl => match us, hl with | [_, _], _ => rfl),
    d22,
    (He5.fun_of F22),
    He.glo_ok X G (c.fact 22 (f := .glo "_law_rows") rfl),
    (F22.bindsN fun _ _ _ _ _ _ us hl => match us, hl with | [_, _, _], _ => rfl),
    d23,
    (He5.fun_of F23),
    He.glo_ok X G (c.fact 23 (f := .glo "_law_begun") rfl),
    (F23.bindsN fun _ _ _ _ _ _ us hl => match us, hl with | [_, _], _ => rfl),
    d24,
    (He5.fun_of F24),
    He.glo_ok X G (c.fact 24 (f := .glo "_law_bag") rfl),
    (F24.bindsN fun _ _ _ _ _ _ us hl => match us, hl with | [_, _], _ => rfl),
    d25,
    (He5.fun_of F25),
    He.glo_ok X G (c.fact 25 (f := .glo "_law_common") rfl),
    (F25.bindsN fun _ _ _ _ _ _ us hl => match us, hl with | [_, _], _ => rfl),
    d26,
    (He5.fun_of F26),
    He.glo_ok X G (c.fact 26 (f := .glo "_law_turned") rfl),
    (F26.bindsN fun _ _ _ _ _ _ us hl => match us, hl with | [_, _], _ => rfl),
    d27,
    (He5.fun_of F27),
    He.glo_ok X G (c.fact 27 (f := .glo "_law_members") rfl),
    (F27.bindsN fun _ _ _ _ _ _ us hl => match us, hl with | [_, _, _, _], _ => rfl),
    d28,
    (He5.fun_of F28),
    He.glo_ok X G (c.fact 28 (f := .glo "law") rfl),
    (F28.bindsN fun _ _ _ _ _ _ us hl => match us, hl with | [_], _ => rfl)⟩⟩
theorem law_facts {P : Program} {w : World} {K : PySem.W.Frag} {h : Heap} {mg : Str → Option Value} {f : Addr} (X : K.In h) (G : h.Ns mainGlobals mg) (hfa : mg ("law" : Str) = some (.ref f)) (c : He.SaysD fa fn K) :
    ∃ fd : FuncData, (∀ (s : Shared) (v : Value), BindsTo s fd ⟨[v], []⟩ [("_law_script", v)]) ∧ ∀ base : Heap, K.In base → base.Ns mainGlobals mg → FnOk P w K mg base (L2.CX P w) 25 f fd ["_law_script"] (spD K (cls K) [.s] .s m_law) := by
  obtain ⟨T⟩ := facts X G c
  have e := hfa.symm.trans T.g_law
  cases e
  obtain ⟨fd2, F2⟩ := c.def_ 28 (d := q_law) rfl
  have b := FunD.bindsA (ps := ["_law_script"]) F2 fun _ _ _ _ _ _ us hl => match us, hl with | [_], _ => rfl
  have ee : T.d_law = fd2 := by
    obtain ⟨oc, od, kV, doc, pm, an, cdv, ct, osl, e1, l1, _⟩ := T.F_law.ex
    obtain ⟨oc2, od2, dV2, kV2, doc2, pm2, an2, cdv2, ct2, osl2, e2, l2, _⟩ := F2.ex
    have l3 := l1.symm.trans l2
    simp only [Option.some.injEq, Obj.mk.injEq, Data.func.injEq] at l3
    exact l3.2.2.1
  exact ⟨T.d_law, fun s v => by rw [ee]; exact b s [v] rfl, fun base _ _ => ok_law T⟩
end L2.DL.K20
open PySem PySem.W PySem.Calls PyProof.Rows
theorem PySem.Challenge.cw_speciesmill_k20_pairs_rows_sets_rings_holds : PySem.Challenge.rw_speciesmill_k20_pairs_rows_sets_rings.Holds := by
  w_on; o_law
  refine HandSHeadRun.head_any (r := OpenLaw.row PySem.Challenge.rw_speciesmill_k20_pairs_rows_sets_rings) (q := view (OpenLaw.row PySem.Challenge.rw_speciesmill_k20_pairs_rows_sets_rings).prog [34]) (H := L2.DL.K20.hk) (ob := L2.DL.K20.ob) (M := 4000) (loose := L2.DL.K20.loose) (d := HandSHeadRun.topDef (OpenLaw.row PySem.Challenge.rw_speciesmill_k20_pairs_rows_sets_rings).prog 34) (kwd := []) L2.DL.K20.ob_eq
    (by kernel_rfl) (fun s => by kernel_rfl) L2.DL.K20.run (by kernel_rfl) (by kernel_rfl) (by kernel_rfl) (by rfl) (by first | assumption | decide +kernel) (by decide +kernel) ⟨rfl, rfl, rfl, rfl, rfl, by decide +kernel⟩ ?hw ?hc
  case hw => w_witness2
  case hc =>
    refine L2.DL.walk_ofW (l := PySem.Challenge.rw_speciesmill_k20_pairs_rows_sets_rings) (n := 63) (k := 25) (x := "_law_script") (CX := fun w => L2.CX (PySem.Challenge.rw_speciesmill_k20_pairs_rows_sets_rings).prog w) rfl (by decide) (by kernel_rfl) ⟨rfl, by decide, by decide⟩ ?F (fun _ _ _ _ _ z => L2.DL.cx_end z)
    intro w mg fa h Y G hmg0
    obtain ⟨K, KX, c⟩ := Y
    have hmg : mg ("law" : PySem.Str) = some (.ref fa) := by
      have e : (HandSHeadRun.topDef (OpenLaw.row PySem.Challenge.rw_speciesmill_k20_pairs_rows_sets_rings).prog 34).name = ("law" : PySem.Str) := by kernel_rfl
      rw [← e]
      exact hmg0
    obtain ⟨fd, hb, hF⟩ := L2.DL.K20.law_facts (P := (PySem.Challenge.rw_speciesmill_k20_pairs_rows_sets_rings).prog) (w := w) KX G hmg c
    exact ⟨K, fd, _, KX, hb, fun H a ns hl _ hS => L2.DL.law_end hS (L2.DL.K20.law_true ns hl), hF⟩
