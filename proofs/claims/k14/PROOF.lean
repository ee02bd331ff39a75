import PyProof.Rows.All
import Wide.All
import OpenK.AllK
import Wide.FinOn
import HandS.ForMost
import HandS.ForExc
import HandS.CallSlots
import HandS.TupAny
import HandS.IsInst
import HandS.Flow
import HandS.Style
import HandS.TupLe
import PyProof.NeKinds
import HandS.WordsExc
import HandS.ExcOwn
import HandS.More
import HandS.Small
import HandS.ExcInit
import HandS.ExcIs
import HandS.ExcField
import HandS.Defaults
import PySem.Challenge.RW_laytwice_k14_tools_refused
set_option Elab.async false
set_option linter.all false
set_option maxRecDepth 100000
namespace LT
open PySem PySem.Spec PyProof.Rows L2

/-! ### data, the store, results -/
inductive Dt where
  | non | bl (b : Bool) | int (i : Int) | str (s : List Nat) | tup (xs : List Dt) | rl (xs : List Dt) | ref (i : Nat)
inductive Ob where
  | lst (xs : List Dt) | dk (kvs : List (Dt × Dt)) | ins (c : Nat) (fs : List (Nat × Dt))
abbrev Sto := List Ob
abbrev Lo := List (Option Dt)
inductive Re (α : Type) where
  | ok (a : α) (st : Sto) | exc (c : Nat) (fs : List (Nat × Dt)) (st : Sto) | stuck
inductive Rs where
  | nx (e : Lo) (st : Sto) | rt (d : Dt) (st : Sto) | bk (e : Lo) (st : Sto) | ct (e : Lo) (st : Sto)
  | ex (e : Lo) (c : Nat) (fs : List (Nat × Dt)) (st : Sto) | stuck
def Re.bind {α β : Type} (r : Re α) (f : α → Sto → Re β) : Re β := match r with
  | .ok a st => f a st
  | .exc c fs st => .exc c fs st
  | .stuck => .stuck
theorem Re.bind_ok {α β : Type} (a : α) (st : Sto) (f : α → Sto → Re β) : (Re.ok a st).bind f = f a st := rfl
theorem Re.bind_assoc {α β γ : Type} (r : Re α) (f : α → Sto → Re β) (g : β → Sto → Re γ) : (r.bind f).bind g = r.bind fun a st => (f a st).bind g := by cases r <;> rfl
/-- a result of an expression within a statement -/
def Re.on {α : Type} (r : Re α) (env : Lo) (f : α → Sto → Rs) : Rs := match r with
  | .ok a st => f a st
  | .exc c fs st => .ex env c fs st
  | .stuck => .stuck
theorem Re.on_ok {α : Type} (a : α) (st : Sto) (env : Lo) (f : α → Sto → Rs) : (Re.ok a st).on env f = f a st := rfl
abbrev M (α : Type) := Lo → Sto → Re α
abbrev ME := M Dt
abbrev MT := M Bool
abbrev MA := M (List Dt)
abbrev MS := Lo → Sto → Rs
abbrev MF := List Dt → Sto → Re Dt

/-! ### the tables of a text: classes, fields -/
structure Tb where
  cls : Nat → Addr
  fld : Nat → Str
  inj : ∀ i j, fld i = fld j → i = j

/-! ### what stands for what -/
def SqF (K : PySem.W.Frag) (H : Hp) (a : Addr) (xs : List V) : Prop :=
  (∃ o, H a = some (.frz o (.lst xs))) ∨ ∃ (o : Obj) (its : Array Value) (n : Nat), K.lookup a = some o ∧ o.cls = .type "list" ∧ o.dict = none ∧ o.data = .seq its n ∧ its.size ≤ sizeLine ∧ Vals xs its.toList
theorem SqF.sq {K : PySem.W.Frag} {H : Hp} {a : Addr} {xs : List V} (h : SqF K H a xs) : SqL K H a xs := by
  rcases h with ⟨o, h⟩ | h
  · exact .inl (.inr ⟨o, h⟩)
  · exact .inr h
mutual
inductive RV (K : PySem.W.Frag) (H : Hp) (f : List Addr) : Dt → V → Prop
  | non : RV K H f .non .non
  | bl (b : Bool) : RV K H f (.bl b) (.bl b)
  | int (i : Int) : RV K H f (.int i) (.int i)
  | str (x : Str) : RV K H f (.str x.cps.toList) (.str x)
  | tup {ds : List Dt} {vs : List V} {a : Addr} (h : SqT K H a vs) (r : RVs K H f ds vs) : RV K H f (.tup ds) (.ref a)
  | rl {ds : List Dt} {vs : List V} {a : Addr} (h : SqF K H a vs) (r : RVs K H f ds vs) : RV K H f (.rl ds) (.ref a)
  | ref {i : Nat} {a : Addr} (h : f[i]? = some a) : RV K H f (.ref i) (.ref a)
inductive RVs (K : PySem.W.Frag) (H : Hp) (f : List Addr) : List Dt → List V → Prop
  | nil : RVs K H f [] []
  | cons {d : Dt} {v : V} {ds : List Dt} {vs : List V} (h : RV K H f d v) (t : RVs K H f ds vs) : RVs K H f (d :: ds) (v :: vs)
end
structure Stay (K : PySem.W.Frag) (H H' : Hp) : Prop where
  t : ∀ a xs, SqT K H a xs → SqT K H' a xs
  l : ∀ a xs, SqF K H a xs → SqF K H' a xs
theorem Stay.refl {K : PySem.W.Frag} {H : Hp} : Stay K H H := ⟨fun _ _ h => h, fun _ _ h => h⟩
theorem Stay.trans {K : PySem.W.Frag} {H H1 H2 : Hp} (a : Stay K H H1) (b : Stay K H1 H2) : Stay K H H2 := ⟨fun p xs h => b.t p xs (a.t p xs h), fun p xs h => b.l p xs (a.l p xs h)⟩
/-- one address may change that is no tuple and not locked -/
theorem Stay.but {K : PySem.W.Frag} {H : Hp} {p : Addr} {o : HO} (ht : ∀ xs, H p ≠ some (.tup xs)) (hf : ∀ q u, H p ≠ some (.frz q u)) : Stay K H (upd H p o) := by
  refine ⟨fun a xs h => ?_, fun a xs h => ?_⟩
  · rcases h with (h | ⟨q, h⟩) | h
    · exact .inl (.inl (by rw [upd_ne (fun e => ht xs (by rw [← e]; exact h))]; exact h))
    · exact .inl (.inr ⟨q, by rw [upd_ne (fun e => hf _ _ (by rw [← e]; exact h))]; exact h⟩)
    · exact .inr h
  · rcases h with ⟨q, h⟩ | h
    · exact .inl ⟨q, by rw [upd_ne (fun e => hf _ _ (by rw [← e]; exact h))]; exact h⟩
    · exact .inr h
theorem Stay.new {K : PySem.W.Frag} {H : Hp} {p : Addr} {o : HO} (h : H p = none) : Stay K H (upd H p o) :=
  Stay.but (fun xs e => by rw [h] at e; cases e) (fun q u e => by rw [h] at e; cases e)

section
variable {K : PySem.W.Frag} {H H' : Hp} {f f' : List Addr}
theorem get_pre {i : Nat} {a : Addr} (hp : f <+: f') (h : f[i]? = some a) : f'[i]? = some a := by
  obtain ⟨t, rfl⟩ := hp
  have hl : i < f.length := by
    rcases Nat.lt_or_ge i f.length with g | g
    · exact g
    · rw [List.getElem?_eq_none g] at h; cases h
  rw [List.getElem?_append_left hl]
  exact h
mutual
theorem RV.mono (hp : f <+: f') (s : Stay K H H') : ∀ {d : Dt} {v : V}, RV K H f d v → RV K H' f' d v
  | _, _, .non => .non
  | _, _, .bl b => .bl b
  | _, _, .int i => .int i
  | _, _, .str x => .str x
  | _, _, .tup h r => .tup (s.t _ _ h) (RVs.mono hp s r)
  | _, _, .rl h r => .rl (s.l _ _ h) (RVs.mono hp s r)
  | _, _, .ref h => .ref (get_pre hp h)
theorem RVs.mono (hp : f <+: f') (s : Stay K H H') : ∀ {ds : List Dt} {vs : List V}, RVs K H f ds vs → RVs K H' f' ds vs
  | _, _, .nil => .nil
  | _, _, .cons h t => .cons (RV.mono hp s h) (RVs.mono hp s t)
end
theorem RVs.len : ∀ {ds : List Dt} {vs : List V}, RVs K H f ds vs → ds.length = vs.length
  | _, _, .nil => rfl
  | _, _, .cons _ t => by rw [List.length_cons, List.length_cons, RVs.len t]
theorem RVs.get : ∀ {ds : List Dt} {vs : List V} {i : Nat} {d : Dt}, RVs K H f ds vs → ds[i]? = some d → ∃ v, vs[i]? = some v ∧ RV K H f d v
  | _, _, _, _, .nil, e => by simp at e
  | _, _, 0, _, .cons h _, e => by simp at e; subst e; exact ⟨_, rfl, h⟩
  | _, _, i + 1, _, .cons _ t, e => by
    obtain ⟨v, h1, h2⟩ := RVs.get (i := i) t (by simpa using e)
    exact ⟨v, by simpa using h1, h2⟩
theorem RVs.get' : ∀ {ds : List Dt} {vs : List V} {i : Nat} {v : V}, RVs K H f ds vs → vs[i]? = some v → ∃ d, ds[i]? = some d ∧ RV K H f d v
  | _, _, _, _, .nil, e => by simp at e
  | _, _, 0, _, .cons h _, e => by simp at e; subst e; exact ⟨_, rfl, h⟩
  | _, _, i + 1, _, .cons _ t, e => by
    obtain ⟨v, h1, h2⟩ := RVs.get' (i := i) t (by simpa using e)
    exact ⟨v, by simpa using h1, h2⟩
theorem RVs.app : ∀ {ds es : List Dt} {vs ws : List V}, RVs K H f ds vs → RVs K H f es ws → RVs K H f (ds ++ es) (vs ++ ws)
  | _, _, _, _, .nil, s => s
  | _, _, _, _, .cons h t, s => .cons h (RVs.app t s)
theorem RVs.one {d : Dt} {v : V} (h : RV K H f d v) : RVs K H f [d] [v] := .cons h .nil
theorem RVs.set {d : Dt} {v : V} (r : RV K H f d v) : ∀ {ds : List Dt} {vs : List V} (i : Nat), RVs K H f ds vs → RVs K H f (ds.set i d) (vs.set i v)
  | _, _, _, .nil => .nil
  | _, _, 0, .cons _ t => .cons r t
  | _, _, i + 1, .cons h t => .cons h (RVs.set r i t)
theorem RVs.take : ∀ {ds : List Dt} {vs : List V} (n : Nat), RVs K H f ds vs → RVs K H f (ds.take n) (vs.take n)
  | _, _, 0, _ => .nil
  | _, _, _ + 1, .nil => .nil
  | _, _, n + 1, .cons r t => .cons r (RVs.take n t)
theorem RVs.drop : ∀ {ds : List Dt} {vs : List V} (n : Nat), RVs K H f ds vs → RVs K H f (ds.drop n) (vs.drop n)
  | _, _, 0, r => r
  | _, _, _ + 1, .nil => .nil
  | _, _, n + 1, .cons _ t => RVs.drop n t
theorem RVs.rev : ∀ {ds : List Dt} {vs : List V}, RVs K H f ds vs → RVs K H f ds.reverse vs.reverse
  | _, _, .nil => .nil
  | _, _, .cons h t => by
    rw [List.reverse_cons, List.reverse_cons]
    exact RVs.app (RVs.rev t) (.one h)
end

/-! ### locals, objects, the store -/
structure REn (K : PySem.W.Frag) (H : Hp) (f : List Addr) (env : Lo) (σ : L2.St) : Prop where
  len : env.length = σ.length
  get : ∀ (i : Nat) (d : Dt), env[i]? = some (some d) → ∃ v, σ[i]? = some (some v) ∧ RV K H f d v
inductive FR (K : PySem.W.Frag) (T : Tb) (H : Hp) (f : List Addr) : List (Nat × Dt) → List (Str × V) → Prop
  | nil : FR K T H f [] []
  | cons {i : Nat} {d : Dt} {v : V} {fs : List (Nat × Dt)} {vs : List (Str × V)} (h : RV K H f d v) (t : FR K T H f fs vs) : FR K T H f ((i, d) :: fs) ((T.fld i, v) :: vs)
def KR : Dt → Key → Prop
  | .int i, .inl j => i = j
  | .str s, .inr x => x.cps.toList = s
  | _, _ => False
inductive DR (K : PySem.W.Frag) (H : Hp) (f : List Addr) : List (Dt × Dt) → List (Key × V) → Prop
  | nil : DR K H f [] []
  | cons {k d : Dt} {q : Key} {v : V} {fs : List (Dt × Dt)} {vs : List (Key × V)} (hk : KR k q) (h : RV K H f d v) (t : DR K H f fs vs) : DR K H f ((k, d) :: fs) ((q, v) :: vs)
def RO (K : PySem.W.Frag) (T : Tb) (H : Hp) (f : List Addr) (a : Addr) : Ob → Prop
  | .lst ds => ∃ vs, H a = some (.lst vs) ∧ RVs K H f ds vs
  | .dk kvs => ∃ vs, H a = some (.dK vs) ∧ DR K H f kvs vs
  | .ins c fs => ∃ dx vs, H a = some (.ins (T.cls c) dx vs) ∧ FR K T H f fs vs
structure RH (K : PySem.W.Frag) (T : Tb) (f : List Addr) (H : Hp) (st : Sto) : Prop where
  len : f.length = st.length
  nd : f.Nodup
  obj : ∀ (i : Nat) (o : Ob) (a : Addr), st[i]? = some o → f[i]? = some a → RO K T H f a o
section
variable {K : PySem.W.Frag} {T : Tb} {H H' : Hp} {f f' : List Addr} {env : Lo} {σ : L2.St} {st : Sto}
theorem REn.mono (r : REn K H f env σ) (hp : f <+: f') (s : Stay K H H') : REn K H' f' env σ := ⟨r.len, fun i d e => by
  obtain ⟨v, h1, h2⟩ := r.get i d e
  exact ⟨v, h1, h2.mono hp s⟩⟩
theorem REn.set (r : REn K H f env σ) {i : Nat} {d : Dt} {v : V} (h : RV K H f d v) : REn K H f (env.set i (some d)) (σ.set i (some v)) := ⟨by rw [List.length_set, List.length_set]; exact r.len, fun j e hj => by
  by_cases q : i = j
  · subst q
    have hl : i < env.length := by
      rcases Nat.lt_or_ge i env.length with g | g
      · exact g
      · rw [List.getElem?_eq_none (by rw [List.length_set]; exact g)] at hj; cases hj
    rw [List.getElem?_set_self hl] at hj
    cases hj
    exact ⟨v, List.getElem?_set_self (by rw [← r.len]; exact hl), h⟩
  · rw [List.getElem?_set_ne q] at hj
    obtain ⟨w, h1, h2⟩ := r.get j e hj
    exact ⟨w, by rw [List.getElem?_set_ne q]; exact h1, h2⟩⟩
theorem REn.wipe1 (r : REn K H f env σ) {i : Nat} {x : Option V} : REn K H f (env.set i none) (σ.set i x) := ⟨by rw [List.length_set, List.length_set]; exact r.len, fun j e hj => by
  by_cases q : i = j
  · subst q
    rw [List.getElem?_set] at hj
    split at hj
    · split at hj <;> cases hj
    · exact absurd rfl (by assumption)
  · rw [List.getElem?_set_ne q] at hj
    obtain ⟨w, h1, h2⟩ := r.get j e hj
    exact ⟨w, by rw [List.getElem?_set_ne q]; exact h1, h2⟩⟩
theorem FR.mono (hp : f <+: f') (s : Stay K H H') : ∀ {fs : List (Nat × Dt)} {vs : List (Str × V)}, FR K T H f fs vs → FR K T H' f' fs vs
  | _, _, .nil => .nil
  | _, _, .cons h t => .cons (h.mono hp s) (FR.mono hp s t)
theorem DR.mono (hp : f <+: f') (s : Stay K H H') : ∀ {fs : List (Dt × Dt)} {vs : List (Key × V)}, DR K H f fs vs → DR K H' f' fs vs
  | _, _, .nil => .nil
  | _, _, .cons hk h t => .cons hk (h.mono hp s) (DR.mono hp s t)
theorem RO.keep {a : Addr} {o : Ob} (hp : f <+: f') (s : Stay K H H') (e : H' a = H a) (r : RO K T H f a o) : RO K T H' f' a o := by
  cases o with
  | lst ds => obtain ⟨vs, h1, h2⟩ := r; exact ⟨vs, e.trans h1, h2.mono hp s⟩
  | dk kvs => obtain ⟨vs, h1, h2⟩ := r; exact ⟨vs, e.trans h1, h2.mono hp s⟩
  | ins c fs => obtain ⟨dx, vs, h1, h2⟩ := r; exact ⟨dx, vs, e.trans h1, h2.mono hp s⟩
theorem RO.some {a : Addr} {o : Ob} (r : RO K T H f a o) : ∃ u, H a = some u ∧ (∀ xs, u ≠ .tup xs) ∧ ∀ q w, u ≠ .frz q w := by
  cases o with
  | lst ds => obtain ⟨vs, h1, _⟩ := r; exact ⟨_, h1, fun _ z => HO.noConfusion z, fun _ _ z => HO.noConfusion z⟩
  | dk ds => obtain ⟨vs, h1, _⟩ := r; exact ⟨_, h1, fun _ z => HO.noConfusion z, fun _ _ z => HO.noConfusion z⟩
  | ins c fs => obtain ⟨dx, vs, h1, _⟩ := r; exact ⟨_, h1, fun _ z => HO.noConfusion z, fun _ _ z => HO.noConfusion z⟩
theorem RO.stay {a : Addr} {o : Ob} (r : RO K T H f a o) (u : HO) : Stay K H (upd H a u) := by
  obtain ⟨w, h, h1, h2⟩ := r.some
  exact Stay.but (fun xs e => by rw [h] at e; cases e; exact h1 xs rfl) (fun q v e => by rw [h] at e; cases e; exact h2 q v rfl)
theorem RH.lt (r : RH K T f H st) {i : Nat} {a : Addr} (h : f[i]? = some a) : ∃ o, st[i]? = some o := by
  have hl : i < f.length := by
    rcases Nat.lt_or_ge i f.length with g | g
    · exact g
    · rw [List.getElem?_eq_none g] at h; cases h
  exact ⟨st[i]'(by rw [← r.len]; exact hl), List.getElem?_eq_getElem _⟩
theorem RH.addr (r : RH K T f H st) {i : Nat} {o : Ob} (h : st[i]? = some o) : ∃ a, f[i]? = some a := by
  have hl : i < st.length := by
    rcases Nat.lt_or_ge i st.length with g | g
    · exact g
    · rw [List.getElem?_eq_none g] at h; cases h
  exact ⟨f[i]'(by rw [r.len]; exact hl), List.getElem?_eq_getElem _⟩
theorem RH.fresh (r : RH K T f H st) {p : Addr} (h : H p = none) : p ∉ f := fun hm => by
  obtain ⟨i, hi⟩ := List.mem_iff_getElem?.mp hm
  obtain ⟨o, ho⟩ := r.lt hi
  obtain ⟨u, hu, _⟩ := (r.obj i o p ho hi).some
  rw [h] at hu; cases hu
theorem RH.ne (r : RH K T f H st) {i j : Nat} {a b : Addr} (hi : f[i]? = some a) (hj : f[j]? = some b) (h : i ≠ j) : a ≠ b := fun e => by
  subst e
  obtain ⟨hi1, hi2⟩ := List.getElem?_eq_some_iff.mp hi
  exact h ((List.getElem?_inj hi1 r.nd).mp (hi.trans hj.symm))
/-- a new object -/
theorem RH.new (r : RH K T f H st) {p : Addr} {u : HO} {o : Ob} (h : H p = none) (new : RO K T (upd H p u) (f ++ [p]) p o) : RH K T (f ++ [p]) (upd H p u) (st ++ [o]) := by
  refine ⟨by rw [List.length_append, List.length_append, r.len]; rfl, ?_, fun i w a hi ha => ?_⟩
  · refine List.nodup_append.mpr ⟨r.nd, by simp, fun x hx y hy e => ?_⟩
    have : y = p := by simpa using hy
    subst this; subst e
    exact r.fresh h hx
  · rcases Nat.lt_trichotomy i st.length with g | g | g
    · rw [List.getElem?_append_left g] at hi
      rw [List.getElem?_append_left (by rw [r.len]; exact g)] at ha
      have hne : a ≠ p := fun e => r.fresh h (by rw [← e]; exact List.mem_iff_getElem?.mpr ⟨i, ha⟩)
      exact (r.obj i w a hi ha).keep (List.prefix_append _ _) (Stay.new h) (upd_ne hne)
    · subst g
      rw [List.getElem?_append_right (Nat.le_refl _)] at hi
      rw [← r.len, List.getElem?_append_right (Nat.le_refl _)] at ha
      simp at hi ha
      subst hi; subst ha
      exact new
    · rw [List.getElem?_eq_none (by rw [List.length_append]; exact g)] at hi
      cases hi
/-- an object is written anew -/
theorem RH.put (r : RH K T f H st) {i : Nat} {a : Addr} {u : HO} {o : Ob} (ha : f[i]? = some a) (new : RO K T (upd H a u) f a o) : RH K T f (upd H a u) (st.set i o) := by
  obtain ⟨o0, h0⟩ := r.lt ha
  refine ⟨by rw [List.length_set]; exact r.len, r.nd, fun j w b hj hb => ?_⟩
  by_cases q : i = j
  · subst q
    rw [List.getElem?_set_self (List.getElem?_eq_some_iff.mp h0).1] at hj
    cases hj
    rw [ha] at hb; cases hb
    exact new
  · rw [List.getElem?_set_ne q] at hj
    exact (r.obj j w b hj hb).keep (List.prefix_refl _) ((r.obj i o0 a h0 ha).stay u) (upd_ne (r.ne hb ha (Ne.symm q)))
end

/-! ### exceptions as they are wished for -/
def XR (K : PySem.W.Frag) (T : Tb) (H : Hp) (f : List Addr) (c : Nat) (fs : List (Nat × Dt)) (cls : Value) (d : Option Addr) : Prop :=
  cls = .ref (T.cls c) ∧ ∃ dd vs, d = some dd ∧ H dd = some (.xd vs) ∧ FR K T H f fs vs

/-! ### what is wanted behind a result -/
section
variable (K : PySem.W.Frag) (T : Tb)
abbrev Rel (α β : Type) := Hp → List Addr → α → β → Prop
def Post {α β : Type} (rel : Rel α β) (W : Value → Option Addr → Hp → Prop) (f : List Addr) (H : Hp) (r : Re α) (Q : β → Hp → Prop) : Prop := match r with
  | .ok a st' => ∀ f' H' b, f <+: f' → Stay K H H' → RH K T f' H' st' → rel H' f' a b → Q b H'
  | .exc c fs st' => ∀ f' H' cls d, f <+: f' → Stay K H H' → RH K T f' H' st' → XR K T H' f' c fs cls d → W cls d H'
  | .stuck => False
def PostS (W : WX) (f : List Addr) (H : Hp) (r : Rs) (E : Ends) : Prop := match r with
  | .nx env' st' => ∀ f' H' σ', f <+: f' → Stay K H H' → RH K T f' H' st' → REn K H' f' env' σ' → E.nx σ' H'
  | .bk env' st' => ∀ f' H' σ', f <+: f' → Stay K H H' → RH K T f' H' st' → REn K H' f' env' σ' → E.bk σ' H'
  | .ct env' st' => ∀ f' H' σ', f <+: f' → Stay K H H' → RH K T f' H' st' → REn K H' f' env' σ' → E.ct σ' H'
  | .rt d st' => ∀ f' H' v, f <+: f' → Stay K H H' → RH K T f' H' st' → RV K H' f' d v → E.rt v H'
  | .ex env' c fs st' => ∀ f' H' σ' cls d, f <+: f' → Stay K H H' → RH K T f' H' st' → REn K H' f' env' σ' → XR K T H' f' c fs cls d → W cls d σ' H'
  | .stuck => False
def tG {α β : Type} (rel : Rel α β) (W : WX) (m : M α) : L2.St → Hp → (β → Hp → Prop) → Prop := fun σ H Q =>
  ∃ f env st, REn K H f env σ ∧ RH K T f H st ∧ Post K T rel (fun c d H' => W c d σ H') f H (m env st) Q
def sG (W : WX) (m : MS) : TS := fun E σ H => ∃ f env st, REn K H f env σ ∧ RH K T f H st ∧ PostS K T W f H (m env st) E
end
abbrev rV (K : PySem.W.Frag) : Rel Dt V := RV K
abbrev rVs (K : PySem.W.Frag) : Rel (List Dt) (List V) := RVs K
abbrev rB : Rel Bool Bool := fun _ _ a b => a = b
abbrev IE (X : Cx) (T : Tb) (W : WX) (e : Expr) (m : ME) : Prop := PE X e (tG X.K T (rV X.K) W m)
abbrev IT (X : Cx) (T : Tb) (W : WX) (e : Expr) (m : MT) : Prop := PT X e (tG X.K T rB W m)
abbrev IW (X : Cx) (T : Tb) (W : WX) (e : Expr) (m : MT) : Prop := PW X e (tG X.K T rB W m)
abbrev IA (X : Cx) (T : Tb) (W : WX) (es : List Expr) (m : MA) : Prop := PA X es (tG X.K T (rVs X.K) W m)
abbrev IS (X : Cx) (T : Tb) (W : WX) (s : Stmt) (m : MS) : Prop := PS X s (sG X.K T W m)
abbrev ISs (X : Cx) (T : Tb) (W : WX) (s : List Stmt) (m : MS) : Prop := PSs X s (sG X.K T W m)

theorem PEw {X : Cx} {e : Expr} {t t' : TE} (h : PE X e t) (w : ∀ σ H Q, t' σ H Q → t σ H Q) : PE X e t' := ⟨fun pins s σ H Q I q => h.run pins s σ H Q I (w σ H Q q)⟩
theorem PTw {X : Cx} {e : Expr} {t t' : TT} (h : PT X e t) (w : ∀ σ H Q, t' σ H Q → t σ H Q) : PT X e t' := ⟨fun pins s σ H Q I q => h.run pins s σ H Q I (w σ H Q q)⟩
theorem PWw {X : Cx} {e : Expr} {t t' : TT} (h : PW X e t) (w : ∀ σ H Q, t' σ H Q → t σ H Q) : PW X e t' := ⟨fun wh pins s σ H Q I q => h.run wh pins s σ H Q I (w σ H Q q)⟩
theorem PAw {X : Cx} {e : List Expr} {t t' : TA} (h : PA X e t) (w : ∀ σ H Q, t' σ H Q → t σ H Q) : PA X e t' := ⟨fun pos pins s σ H Q I q => h.run pos pins s σ H Q I (w σ H Q q)⟩
theorem PSw {X : Cx} {e : Stmt} {t t' : TS} (h : PS X e t) (w : ∀ E σ H, t' E σ H → t E σ H) : PS X e t' := ⟨fun pins s σ H E I q => h.run pins s σ H E I (w E σ H q)⟩
theorem PSsw {X : Cx} {e : List Stmt} {t t' : TS} (h : PSs X e t) (w : ∀ E σ H, t' E σ H → t E σ H) : PSs X e t' := ⟨fun pins s σ H E I q => h.run pins s σ H E I (w E σ H q)⟩

section
variable {K : PySem.W.Frag} {T : Tb} {α β γ δ : Type} {rel : Rel α β} {rel2 : Rel γ δ} {W : Value → Option Addr → Hp → Prop} {f f1 : List Addr} {H H1 : Hp}
theorem Post.mono {r : Re α} {Q : β → Hp → Prop} (h : Post K T rel W f H r Q) (hp : f <+: f1) (s : Stay K H H1) : Post K T rel W f1 H1 r Q := by
  cases r with
  | ok a st => exact fun f' H' b p q => h f' H' b (hp.trans p) (s.trans q)
  | exc c fs st => exact fun f' H' cls d p q => h f' H' cls d (hp.trans p) (s.trans q)
  | stuck => exact h
theorem Post.bind {r : Re α} {g : α → Sto → Re γ} {Q : δ → Hp → Prop} {Q1 : β → Hp → Prop} (h : Post K T rel2 W f H (r.bind g) Q)
    (k : ∀ a st1 f1 H1 b, f <+: f1 → Stay K H H1 → RH K T f1 H1 st1 → rel H1 f1 a b → Post K T rel2 W f1 H1 (g a st1) Q → Q1 b H1) : Post K T rel W f H r Q1 := by
  cases r with
  | ok a st => exact fun f' H' b p q rh rb => k a st f' H' b p q rh rb (Post.mono (r := g a st) h p q)
  | exc c fs st => exact h
  | stuck => exact h
/-- a result with one value for sure, nothing changed -/
theorem Post.now {a : α} {b : β} {st : Sto} {Q : β → Hp → Prop} (h : Post K T rel W f H (.ok a st) Q) (rh : RH K T f H st) (rb : rel H f a b) : Q b H := h f H b (List.prefix_refl _) Stay.refl rh rb
theorem Post.new {a : α} {b : β} {st : Sto} {p : Addr} {u : HO} {Q : β → Hp → Prop} (h : Post K T rel W f H (.ok a st) Q) (hp : H p = none) (rh : RH K T (f ++ [p]) (upd H p u) st) (rb : rel (upd H p u) (f ++ [p]) a b) : Q b (upd H p u) :=
  h _ _ b (List.prefix_append _ _) (Stay.new hp) rh rb
theorem PostS.mono {W : WX} {r : Rs} {E : Ends} (h : PostS K T W f H r E) (hp : f <+: f1) (s : Stay K H H1) : PostS K T W f1 H1 r E := by
  cases r with
  | nx e st => exact fun f' H' b p q => h f' H' b (hp.trans p) (s.trans q)
  | bk e st => exact fun f' H' b p q => h f' H' b (hp.trans p) (s.trans q)
  | ct e st => exact fun f' H' b p q => h f' H' b (hp.trans p) (s.trans q)
  | rt e st => exact fun f' H' b p q => h f' H' b (hp.trans p) (s.trans q)
  | ex e c fs st => exact fun f' H' σ' cls d p q => h f' H' σ' cls d (hp.trans p) (s.trans q)
  | stuck => exact h
/-- an expression within a statement -/
theorem PostS.on {W : WX} {env : Lo} {σ : L2.St} {r : Re α} {g : α → Sto → Rs} {E : Ends} {Q1 : β → Hp → Prop} (re : REn K H f env σ) (h : PostS K T W f H (r.on env g) E)
    (k : ∀ a st1 f1 H1 b, f <+: f1 → Stay K H H1 → RH K T f1 H1 st1 → rel H1 f1 a b → REn K H1 f1 env σ → PostS K T W f1 H1 (g a st1) E → Q1 b H1) : Post K T rel (fun c d H' => W c d σ H') f H r Q1 := by
  cases r with
  | ok a st => exact fun f' H' b p q rh rb => k a st f' H' b p q rh rb (re.mono p q) (PostS.mono (r := g a st) h p q)
  | exc c fs st => exact fun f' H' cls d p q rh xr => h f' H' σ cls d p q rh (re.mono p q) xr
  | stuck => exact h
end
end LT
set_option Elab.async false
set_option linter.all false
set_option maxRecDepth 100000
namespace LT
open PySem PySem.Spec PyProof.Rows L2

/-! ### expressions: the words -/
def lim : Nat := 1000000
theorem lim_le {n : Nat} (h : n ≤ lim) : n ≤ sizeLine := Nat.le_trans h (by decide)
theorem lim_lt {n : Nat} (h : n < lim) : n < sizeLine := Nat.lt_of_lt_of_le h (by decide)
def mVar (i : Nat) : ME := fun env st => match env[i]? with
  | some (some d) => .ok d st
  | _ => .stuck
def mC (d : Dt) : ME := fun _ st => .ok d st
def mBin (g : Dt → Dt → Sto → Re Dt) (a b : ME) : ME := fun env st => (a env st).bind fun x st1 => (b env st1).bind fun y st2 => g x y st2
def mUn (g : Dt → Sto → Re Dt) (a : ME) : ME := fun env st => (a env st).bind fun x st1 => g x st1
def mNil : MA := fun _ st => .ok [] st
def mCons (a : ME) (r : MA) : MA := fun env st => (a env st).bind fun x st1 => (r env st1).bind fun xs st2 => .ok (x :: xs) st2
def mCB (g : List Dt → Sto → Re Dt) (a : MA) : ME := fun env st => (a env st).bind g
def mTup (a : MA) : ME := fun env st => (a env st).bind fun xs st1 => if xs.length ≤ lim then .ok (.tup xs) st1 else .stuck
def mLst (a : MA) : ME := fun env st => (a env st).bind fun xs st1 => if xs.length ≤ lim then .ok (.ref st1.length) (st1 ++ [.lst xs]) else .stuck
def isB : Dt → Sto → Re Bool
  | .bl b, st => .ok b st
  | _, _ => .stuck
def mB (a : ME) : MT := fun env st => (a env st).bind isB
def truD : Dt → Sto → Option Bool
  | .non, _ => some false
  | .bl b, _ => some b
  | .int i, _ => some (i != 0)
  | .str s, _ => if s.length ≤ lim then some (!s.isEmpty) else none
  | .tup xs, _ => some (!xs.isEmpty)
  | .rl xs, _ => some (!xs.isEmpty)
  | .ref i, st => match st[i]? with
    | some (.lst xs) => some (!xs.isEmpty)
    | some (.dk xs) => some (!xs.isEmpty)
    | _ => none
def mTru (a : ME) : MT := fun env st => (a env st).bind fun x st1 => match truD x st1 with
  | some b => .ok b st1
  | none => .stuck
def mAnd (a b : MT) : MT := fun env st => (a env st).bind fun x st1 => if x then b env st1 else .ok false st1
def mOr (a b : MT) : MT := fun env st => (a env st).bind fun x st1 => if x then .ok true st1 else b env st1
def mNot (a : MT) : MT := fun env st => (a env st).bind fun x st1 => .ok (!x) st1
def mAndV (a b : ME) : ME := fun env st => (a env st).bind fun x st1 => match x with
  | .bl true => b env st1
  | .bl false => .ok (.bl false) st1
  | _ => .stuck
def mOrV (a b : ME) : ME := fun env st => (a env st).bind fun x st1 => match x with
  | .bl true => .ok (.bl true) st1
  | .bl false => b env st1
  | _ => .stuck
def mNotV (a : ME) : ME := fun env st => (a env st).bind fun x st1 => match x with
  | .bl b => .ok (.bl (!b)) st1
  | _ => .stuck
def mIf (t : MT) (a b : ME) : ME := fun env st => (t env st).bind fun x st1 => if x then a env st1 else b env st1
def mTop (a : MT) : ME := fun env st => (a env st).bind fun x st1 => .ok (.bl x) st1

section
variable {X : Cx} {T : Tb} {W : WX} {a b e : Expr} {es : List Expr} {pos : Pos} {ma mb me : ME} {ms : MA} {ta tb : MT}
theorem RV.str' {K : PySem.W.Frag} {H : Hp} {f : List Addr} {x : Str} {s : List Nat} (h : x.cps.toList = s) : RV K H f (.str s) (.str x) := h ▸ RV.str x
theorem ie_var (i : Nat) {x : Str} (hN : X.N[i]? = some x := by rfl) (hv : Vis X.env.scope x := by first | exact Or.inl rfl | exact Or.inr (Or.inl rfl) | exact Or.inr (Or.inr rfl)) (hd : (x == ("__debug__" : Str)) = false := by decide)
    (hcd : (x == ("__classdict__" : Str)) = false := by decide) : IE X T W (.Name x pos) (mVar i) := PEw (pe_var hN hv hd hcd) fun σ H Q ⟨f, env, st, re, rh, p⟩ => by
  unfold mVar at p
  split at p
  · rename_i d hd
    obtain ⟨v, h1, h2⟩ := re.get _ _ hd
    exact ⟨v, h1, p.now rh h2⟩
  · exact p.elim
theorem ie_int {i : Int} {j} : IE X T W (.Constant (.int i) j pos) (mC (.int i)) := PEw pe_int fun σ H Q ⟨f, env, st, re, rh, p⟩ => p.now rh (.int i)
theorem ie_bl {b : Bool} {j} : IE X T W (.Constant (.bool b) j pos) (mC (.bl b)) := PEw pe_bl fun σ H Q ⟨f, env, st, re, rh, p⟩ => p.now rh (.bl b)
theorem ie_non {j} : IE X T W (.Constant .none j pos) (mC .non) := PEw pe_non fun σ H Q ⟨f, env, st, re, rh, p⟩ => p.now rh .non
theorem ie_str {x : Str} {j} {s : List Nat} (h : x.cps.toList = s) : IE X T W (.Constant (.str x) j pos) (mC (.str s)) := PEw pe_str fun σ H Q ⟨f, env, st, re, rh, p⟩ => p.now rh (.str' h)

/-- an operation on two values -/
def Snd2 (K : PySem.W.Frag) (T : Tb) (r : R2) (g : Dt → Dt → Sto → Re Dt) : Prop := ∀ (f : List Addr) (H : Hp) (st : Sto) (x y : Dt) (vx vy : V) (Wx : Value → Option Addr → Hp → Prop) (Q : VK),
  RH K T f H st → RV K H f x vx → RV K H f y vy → Post K T (rV K) Wx f H (g x y st) Q → r vx vy H Q
theorem ev2 {r : R2} {g : Dt → Dt → Sto → Re Dt} (hg : Snd2 X.K T r g) {σ : L2.St} {H : Hp} {Q : VK} (h : tG X.K T (rV X.K) W (mBin g ma mb) σ H Q) : tOp r (tG X.K T (rV X.K) W ma) (tG X.K T (rV X.K) W mb) σ H Q := by
  obtain ⟨f, env, st, re, rh, p⟩ := h
  exact ⟨f, env, st, re, rh, p.bind fun x st1 f1 H1 vx hp s rh1 rx p1 => ⟨f1, env, st1, re.mono hp s, rh1, p1.bind fun y st2 f2 H2 vy hp2 s2 rh2 ry p2 => hg f2 H2 st2 x y vx vy _ _ rh2 (rx.mono hp2 s2) ry p2⟩⟩
theorem ie_bin {op : Operator} {r : R2} {g : Dt → Dt → Sto → Re Dt} (ho : OpR X (binaryOp op) r) (hg : Snd2 X.K T r g) (ha : IE X T W a ma) (hb : IE X T W b mb) : IE X T W (.BinOp a op b pos) (mBin g ma mb) := PEw (pe_op ho ha hb) fun _ _ _ => ev2 hg
theorem ie_cmp {op : CmpOp} {r : R2} {g : Dt → Dt → Sto → Re Dt} (ho : OpR X (compareOp op) r) (hg : Snd2 X.K T r g) (ha : IE X T W a ma) (hb : IE X T W b mb) (hm : behindInMarks op b = false) : IE X T W (.Compare a [op] [b] pos) (mBin g ma mb) := PEw (pe_cmpR ho ha hb hm) fun _ _ _ => ev2 hg
theorem ie_ix {r : R2} {g : Dt → Dt → Sto → Re Dt} (hr : IxR X r) (hg : Snd2 X.K T r g) (ha : IE X T W a ma) (hb : IE X T W b mb) (hs : PlainIx b := by intro _ _; rfl) : IE X T W (.Subscript a b pos) (mBin g ma mb) := PEw (pe_ix hr ha hb hs) fun _ _ _ => ev2 hg
/-- an operation on one value -/
def Snd1 (K : PySem.W.Frag) (T : Tb) (r : V → Hp → VK → Prop) (g : Dt → Sto → Re Dt) : Prop := ∀ (f : List Addr) (H : Hp) (st : Sto) (x : Dt) (vx : V) (Wx : Value → Option Addr → Hp → Prop) (Q : VK),
  RH K T f H st → RV K H f x vx → Post K T (rV K) Wx f H (g x st) Q → r vx H Q
theorem ie_un {op : UnaryOp} {r : V → Hp → VK → Prop} {g : Dt → Sto → Re Dt} (ho : UnR X (unaryOp op) r) (hg : Snd1 X.K T r g) (ha : IE X T W a ma) : IE X T W (.UnaryOp op a pos) (mUn g ma) := PEw (pe_un ho ha) fun σ H Q ⟨f, env, st, re, rh, p⟩ =>
  ⟨f, env, st, re, rh, p.bind fun x st1 f1 H1 vx hp s rh1 rx p1 => hg f1 H1 st1 x vx _ _ rh1 rx p1⟩
/-! arguments -/
theorem ia_nil : IA X T W [] mNil := PAw pa_nil fun σ H Q ⟨f, env, st, re, rh, p⟩ => p.now rh .nil
theorem ia_cons (ha : IE X T W e me) (hr : IA X T W es ms) (hs : starEach (e :: es) X.env = (false, eval e X.env) :: starEach es X.env := by rfl) : IA X T W (e :: es) (mCons me ms) := PAw (pa_cons ha hr hs) fun σ H Q ⟨f, env, st, re, rh, p⟩ =>
  ⟨f, env, st, re, rh, p.bind fun x st1 f1 H1 vx hp s rh1 rx p1 => ⟨f1, env, st1, re.mono hp s, rh1, p1.bind fun y st2 f2 H2 vy hp2 s2 rh2 ry p2 => p2.now rh2 (RVs.cons (rx.mono hp2 s2) ry)⟩⟩
theorem ie_tup {k} (h : IA X T W es ms) : IE X T W (.Tuple es k pos) (mTup ms) := PEw (pe_tup h) fun σ H Q ⟨f, env, st, re, rh, p⟩ =>
  ⟨f, env, st, re, rh, p.bind fun x st1 f1 H1 vx hp s rh1 rx p1 => by
    split at p1
    · rename_i hl
      refine ⟨by rw [← rx.len]; exact lim_le hl, fun q hq => ?_⟩
      exact p1 f1 _ _ (List.prefix_refl _) (Stay.new hq) ⟨rh1.len, rh1.nd, fun i o a hi ha => (rh1.obj i o a hi ha).keep (List.prefix_refl _) (Stay.new hq) (upd_ne (fun z => rh1.fresh hq (by rw [← z]; exact List.mem_iff_getElem?.mpr ⟨i, ha⟩)))⟩
        (.tup (.inl (.inl upd_same)) (rx.mono (List.prefix_refl _) (Stay.new hq)))
    · exact p1.elim⟩
/-- a new tuple beside the store -/
theorem RH.side {K : PySem.W.Frag} {f : List Addr} {H : Hp} {st : Sto} {p : Addr} {u : HO} (rh : RH K T f H st) (hq : H p = none) : RH K T f (upd H p u) st :=
  ⟨rh.len, rh.nd, fun i o a hi ha => (rh.obj i o a hi ha).keep (List.prefix_refl _) (Stay.new hq) (upd_ne (fun z => rh.fresh hq (by rw [← z]; exact List.mem_iff_getElem?.mpr ⟨i, ha⟩)))⟩
theorem ie_lst (h : IA X T W es ms) : IE X T W (.List es pos) (mLst ms) := PEw (pe_lst h) fun σ H Q ⟨f, env, st, re, rh, p⟩ =>
  ⟨f, env, st, re, rh, p.bind fun x st1 f1 H1 vx hp s rh1 rx p1 => by
    split at p1
    · rename_i hl
      refine ⟨by rw [← rx.len]; exact lim_le hl, fun q hq => p1.new hq (rh1.new hq ⟨_, upd_same, rx.mono (List.prefix_append _ _) (Stay.new hq)⟩) (.ref ?_)⟩
      rw [← rh1.len, List.getElem?_append_right (Nat.le_refl _), Nat.sub_self]
      rfl
    · exact p1.elim⟩
/-! tests -/
theorem it_val (h : IE X T W e me) (he : ∀ whole, isTrue e X.env whole = (do let v ← whole; standAt e.pos; holding [v] (truthy v)) := by intro _; rfl) : IT X T W e (mB me) := PTw (pt_val h he) fun σ H Q ⟨f, env, st, re, rh, p⟩ =>
  ⟨f, env, st, re, rh, p.bind fun x st1 f1 H1 vx hp s rh1 rx p1 => by
    cases rx with
    | bl b => exact ⟨b, rfl, p1.now rh1 rfl⟩
    | _ => exact p1.elim⟩
theorem it_cmp {op : CmpOp} {r : R2} {g : Dt → Dt → Sto → Re Dt} (ho : OpR X (compareOp op) r) (hg : Snd2 X.K T r g) (ha : IE X T W a ma) (hb : IE X T W b mb) (hm : behindInMarks op b = false) : IT X T W (.Compare a [op] [b] pos) (mB (mBin g ma mb)) := PTw (pt_cmpR ho ha hb hm) fun σ H Q ⟨f, env, st, re, rh, p⟩ => by
  have p' : Post X.K T rB (fun c d H' => W c d σ H') f H ((ma env st).bind fun x st1 => (mb env st1).bind fun y st2 => (g x y st2).bind isB) Q := by
    unfold mB mBin at p
    simp only [Re.bind_assoc] at p
    exact p
  exact ⟨f, env, st, re, rh, p'.bind fun x st1 f1 H1 vx hp s rh1 rx p1 => ⟨f1, env, st1, re.mono hp s, rh1, p1.bind fun y st2 f2 H2 vy hp2 s2 rh2 ry p2 => hg f2 H2 st2 x y vx vy _ _ rh2 (rx.mono hp2 s2) ry (p2.bind fun z st3 f3 H3 vz hp3 s3 rh3 rz p3 => by
    cases rz with
    | bl b => exact ⟨b, rfl, p3.now rh3 rfl⟩
    | _ => exact p3.elim)⟩⟩
theorem truV {K : PySem.W.Frag} {f : List Addr} {H : Hp} {st : Sto} {x : Dt} {v : V} {k : Bool} (rh : RH K T f H st) (rx : RV K H f x v) (h : truD x st = some k) : TruV K v H k := by
  cases rx with
  | non => cases h; rfl
  | bl b => cases h; rfl
  | int i => cases h; rfl
  | str x =>
    have h' : (if x.cps.toList.length ≤ lim then some (!x.cps.toList.isEmpty) else none) = some k := h
    split at h'
    · cases h'
      rename_i hl
      refine ⟨by show x.cps.size ≤ _; rw [← Array.length_toList]; exact lim_le hl, ?_⟩
      show (!x.cps.toList.isEmpty) = ((x.cps.size : Int) != 0)
      rw [← Array.length_toList]
      cases x.cps.toList with
      | nil => rfl
      | cons a r => simp; omega
    · cases h'
  | tup hs r => cases h; exact .inr (.inl ⟨_, hs, by cases r <;> rfl⟩)
  | rl hs r => cases h; exact .inl ⟨_, hs.sq, by cases r <;> rfl⟩
  | ref hi =>
    obtain ⟨o, ho⟩ := rh.lt hi
    have r := rh.obj _ o _ ho hi
    cases o with
    | lst xs =>
      simp only [truD, ho] at h
      obtain ⟨vs, h1, h2⟩ := r
      cases h
      exact .inl ⟨_, .inl (.inl h1), by cases h2 <;> rfl⟩
    | dk xs =>
      simp only [truD, ho] at h
      obtain ⟨vs, h1, h2⟩ := r
      cases h
      exact .inr (.inr ⟨_, h1, by cases h2 <;> rfl⟩)
    | ins c fs =>
      simp only [truD, ho] at h
      cases h
theorem it_tru (h : IE X T W e me) (he : ∀ whole, isTrue e X.env whole = (do let v ← whole; standAt e.pos; holding [v] (truthy v)) := by intro _; rfl) : IT X T W e (mTru me) := PTw (pt_truth h he) fun σ H Q ⟨f, env, st, re, rh, p⟩ =>
  ⟨f, env, st, re, rh, p.bind fun x st1 f1 H1 vx hp s rh1 rx p1 => by
    cases ht : truD x st1 with
    | none => rw [ht] at p1; exact p1.elim
    | some k => rw [ht] at p1; exact ⟨k, truV rh1 rx ht, p1.now rh1 rfl⟩⟩
theorem iw_and1 (ha : IT X T W a ta) : IW X T W (.BoolOp .And [a] pos) ta := pw_and1 ha
theorem iw_or1 (ha : IT X T W a ta) : IW X T W (.BoolOp .Or [a] pos) ta := pw_or1 ha
theorem ev_and {σ : L2.St} {H : Hp} {Q : Bool → Hp → Prop} (h : tG X.K T rB W (mAnd ta tb) σ H Q) : tAnd (tG X.K T rB W ta) (tG X.K T rB W tb) σ H Q := by
  obtain ⟨f, env, st, re, rh, p⟩ := h
  refine ⟨f, env, st, re, rh, p.bind fun x st1 f1 H1 vx hp s rh1 rx p1 => ?_⟩
  cases rx
  cases x with
  | true => exact iteT ⟨f1, env, st1, re.mono hp s, rh1, p1⟩
  | false => exact iteF (p1.now rh1 rfl)
theorem ev_or {σ : L2.St} {H : Hp} {Q : Bool → Hp → Prop} (h : tG X.K T rB W (mOr ta tb) σ H Q) : tOr (tG X.K T rB W ta) (tG X.K T rB W tb) σ H Q := by
  obtain ⟨f, env, st, re, rh, p⟩ := h
  refine ⟨f, env, st, re, rh, p.bind fun x st1 f1 H1 vx hp s rh1 rx p1 => ?_⟩
  cases rx
  cases x with
  | true => exact iteT (p1.now rh1 rfl)
  | false => exact iteF ⟨f1, env, st1, re.mono hp s, rh1, p1⟩
theorem iw_and {rest : List Expr} (ha : IT X T W a ta) (hb : IW X T W (.BoolOp .And (b :: rest) pos) tb) : IW X T W (.BoolOp .And (a :: b :: rest) pos) (mAnd ta tb) := PWw (pw_and ha hb) fun _ _ _ => ev_and
theorem iw_or {rest : List Expr} (ha : IT X T W a ta) (hb : IW X T W (.BoolOp .Or (b :: rest) pos) tb) : IW X T W (.BoolOp .Or (a :: b :: rest) pos) (mOr ta tb) := PWw (pw_or ha hb) fun _ _ _ => ev_or
theorem it_w (h : IW X T W e ta) : IT X T W e ta := h.pt
theorem it_not (ha : IT X T W a ta) : IT X T W (.UnaryOp .Not a pos) (mNot ta) := PTw (pt_not ha) fun σ H Q ⟨f, env, st, re, rh, p⟩ =>
  ⟨f, env, st, re, rh, p.bind fun x st1 f1 H1 vx hp s rh1 rx p1 => by cases rx; exact p1.now rh1 rfl⟩
/-! boolean values -/
theorem ie_one {op} (h : IE X T W a ma) : IE X T W (.BoolOp op [a] pos) ma := pe_one h
theorem ie_and {rest : List Expr} (ha : IE X T W a ma) (hb : IE X T W (.BoolOp .And (b :: rest) pos) mb) : IE X T W (.BoolOp .And (a :: b :: rest) pos) (mAndV ma mb) := PEw (pe_and ha hb) fun σ H Q ⟨f, env, st, re, rh, p⟩ =>
  ⟨f, env, st, re, rh, p.bind fun x st1 f1 H1 vx hp s rh1 rx p1 => by
    cases rx with
    | bl k =>
      refine ⟨k, rfl, ?_⟩
      cases k with
      | true => exact iteT ⟨f1, env, st1, re.mono hp s, rh1, p1⟩
      | false => exact iteF (p1.now rh1 (.bl false))
    | _ => exact p1.elim⟩
theorem ie_or {rest : List Expr} (ha : IE X T W a ma) (hb : IE X T W (.BoolOp .Or (b :: rest) pos) mb) : IE X T W (.BoolOp .Or (a :: b :: rest) pos) (mOrV ma mb) := PEw (pe_or ha hb) fun σ H Q ⟨f, env, st, re, rh, p⟩ =>
  ⟨f, env, st, re, rh, p.bind fun x st1 f1 H1 vx hp s rh1 rx p1 => by
    cases rx with
    | bl k =>
      refine ⟨k, rfl, ?_⟩
      cases k with
      | true => exact iteT (p1.now rh1 (.bl true))
      | false => exact iteF ⟨f1, env, st1, re.mono hp s, rh1, p1⟩
    | _ => exact p1.elim⟩
theorem ie_not (ha : IE X T W a ma) : IE X T W (.UnaryOp .Not a pos) (mNotV ma) := PEw (pe_not ha) fun σ H Q ⟨f, env, st, re, rh, p⟩ =>
  ⟨f, env, st, re, rh, p.bind fun x st1 f1 H1 vx hp s rh1 rx p1 => by
    cases rx with
    | bl k => exact ⟨k, rfl, p1.now rh1 (.bl _)⟩
    | _ => exact p1.elim⟩
theorem ie_if {c : Expr} (hc : IT X T W c ta) (ha : IE X T W a ma) (hb : IE X T W b mb) : IE X T W (.IfExp c a b pos) (mIf ta ma mb) := PEw (pe_ifExp hc ha hb) fun σ H Q ⟨f, env, st, re, rh, p⟩ =>
  ⟨f, env, st, re, rh, p.bind fun x st1 f1 H1 vx hp s rh1 rx p1 => by
    cases rx
    cases x with
    | true => exact iteT ⟨f1, env, st1, re.mono hp s, rh1, p1⟩
    | false => exact iteF ⟨f1, env, st1, re.mono hp s, rh1, p1⟩⟩
/-! calls of what is built in -/
def SndC (K : PySem.W.Frag) (T : Tb) (r : List V → Hp → VK → Prop) (g : List Dt → Sto → Re Dt) : Prop := ∀ (f : List Addr) (H : Hp) (st : Sto) (xs : List Dt) (vs : List V) (Wx : Value → Option Addr → Hp → Prop) (Q : VK),
  RH K T f H st → RVs K H f xs vs → Post K T (rV K) Wx f H (g xs st) Q → r vs H Q
theorem evC {r : List V → Hp → VK → Prop} {g : List Dt → Sto → Re Dt} (hg : SndC X.K T r g) {σ : L2.St} {H : Hp} {Q : VK} (h : tG X.K T (rV X.K) W (mCB g ms) σ H Q) : tCB r (tG X.K T (rVs X.K) W ms) σ H Q := by
  obtain ⟨f, env, st, re, rh, p⟩ := h
  exact ⟨f, env, st, re, rh, p.bind fun x st1 f1 H1 vx hp s rh1 rx p1 => hg f1 H1 st1 x vx _ _ rh1 rx p1⟩
theorem ie_callB {id : String} {x : Str} {r : List V → Hp → VK → Prop} {g : List Dt → Sto → Re Dt} {p : Pos} (hc : CallR X (.builtin id) r) (hg : SndC X.K T r g) (hgl : Gl X x) (hm : X.mg x = none) (hv : bootBuiltins x = some (.builtin id)) (ha : IA X T W (e :: es) ms)
    (hn : x ≠ "__name__" := by decide) (hdb : (x == ("__debug__" : Str)) = false := by decide) (he : starEach (e :: es) X.env = (false, eval e X.env) :: starEach es X.env := by rfl) (hpl : (backTo pos (starEach es X.env)).any (·.1) = false := by rfl) :
    IE X T W (.Call (.Name x p) (e :: es) [] pos) (mCB g ms) := PEw (pe_callB hc hgl hm hv ha hn hdb he hpl) fun _ _ _ => evC hg
theorem ie_callTy {Ty : String} {x : Str} {r : List V → Hp → VK → Prop} {g : List Dt → Sto → Re Dt} {p : Pos} (hc : CallR X (.type Ty) r) (hg : SndC X.K T r g) (hgl : Gl X x) (hm : X.mg x = none) (hv : bootBuiltins x = some (.type Ty)) (ha : IA X T W (e :: es) ms)
    (hn : x ≠ "__name__" := by decide) (hdb : (x == ("__debug__" : Str)) = false := by decide) (he : starEach (e :: es) X.env = (false, eval e X.env) :: starEach es X.env := by rfl) (hpl : (backTo pos (starEach es X.env)).any (·.1) = false := by rfl) :
    IE X T W (.Call (.Name x p) (e :: es) [] pos) (mCB g ms) := PEw (pe_callTy hc hgl hm hv ha hn hdb he hpl) fun _ _ _ => evC hg
end
end LT
set_option Elab.async false
set_option linter.all false
set_option maxRecDepth 100000
namespace LT
open PySem PySem.Spec PyProof.Rows L2
section
variable {X : Cx} {T : Tb} {K : PySem.W.Frag}
theorem Post.stuck {α β : Type} {rel : Rel α β} {W : Value → Option Addr → Hp → Prop} {f : List Addr} {H : Hp} {Q : β → Hp → Prop} {C : Prop} (h : Post K T rel W f H (Re.stuck : Re α) Q) : C := h.elim
theorem len_str (x : Str) : x.cps.toList.length = x.length := Array.length_toList
theorem RH.lst {f : List Addr} {H : Hp} {st : Sto} {i : Nat} {a : Addr} {xs : List Dt} (rh : RH K T f H st) (hi : f[i]? = some a) (ho : st[i]? = some (.lst xs)) : ∃ vs, H a = some (.lst vs) ∧ RVs K H f xs vs := rh.obj _ _ _ ho hi
theorem ref_new {f : List Addr} {H : Hp} {st : Sto} {p : Addr} (rh : RH K T f H st) : (f ++ [p])[st.length]? = some p := by
  rw [← rh.len, List.getElem?_append_right (Nat.le_refl _), Nat.sub_self]
  rfl
/-- a new list is told -/
theorem new_lst {f : List Addr} {H : Hp} {st : Sto} {p : Addr} {xs : List Dt} {vs : List V} {W : Value → Option Addr → Hp → Prop} {Q : VK} (h : Post K T (rV K) W f H (.ok (.ref st.length) (st ++ [.lst xs])) Q) (rh : RH K T f H st) (hp : H p = none) (r : RVs K H f xs vs) : Q (.ref p) (upd H p (.lst vs)) :=
  h.new hp (rh.new hp ⟨_, upd_same, r.mono (List.prefix_append _ _) (Stay.new hp)⟩) (.ref (ref_new rh))
/-- a new tuple is told -/
theorem new_tup {f : List Addr} {H : Hp} {st : Sto} {p : Addr} {xs : List Dt} {vs : List V} {W : Value → Option Addr → Hp → Prop} {Q : VK} (h : Post K T (rV K) W f H (.ok (.tup xs) st) Q) (rh : RH K T f H st) (hp : H p = none) (r : RVs K H f xs vs) : Q (.ref p) (upd H p (.tup vs)) :=
  h f _ _ (List.prefix_refl _) (Stay.new hp) (rh.side hp) (.tup (.inl (.inl upd_same)) (r.mono (List.prefix_refl _) (Stay.new hp)))
/-- an object is written -/
theorem put_ob {α β : Type} {rel : Rel α β} {f : List Addr} {H : Hp} {st : Sto} {i : Nat} {a : Addr} {u : HO} {o o0 : Ob} {d : α} {b : β} {W : Value → Option Addr → Hp → Prop} {Q : β → Hp → Prop} (h : Post K T rel W f H (.ok d (st.set i o)) Q) (rh : RH K T f H st) (hi : f[i]? = some a) (ho : st[i]? = some o0)
    (new : RO K T (upd H a u) f a o) (rb : rel (upd H a u) f d b) : Q b (upd H a u) :=
  h f _ _ (List.prefix_refl _) ((rh.obj _ _ _ ho hi).stay u) (rh.put hi new) rb

/-! ### numbers -/
def i2 (g : Int → Int → Dt) : Dt → Dt → Sto → Re Dt
  | .int i, .int j, st => .ok (g i j) st
  | _, _, _ => .stuck
theorem snd_i0 {g : Int → Int → V} {h : Int → Int → Dt} (hg : ∀ i j (H : Hp) f, RV K H f (h i j) (g i j)) : Snd2 K T (rI0 g) (i2 h) := fun f H st x y vx vy Wx Q rh rx ry p => by
  cases rx <;> first | exact p.elim | skip
  cases ry <;> first | exact p.elim | skip
  exact ⟨_, _, rfl, rfl, p.now rh (hg _ _ _ _)⟩
def i2c (c : Int → Int → Bool) (g : Int → Int → Dt) : Dt → Dt → Sto → Re Dt
  | .int i, .int j, st => if c i j then .ok (g i j) st else .stuck
  | _, _, _ => .stuck
theorem snd_ic {C : Int → Int → Prop} {c : Int → Int → Bool} {g : Int → Int → V} {h : Int → Int → Dt} (hc : ∀ i j, c i j = true → C i j) (hg : ∀ i j (H : Hp) f, RV K H f (h i j) (g i j)) : Snd2 K T (rI C g) (i2c c h) := fun f H st x y vx vy Wx Q rh rx ry p => by
  cases rx <;> first | exact p.elim | skip
  cases ry <;> first | exact p.elim | skip
  rename_i i j
  have p' : Post K T (rV K) Wx f H (if c i j then .ok (h i j) st else .stuck) Q := p
  split at p'
  · rename_i q
    exact ⟨_, _, rfl, rfl, hc _ _ q, p'.now rh (hg _ _ _ _)⟩
  · exact p'.elim
def subD := i2 fun i j => .int (i - j)
theorem snd_sub : Snd2 K T (rI0 fun i j => .int (i - j)) subD := snd_i0 fun _ _ _ _ => .int _
def cMul (i j : Int) : Bool := (decide (-(18446744073709551616) < i) && decide (i < 18446744073709551616)) || (decide (-(18446744073709551616) < j) && decide (j < 18446744073709551616))
theorem cMul_ok (i j : Int) (h : cMul i j = true) : CMul i j := by
  unfold cMul at h
  rw [Bool.or_eq_true, Bool.and_eq_true, Bool.and_eq_true] at h
  rcases h with ⟨h1, h2⟩ | ⟨h1, h2⟩
  · exact .inl ⟨of_decide_eq_true h1, of_decide_eq_true h2⟩
  · exact .inr ⟨of_decide_eq_true h1, of_decide_eq_true h2⟩
def mulI := i2c cMul fun i j => .int (i * j)
theorem snd_mulI : Snd2 K T (rI CMul fun i j => .int (i * j)) mulI := snd_ic cMul_ok fun _ _ _ _ => .int _
def fdivD := i2c (fun _ j => decide (0 < j) && decide (j < 1073741824)) fun i j => .int (i / j)
theorem snd_fdiv : Snd2 K T (rI CDiv fun i j => .int (i / j)) fdivD := snd_ic (fun i j h => by
  rw [Bool.and_eq_true] at h
  exact ⟨of_decide_eq_true h.1, of_decide_eq_true h.2⟩) fun _ _ _ _ => .int _
def modD := i2c (fun _ j => decide (0 < j)) fun i j => .int (i % j)
theorem snd_mod : Snd2 K T (rI (fun _ j => 0 < j) fun i j => .int (i % j)) modD := snd_ic (fun i j h => of_decide_eq_true h) fun _ _ _ _ => .int _
def powD := i2c (fun i j => decide (0 ≤ j) && decide (j ≤ 1000) && decide (-(18446744073709551616) < i) && decide (i < 18446744073709551616)) fun i j => .int (i ^ j.toNat)
theorem snd_pow : Snd2 K T (rI CPow fun i j => .int (i ^ j.toNat)) powD := snd_ic (fun i j h => by
  rw [Bool.and_eq_true, Bool.and_eq_true, Bool.and_eq_true] at h
  have h1 := of_decide_eq_true h.1.1.1
  have h2 := of_decide_eq_true h.1.1.2
  have h3 := of_decide_eq_true h.1.2
  have h4 := of_decide_eq_true h.2
  exact ⟨h1, by omega, by show i.natAbs < 18446744073709551616; omega⟩) fun _ _ _ _ => .int _
def ltD := i2 fun i j => .bl (decide (i < j))
def leD := i2 fun i j => .bl (decide (i ≤ j))
def gtD := i2 fun i j => .bl (decide (j < i))
def geD := i2 fun i j => .bl (decide (j ≤ i))
theorem snd_lt : Snd2 K T (rI0 fun i j => .bl (decide (i < j))) ltD := snd_i0 fun _ _ _ _ => .bl _
theorem snd_le : Snd2 K T (rI0 fun i j => .bl (decide (i ≤ j))) leD := snd_i0 fun _ _ _ _ => .bl _
theorem snd_gt : Snd2 K T (rI0 fun i j => .bl (decide (j < i))) gtD := snd_i0 fun _ _ _ _ => .bl _
theorem snd_ge : Snd2 K T (rI0 fun i j => .bl (decide (j ≤ i))) geD := snd_i0 fun _ _ _ _ => .bl _
def negD : Dt → Sto → Re Dt
  | .int i, st => .ok (.int (-i)) st
  | _, _ => .stuck
theorem snd_neg : Snd1 K T (rU fun i => .int (-i)) negD := fun f H st x vx Wx Q rh rx p => by
  cases rx <;> first | exact p.elim | skip
  exact ⟨_, rfl, p.now rh (.int _)⟩
/-! ### plus -/
def addD : Dt → Dt → Sto → Re Dt
  | .int i, .int j, st => .ok (.int (i + j)) st
  | .str a, .str b, st => if a.length + b.length ≤ lim then .ok (.str (a ++ b)) st else .stuck
  | .tup a, .tup b, st => if a.length + b.length ≤ lim then .ok (.tup (a ++ b)) st else .stuck
  | .ref i, .ref j, st => match st[i]?, st[j]? with
    | some (.lst a), some (.lst b) => if a.length + b.length ≤ lim then .ok (.ref st.length) (st ++ [.lst (a ++ b)]) else .stuck
    | _, _ => .stuck
  | _, _, _ => .stuck
def rAddD (K : PySem.W.Frag) : R2 := fun x y H Q => (∃ i j, x = .int i ∧ y = .int j ∧ Q (.int (i + j)) H) ∨ (∃ i j, x = .str i ∧ y = .str j ∧ i.length + j.length ≤ sizeLine ∧ Q (.str (i ++ j)) H) ∨ rCatA K x y H Q ∨ rCat x y H Q
theorem op_addD : OpR X (binaryOp .Add) (rAddD X.K) := OpR.or op_add (OpR.or op_add_str (OpR.or op_catA op_cat))
theorem str_app (a b : Str) : (a ++ b).cps.toList = a.cps.toList ++ b.cps.toList := by
  show (a.cps ++ b.cps).toList = _
  rw [Array.toList_append]
theorem snd_add : Snd2 K T (rAddD K) addD := fun f H st x y vx vy Wx Q rh rx ry p => by
  cases rx with
  | int i =>
    cases ry <;> first | exact p.elim | skip
    exact .inl ⟨_, _, rfl, rfl, p.now rh (.int _)⟩
  | str a =>
    cases ry <;> first | exact p.elim | skip
    rename_i b
    have p' : Post K T (rV K) Wx f H (if a.cps.toList.length + b.cps.toList.length ≤ lim then .ok (.str (a.cps.toList ++ b.cps.toList)) st else .stuck) Q := p
    split at p'
    · rename_i hl
      rw [len_str, len_str] at hl
      exact .inr (.inl ⟨_, _, rfl, rfl, lim_le hl, p'.now rh (.str' (str_app a b))⟩)
    · exact p'.elim
  | @tup as va ha hs1 r1 =>
    cases ry <;> first | exact p.elim | skip
    rename_i bs vb hb hs2 r2
    have p' : Post K T (rV K) Wx f H (if as.length + bs.length ≤ lim then .ok (.tup (as ++ bs)) st else .stuck) Q := p
    split at p'
    · rename_i hl
      rw [r1.len, r2.len] at hl
      refine .inr (.inr (.inl ⟨_, _, _, _, rfl, rfl, hs1, hs2, lim_le hl, fun z => ?_, fun z z2 => ?_, fun z z2 q hq => ?_⟩))
      · subst z; cases r1
        exact p'.now rh (.tup hs2 r2)
      · subst z2; cases r2
        rw [List.append_nil] at p'
        exact p'.now rh (.tup hs1 r1)
      · exact new_tup p' rh hq (r1.app r2)
    · exact p'.elim
  | @ref i a hi =>
    cases ry <;> first | exact p.elim | skip
    rename_i j b hj
    obtain ⟨o, ho⟩ := rh.lt hi
    obtain ⟨o2, ho2⟩ := rh.lt hj
    simp only [addD, ho, ho2] at p
    cases o <;> first | exact p.elim | skip
    cases o2 <;> first | exact p.elim | skip
    rename_i xs ys
    simp only at p
    obtain ⟨vs, h1, h2⟩ := rh.lst hi ho
    obtain ⟨ws, h3, h4⟩ := rh.lst hj ho2
    split at p
    · rename_i hl
      rw [h2.len, h4.len] at hl
      exact .inr (.inr (.inr ⟨_, _, _, _, rfl, rfl, h1, h3, lim_le hl, fun q hq => new_lst p rh hq (h2.app h4)⟩))
    · exact p.elim
  | _ => exact p.elim
theorem snd_mono {r r' : R2} {g : Dt → Dt → Sto → Re Dt} (h : Snd2 K T r g) (hr : ∀ x y H Q, r x y H Q → r' x y H Q) : Snd2 K T r' g := fun f H st x y vx vy Wx Q rh rx ry p => hr _ _ _ _ (h f H st x y vx vy Wx Q rh rx ry p)
/-! ### times -/
def repL (n : Nat) (xs : List Dt) : List Dt := (List.replicate n xs).flatten
theorem RVs.rep {f : List Addr} {H : Hp} {xs : List Dt} {vs : List V} (r : RVs K H f xs vs) : ∀ n, RVs K H f (repL n xs) (List.replicate n vs).flatten
  | 0 => .nil
  | n + 1 => by
    unfold repL
    rw [List.replicate_succ, List.replicate_succ, List.flatten_cons, List.flatten_cons]
    exact r.app (RVs.rep r n)
def mulD : Dt → Dt → Sto → Re Dt
  | .int i, .int j, st => if cMul i j then .ok (.int (i * j)) st else .stuck
  | .ref i, .int k, st => match st[i]? with
    | some (.lst a) => if -1000000 ≤ k ∧ k ≤ 1000000 ∧ a.length * k.toNat ≤ lim then .ok (.ref st.length) (st ++ [.lst (repL k.toNat a)]) else .stuck
    | _ => .stuck
  | _, _, _ => .stuck
def rMulD : R2 := fun x y H Q => rI CMul (fun i j => .int (i * j)) x y H Q ∨ rRep x y H Q
theorem op_mulD : OpR X (binaryOp .Mult) rMulD := OpR.or op_mul op_rep
theorem snd_mul : Snd2 K T rMulD mulD := fun f H st x y vx vy Wx Q rh rx ry p => by
  cases rx with
  | int i =>
    cases ry <;> first | exact p.elim | skip
    exact .inl (snd_mulI f H st _ _ _ _ Wx Q rh (.int i) (.int _) p)
  | @ref i a hi =>
    cases ry <;> first | exact p.elim | skip
    rename_i k
    obtain ⟨o, ho⟩ := rh.lt hi
    simp only [mulD, ho] at p
    cases o <;> first | exact p.elim | skip
    rename_i xs
    simp only at p
    obtain ⟨vs, h1, h2⟩ := rh.lst hi ho
    split at p
    · rename_i hl
      obtain ⟨l1, l2, l3⟩ := hl
      rw [h2.len] at l3
      exact .inr ⟨_, _, _, rfl, rfl, h1, by omega, by omega, lim_le l3, fun q hq => new_lst p rh hq (h2.rep _)⟩
    · exact p.elim
  | _ => exact p.elim
end
end LT
set_option Elab.async false
set_option linter.all false
set_option maxRecDepth 100000
namespace LT
open PySem PySem.Spec PyProof.Rows L2
/-! ### equality -/
section
variable {X : Cx} {T : Tb} {K : PySem.W.Frag}
def toP : Nat → Sto → Dt → Option PyData
  | 0, _, _ => none
  | n + 1, st, d => match d with
    | .non => some .none
    | .bl b => some (.bool b)
    | .int i => some (.int i)
    | .str s => some (.str ⟨s.toArray⟩)
    | .tup xs => (xs.mapM (toP n st)).map .tuple
    | .rl xs => (xs.mapM (toP n st)).map .list
    | .ref i => match st[i]? with
      | some (.lst xs) => (xs.mapM (toP n st)).map .list
      | _ => none
theorem str_eta (x : Str) : (⟨x.cps.toList.toArray⟩ : Str) = x := by
  cases x; simp
theorem toP_all {f : List Addr} {H : Hp} {st : Sto} {n : Nat} (ih : ∀ (d : Dt) (v : V) (p : PyData), RV K H f d v → toP n st d = some p → Dp K H v p) : ∀ (xs : List Dt) (vs : List V) (ps : List PyData), RVs K H f xs vs → xs.mapM (toP n st) = some ps → DpAll K H vs ps
  | [], _, ps, .nil, h => by
    simp at h; subst h; exact .nil
  | d :: ds, _, ps, .cons r t, h => by
    rw [List.mapM_cons] at h
    cases h1 : toP n st d with
    | none => rw [h1] at h; cases h
    | some p =>
      rw [h1] at h
      cases h2 : ds.mapM (toP n st) with
      | none => rw [h2] at h; cases h
      | some q =>
        rw [h2] at h
        cases h
        exact .cons (ih _ _ _ r h1) (toP_all ih ds _ q t h2)
theorem toP_ok {f : List Addr} {H : Hp} {st : Sto} (rh : RH K T f H st) : ∀ (n : Nat) (d : Dt) (v : V) (p : PyData), RV K H f d v → toP n st d = some p → Dp K H v p
  | 0, _, _, _, _, h => by cases h
  | n + 1, d, v, p, r, h => by
    have ih := toP_ok rh n
    cases r with
    | non => cases h; exact .non
    | bl b => cases h; exact .bl b
    | int i => cases h; exact .int i
    | str x =>
      have e : p = .str x := by
        have h' : some (PyData.str ⟨x.cps.toList.toArray⟩) = some p := h
        rw [str_eta] at h'
        exact (Option.some.inj h').symm
      subst e
      exact .str x
    | @tup ds vs a hs r =>
      have h' : (ds.mapM (toP n st)).map PyData.tuple = some p := h
      cases h2 : ds.mapM (toP n st) with
      | none => rw [h2] at h'; cases h'
      | some q => rw [h2] at h'; cases h'; exact .tup hs (toP_all ih _ _ _ r h2)
    | @rl ds vs a hs r =>
      have h' : (ds.mapM (toP n st)).map PyData.list = some p := h
      cases h2 : ds.mapM (toP n st) with
      | none => rw [h2] at h'; cases h'
      | some q => rw [h2] at h'; cases h'; exact .lst hs.sq (toP_all ih _ _ _ r h2)
    | @ref i a hi =>
      obtain ⟨o, ho⟩ := rh.lt hi
      simp only [toP, ho] at h
      cases o with
      | lst xs =>
        obtain ⟨vs, h3, r⟩ := rh.lst hi ho
        have h' : (xs.mapM (toP n st)).map PyData.list = some p := h
        cases h2 : xs.mapM (toP n st) with
        | none => rw [h2] at h'; cases h'
        | some q => rw [h2] at h'; cases h'; exact .lst (.inl (.inl h3)) (toP_all ih _ _ _ r h2)
      | _ => cases h
/-- lists by their lengths -/
def lenL : Dt → Sto → Option Nat
  | .rl xs, _ => some xs.length
  | .ref i, st => match st[i]? with
    | some (.lst xs) => some xs.length
    | _ => none
  | _, _ => none
theorem lenL_ok {f : List Addr} {H : Hp} {st : Sto} {d : Dt} {v : V} {n : Nat} (rh : RH K T f H st) (r : RV K H f d v) (h : lenL d st = some n) : ∃ a xs, v = .ref a ∧ SqL K H a xs ∧ xs.length = n := by
  cases r with
  | @rl ds vs a hs r => cases h; exact ⟨_, _, rfl, hs.sq, r.len.symm⟩
  | @ref i a hi =>
    obtain ⟨o, ho⟩ := rh.lt hi
    simp only [lenL, ho] at h
    cases o with
    | lst xs => cases h; obtain ⟨vs, h3, r⟩ := rh.lst hi ho; exact ⟨_, _, rfl, .inl (.inl h3), r.len.symm⟩
    | _ => cases h
  | _ => cases h
def eqB (x y : Dt) (st : Sto) : Option Bool := match x, y with
  | .str a, .str b => some (decide (a = b))
  | .int i, .int j => some (decide (i = j))
  | .bl a, .bl b => some (decide (a = b))
  | .non, .non => some true
  | .non, .str _ => some false
  | .str _, .non => some false
  | .non, .int _ => some false
  | .int _, .non => some false
  | x, y => match lenL x st, lenL y st with
    | some m, some n => if m = n then eqP x y st else some false
    | _, _ => eqP x y st
where eqP (x y : Dt) (st : Sto) : Option Bool := match toP 40 st x, toP 40 st y with
    | some a, some b => if SeqAt.shaped a && SeqAt.shaped b then some (PyData.eqv a b) else none
    | _, _ => none
def rLens (K : PySem.W.Frag) (b : Bool) : R2 := fun x y H Q => ∃ p q xs ys, x = .ref p ∧ y = .ref q ∧ SqL K H p xs ∧ SqL K H q ys ∧ xs.length ≠ ys.length ∧ Q (.bl b) H
theorem op_lens (hu : X.A.units < cLine) : OpR X (compareOp .Eq) (rLens X.K false) := by
  intro pins s σ H x y v u Q I rx ry h
  obtain ⟨p, q, xs, ys, rfl, rfl, h1, h2, hl, hq⟩ := h
  cases rx; cases ry
  obtain ⟨i1, r1, t1, _⟩ := I.list h1
  obtain ⟨i2, r2, t2, _⟩ := I.list h2
  refine SeqAt.eq_list_lengthsAt t1.isList t2.isList ?_ hu ⟨.bl false, H, I, rfl, hq⟩
  rw [List.size_toArray, List.size_toArray, ← r1.length, ← r2.length]
  simpa using hl
theorem op_lensN (hu : X.A.units < cLine) : OpR X (compareOp .NotEq) (rLens X.K true) := by
  intro pins s σ H x y v u Q I rx ry h
  obtain ⟨p, q, xs, ys, rfl, rfl, h1, h2, hl, hq⟩ := h
  cases rx; cases ry
  obtain ⟨i1, r1, t1, _⟩ := I.list h1
  obtain ⟨i2, r2, t2, _⟩ := I.list h2
  refine SeqAt.RcNeAt.lists_lengths t1.isList t2.isList ?_ hu _ _ _ _ ⟨.bl true, H, I, rfl, hq⟩
  rw [List.size_toArray, List.size_toArray, ← r1.length, ← r2.length]
  simpa using hl
def rEqA (K : PySem.W.Frag) : R2 := fun x y H Q => rEq x y H Q ∨ rLens K false x y H Q ∨ rEqD K x y H Q
def rNeA (K : PySem.W.Frag) : R2 := fun x y H Q => rNe x y H Q ∨ rLens K true x y H Q ∨ rNeD K x y H Q
theorem op_eqA (hu : X.A.units + 64 < cLine) : OpR X (compareOp .Eq) (rEqA X.K) := OpR.or op_eq (OpR.or (op_lens (by omega)) (op_eqD hu))
theorem op_neA (hu : X.A.units + 64 < cLine) : OpR X (compareOp .NotEq) (rNeA X.K) := OpR.or op_ne (OpR.or (op_lensN (by omega)) (op_neD hu))
theorem dec_strL (a b : Str) : decide (V.str a = V.str b) = decide (a.cps.toList = b.cps.toList) := by
  by_cases h : a = b
  · subst h; simp
  · rw [decide_eq_false (fun z => h (V.str.inj z)), decide_eq_false (fun z => h ?_)]
    have z' : a.cps = b.cps := Array.toList_inj.mp z
    cases a; cases b; simp at z'; rw [z']
/-- the ways two values are compared -/
theorem eqB_ways {f : List Addr} {H : Hp} {st : Sto} {x y : Dt} {vx vy : V} {b : Bool} (rh : RH K T f H st) (rx : RV K H f x vx) (ry : RV K H f y vy) (h : eqB x y st = some b) :
    (scal vx vy = true ∧ decide (vx = vy) = b) ∨ (b = false ∧ ∃ p q xs ys, vx = .ref p ∧ vy = .ref q ∧ SqL K H p xs ∧ SqL K H q ys ∧ xs.length ≠ ys.length) ∨ ∃ d e, Dp K H vx d ∧ Dp K H vy e ∧ SeqAt.shaped d = true ∧ SeqAt.shaped e = true ∧ PyData.eqv d e = b := by
  have deep : eqB.eqP x y st = some b → ∃ d e, Dp K H vx d ∧ Dp K H vy e ∧ SeqAt.shaped d = true ∧ SeqAt.shaped e = true ∧ PyData.eqv d e = b := fun h => by
    unfold eqB.eqP at h
    split at h
    · rename_i d e h1 h2
      split at h
      · rename_i hs
        rw [Bool.and_eq_true] at hs
        cases h
        exact ⟨d, e, toP_ok rh _ _ _ _ rx h1, toP_ok rh _ _ _ _ ry h2, hs.1, hs.2, rfl⟩
      · cases h
    · cases h
  have gen : (match lenL x st, lenL y st with
    | some m, some n => if m = n then eqB.eqP x y st else some false
    | _, _ => eqB.eqP x y st) = some b → (b = false ∧ ∃ p q xs ys, vx = .ref p ∧ vy = .ref q ∧ SqL K H p xs ∧ SqL K H q ys ∧ xs.length ≠ ys.length) ∨ ∃ d e, Dp K H vx d ∧ Dp K H vy e ∧ SeqAt.shaped d = true ∧ SeqAt.shaped e = true ∧ PyData.eqv d e = b := fun h => by
    split at h
    · rename_i m n h1 h2
      split at h
      · exact .inr (deep h)
      · rename_i hne
        cases h
        obtain ⟨a1, xs, e1, q1, l1⟩ := lenL_ok rh rx h1
        obtain ⟨a2, ys, e2, q2, l2⟩ := lenL_ok rh ry h2
        exact .inl ⟨rfl, _, _, _, _, e1, e2, q1, q2, by rw [l1, l2]; exact hne⟩
    · exact .inr (deep h)
  unfold eqB at h
  split at h
  · cases rx; cases ry; cases h; exact .inl ⟨rfl, dec_strL _ _⟩
  · cases rx; cases ry; cases h; exact .inl ⟨rfl, by rw [dec_int]; simp [BEq.beq]⟩
  · cases rx; cases ry; cases h; exact .inl ⟨rfl, by rw [dec_bl]; simp [BEq.beq]⟩
  · cases rx; cases ry; cases h; exact .inl ⟨rfl, rfl⟩
  · cases rx; cases ry; cases h; exact .inl ⟨rfl, rfl⟩
  · cases rx; cases ry; cases h; exact .inl ⟨rfl, rfl⟩
  · cases rx; cases ry; cases h; exact .inl ⟨rfl, rfl⟩
  · cases rx; cases ry; cases h; exact .inl ⟨rfl, rfl⟩
  · exact .inr (gen h)
def eqD (x y : Dt) (st : Sto) : Re Dt := match eqB x y st with
  | some b => .ok (.bl b) st
  | none => .stuck
def neD (x y : Dt) (st : Sto) : Re Dt := match eqB x y st with
  | some b => .ok (.bl (!b)) st
  | none => .stuck
theorem snd_eq : Snd2 K T (rEqA K) eqD := fun f H st x y vx vy Wx Q rh rx ry p => by
  unfold eqD at p
  split at p
  · rename_i b hb
    have q : Q (.bl b) H := p.now rh (.bl b)
    rcases eqB_ways rh rx ry hb with ⟨h1, h2⟩ | ⟨rfl, p1, q1, xs, ys, e1, e2, h1, h2, hl⟩ | ⟨d, e, h1, h2, h3, h4, h5⟩
    · exact .inl ⟨h1, by rw [h2]; exact q⟩
    · exact .inr (.inl ⟨p1, q1, xs, ys, e1, e2, h1, h2, hl, q⟩)
    · exact .inr (.inr ⟨d, e, h1, h2, h3, h4, by rw [h5]; exact q⟩)
  · exact p.elim
theorem snd_ne : Snd2 K T (rNeA K) neD := fun f H st x y vx vy Wx Q rh rx ry p => by
  unfold neD at p
  split at p
  · rename_i b hb
    have q : Q (.bl (!b)) H := p.now rh (.bl _)
    rcases eqB_ways rh rx ry hb with ⟨h1, h2⟩ | ⟨rfl, p1, q1, xs, ys, e1, e2, h1, h2, hl⟩ | ⟨d, e, h1, h2, h3, h4, h5⟩
    · exact .inl ⟨h1, by rw [h2]; exact q⟩
    · exact .inr (.inl ⟨p1, q1, xs, ys, e1, e2, h1, h2, hl, q⟩)
    · exact .inr (.inr ⟨d, e, h1, h2, h3, h4, by rw [h5]; exact q⟩)
  · exact p.elim
/-! ### is None, is True -/
def isNonD : Dt → Dt → Sto → Re Dt
  | x, .non, st => .ok (.bl (match x with | .non => true | _ => false)) st
  | .bl a, .bl b, st => .ok (.bl (a == b)) st
  | _, _, _ => .stuck
def isNotD : Dt → Dt → Sto → Re Dt
  | x, .non, st => .ok (.bl (match x with | .non => false | _ => true)) st
  | .bl a, .bl b, st => .ok (.bl (!(a == b))) st
  | _, _, _ => .stuck
def rIsA : R2 := fun x y H Q => (y = .non ∧ Q (.bl (decide (x = .non))) H) ∨ ∃ a b, x = .bl a ∧ y = .bl b ∧ Q (.bl (decide (a = b))) H
def rIsNotA : R2 := fun x y H Q => (y = .non ∧ Q (.bl (!decide (x = .non))) H) ∨ ∃ a b, x = .bl a ∧ y = .bl b ∧ Q (.bl (!decide (a = b))) H
theorem op_isA : OpR X (compareOp .Is) rIsA := OpR.or op_isN op_is_bl
theorem op_isNotA : OpR X (compareOp .IsNot) rIsNotA := OpR.or op_notN op_isnot_bl
theorem snd_is : Snd2 K T rIsA isNonD := fun f H st x y vx vy Wx Q rh rx ry p => by
  cases ry with
  | non =>
    refine .inl ⟨rfl, ?_⟩
    cases rx <;> exact p.now rh (.bl _)
  | bl b =>
    cases rx <;> first | exact p.elim | skip
    rename_i a
    refine .inr ⟨_, _, rfl, rfl, ?_⟩
    have := p.now rh (.bl (a == b))
    rwa [Bool.beq_eq_decide_eq] at this
  | _ => cases rx <;> exact p.elim
theorem snd_isNot : Snd2 K T rIsNotA isNotD := fun f H st x y vx vy Wx Q rh rx ry p => by
  cases ry with
  | non =>
    refine .inl ⟨rfl, ?_⟩
    cases rx <;> exact p.now rh (.bl _)
  | bl b =>
    cases rx <;> first | exact p.elim | skip
    rename_i a
    refine .inr ⟨_, _, rfl, rfl, ?_⟩
    have := p.now rh (.bl (!(a == b)))
    rwa [Bool.beq_eq_decide_eq] at this
  | _ => cases rx <;> exact p.elim
end
end LT
set_option Elab.async false
set_option linter.all false
set_option maxRecDepth 100000
namespace LT
open PySem PySem.Spec PyProof.Rows L2
section
variable {X : Cx} {T : Tb} {K : PySem.W.Frag} {W : WX}
/-! ### sequences -/
def seqD : Dt → Sto → Option (List Dt)
  | .tup xs, _ => some xs
  | .rl xs, _ => some xs
  | .ref i, st => match st[i]? with
    | some (.lst xs) => some xs
    | _ => none
  | _, _ => none
theorem seqD_ok {f : List Addr} {H : Hp} {st : Sto} {d : Dt} {v : V} {xs : List Dt} (rh : RH K T f H st) (r : RV K H f d v) (h : seqD d st = some xs) : ∃ a vs, v = .ref a ∧ (SqL K H a vs ∨ SqT K H a vs) ∧ RVs K H f xs vs := by
  cases r with
  | @tup ds vs a hs r => cases h; exact ⟨_, _, rfl, .inr hs, r⟩
  | @rl ds vs a hs r => cases h; exact ⟨_, _, rfl, .inl hs.sq, r⟩
  | @ref i a hi =>
    obtain ⟨o, ho⟩ := rh.lt hi
    simp only [seqD, ho] at h
    cases o with
    | lst ys => cases h; obtain ⟨vs, h3, r⟩ := rh.lst hi ho; exact ⟨_, _, rfl, .inl (.inl (.inl h3)), r⟩
    | _ => cases h
  | _ => cases h
def flatD : Dt → Bool
  | .non => true
  | .bl _ => true
  | .int _ => true
  | .str _ => true
  | _ => false
def eqFl : Dt → Dt → Bool
  | .non, .non => true
  | .bl a, .bl b => a == b
  | .bl a, .int b => (if a then 1 else 0) == b
  | .int a, .bl b => a == (if b then 1 else 0)
  | .int a, .int b => a == b
  | .str a, .str b => a == b
  | _, _ => false
theorem flat_ok {f : List Addr} {H : Hp} {d : Dt} {v : V} (r : RV K H f d v) (h : flatD d = true) : flatV v = true := by
  cases r <;> first | rfl | cases h
theorem flat_all {f : List Addr} {H : Hp} : ∀ {ds : List Dt} {vs : List V}, RVs K H f ds vs → ds.all flatD = true → vs.all flatV = true
  | _, _, .nil, _ => rfl
  | _, _, .cons r t, h => by
    rw [List.all_cons, Bool.and_eq_true] at h ⊢
    exact ⟨flat_ok r h.1, flat_all t h.2⟩
theorem str_beqL (x y : Str) : (x == y) = (x.cps.toList == y.cps.toList) := (SeqAt.str_beq x y).symm
theorem eqFl_ok {f : List Addr} {H : Hp} {d e : Dt} {v u : V} (r : RV K H f d v) (r2 : RV K H f e u) (h : flatD d = true) (h2 : flatD e = true) : eqV v u = eqFl d e := by
  cases r <;> first | cases h | skip
  all_goals (cases r2 <;> first | rfl | exact str_beqL _ _ | cases h2)
theorem inFl_ok {f : List Addr} {H : Hp} {d : Dt} {v : V} (r : RV K H f d v) (h : flatD d = true) : ∀ {ds : List Dt} {vs : List V}, RVs K H f ds vs → ds.all flatD = true → inV v vs = ds.any fun y => eqFl y d
  | _, _, .nil, _ => rfl
  | _, _, .cons r1 t, h1 => by
    rw [List.all_cons, Bool.and_eq_true] at h1
    unfold inV
    rw [List.any_cons, List.any_cons, eqFl_ok r1 r h1.1 h]
    congr 1
    exact inFl_ok r h t h1.2
def inB (x y : Dt) (st : Sto) : Option Bool := match x, y with
  | .str [c], .str s => some (decide (c ∈ s))
  | x, y => match seqD y st with
    | some ys => if flatD x && ys.all flatD then some (ys.any fun z => eqFl z x) else none
    | none => none
def rInA (K : PySem.W.Frag) : R2 := fun x y H Q => (∃ (c : Nat) (z : Str), x = .str ⟨#[c]⟩ ∧ y = .str z ∧ Q (.bl (decide (c ∈ z.cps.toList))) H) ∨ rIn K false x y H Q
def rNotInA (K : PySem.W.Frag) : R2 := fun x y H Q => (∃ (c : Nat) (z : Str), x = .str ⟨#[c]⟩ ∧ y = .str z ∧ Q (.bl (!decide (c ∈ z.cps.toList))) H) ∨ rIn K true x y H Q
theorem op_inA : OpR X (compareOp .In) (rInA X.K) := OpR.or op_in_sign op_in_seq
theorem op_notInA : OpR X (compareOp .NotIn) (rNotInA X.K) := OpR.or op_notIn_sign op_notIn_seq
theorem inB_ways {f : List Addr} {H : Hp} {st : Sto} {x y : Dt} {vx vy : V} {b : Bool} (rh : RH K T f H st) (rx : RV K H f x vx) (ry : RV K H f y vy) (h : inB x y st = some b) :
    (∃ (c : Nat) (z : Str), vx = .str ⟨#[c]⟩ ∧ vy = .str z ∧ decide (c ∈ z.cps.toList) = b) ∨ ∃ p xs, vy = .ref p ∧ (SqL K H p xs ∨ SqT K H p xs) ∧ flatV vx = true ∧ xs.all flatV = true ∧ inV vx xs = b := by
  unfold inB at h
  split at h
  · rename_i c s
    generalize hd : Dt.str [c] = d at rx
    cases rx <;> first | cases hd | skip
    rename_i z
    cases ry
    cases h
    refine .inl ⟨c, _, ?_, rfl, rfl⟩
    have e : z.cps.toList = [c] := (Dt.str.inj hd).symm
    rw [← str_eta z, e]
  · split at h
    · rename_i ys hy
      split at h
      · rename_i hf
        rw [Bool.and_eq_true] at hf
        cases h
        obtain ⟨a, vs, e, hs, r⟩ := seqD_ok rh ry hy
        exact .inr ⟨a, vs, e, hs, flat_ok rx hf.1, flat_all r hf.2, inFl_ok rx hf.1 r hf.2⟩
      · cases h
    · cases h
def inD (x y : Dt) (st : Sto) : Re Dt := match inB x y st with
  | some b => .ok (.bl b) st
  | none => .stuck
def notInD (x y : Dt) (st : Sto) : Re Dt := match inB x y st with
  | some b => .ok (.bl (!b)) st
  | none => .stuck
theorem snd_in : Snd2 K T (rInA K) inD := fun f H st x y vx vy Wx Q rh rx ry p => by
  unfold inD at p
  split at p
  · rename_i b hb
    have q : Q (.bl b) H := p.now rh (.bl b)
    rcases inB_ways rh rx ry hb with ⟨c, z, e1, e2, h⟩ | ⟨a, xs, e1, h1, h2, h3, h4⟩
    · exact .inl ⟨c, z, e1, e2, by rw [h]; exact q⟩
    · exact .inr ⟨a, xs, e1, h1, h2, h3, by rw [if_neg Bool.false_ne_true, h4]; exact q⟩
  · exact p.elim
theorem snd_notIn : Snd2 K T (rNotInA K) notInD := fun f H st x y vx vy Wx Q rh rx ry p => by
  unfold notInD at p
  split at p
  · rename_i b hb
    have q : Q (.bl (!b)) H := p.now rh (.bl _)
    rcases inB_ways rh rx ry hb with ⟨c, z, e1, e2, h⟩ | ⟨a, xs, e1, h1, h2, h3, h4⟩
    · exact .inl ⟨c, z, e1, e2, by rw [h]; exact q⟩
    · exact .inr ⟨a, xs, e1, h1, h2, h3, by rw [if_pos rfl, h4]; exact q⟩
  · exact p.elim
/-! ### a place -/
def ixD : Dt → Dt → Sto → Re Dt
  | .str s, .int i, st => match atI s i with
    | some c => if s.length ≤ lim then .ok (.str [c]) st else .stuck
    | none => .stuck
  | x, .int i, st => match seqD x st with
    | some xs => match atI xs i with
      | some d => .ok d st
      | none => .stuck
    | none => .stuck
  | _, _, _ => .stuck
theorem atI_ok {f : List Addr} {H : Hp} {xs : List Dt} {vs : List V} {i : Int} {d : Dt} (r : RVs K H f xs vs) (h : atI xs i = some d) : ∃ v, atI vs i = some v ∧ RV K H f d v := by
  unfold atI at h ⊢
  rw [r.len] at h
  cases hj : ixN vs.length i with
  | none => rw [hj] at h; cases h
  | some j => rw [hj] at h; exact r.get h
theorem snd_ix : Snd2 K T (rIx K) ixD := fun f H st x y vx vy Wx Q rh rx ry p => by
  cases ry with
  | int i =>
    have gen : (∃ xs d, seqD x st = some xs ∧ atI xs i = some d ∧ Post K T (rV K) Wx f H (.ok d st) Q) → rIx K vx (.int i) H Q := fun ⟨xs, d, h1, h2, p⟩ => by
      obtain ⟨a, vs, e, hs, r⟩ := seqD_ok rh rx h1
      obtain ⟨v, h3, h4⟩ := atI_ok r h2
      rcases hs with hs | hs
      · exact .inl ⟨a, vs, i, v, e, rfl, hs, h3, p.now rh h4⟩
      · exact .inr (.inl ⟨a, vs, i, v, e, rfl, hs, h3, p.now rh h4⟩)
    cases rx with
    | str z =>
      have p' : Post K T (rV K) Wx f H (match atI z.cps.toList i with
        | some c => if z.cps.toList.length ≤ lim then .ok (.str [c]) st else .stuck
        | none => .stuck) Q := p
      cases hc : atI z.cps.toList i with
      | none => rw [hc] at p'; exact p'.elim
      | some c =>
        rw [hc] at p'
        simp only at p'
        split at p'
        · rename_i hl
          rw [len_str] at hl
          exact .inr (.inr ⟨z, i, c, rfl, rfl, lim_le hl, hc, p'.now rh (.str' rfl)⟩)
        · exact p'.elim
    | @tup ds vs a hs r =>
      refine gen ?_
      simp only [ixD, seqD] at p
      cases hc : atI ds i with
      | none => rw [hc] at p; exact p.elim
      | some c => rw [hc] at p; exact ⟨_, _, rfl, hc, p⟩
    | @rl ds vs a hs r =>
      refine gen ?_
      simp only [ixD, seqD] at p
      cases hc : atI ds i with
      | none => rw [hc] at p; exact p.elim
      | some c => rw [hc] at p; exact ⟨_, _, rfl, hc, p⟩
    | @ref j a hj =>
      refine gen ?_
      simp only [ixD] at p
      split at p
      · rename_i xs hs
        split at p
        · rename_i d hc
          exact ⟨_, _, hs, hc, p⟩
        · exact p.elim
      · exact p.elim
    | non => exact p.elim
    | bl _ => exact p.elim
    | int _ => exact p.elim
  | _ => cases rx <;> exact p.elim
/-! ### slices -/
def cutL {α : Type} (xs : List α) (lo hi : Option Int) : List α := (xs.drop (HT.sIx xs.length 0 lo)).take (HT.sIx xs.length xs.length hi - HT.sIx xs.length 0 lo)
theorem cut_ok {f : List Addr} {H : Hp} {xs : List Dt} {vs : List V} (r : RVs K H f xs vs) (lo hi : Option Int) : RVs K H f (cutL xs lo hi) (cutV vs lo hi) := by
  unfold cutL cutV
  rw [r.len]
  exact (r.drop _).take _
abbrev MO := M (Option Int)
abbrev rOI : Rel (Option Int) (Option Int) := fun _ _ a b => a = b
abbrev IO (X : Cx) (T : Tb) (W : WX) (e : Option Expr) (m : MO) : Prop := PO X e (tG X.K T rOI W m)
def mNoPart : MO := fun _ st => .ok none st
def mPart (a : ME) : MO := fun env st => (a env st).bind fun x st1 => match x with
  | .int i => .ok (some i) st1
  | _ => .stuck
def mSl (g : Dt → Option Int → Option Int → Sto → Re Dt) (a : ME) (lo hi : MO) : ME := fun env st => (a env st).bind fun x st1 => (lo env st1).bind fun l st2 => (hi env st2).bind fun h st3 => g x l h st3
def slD (x : Dt) (lo hi : Option Int) (st : Sto) : Re Dt := match x with
  | .str s => if s.length ≤ lim then .ok (.str (cutL s lo hi)) st else .stuck
  | .tup xs => .ok (.tup (cutL xs lo hi)) st
  | .rl xs => .ok (.ref st.length) (st ++ [.lst (cutL xs lo hi)])
  | .ref i => match st[i]? with
    | some (.lst xs) => .ok (.ref st.length) (st ++ [.lst (cutL xs lo hi)])
    | _ => .stuck
  | _ => .stuck
def rSlA' (K : PySem.W.Frag) : V → Option Int → Option Int → Hp → VK → Prop := fun x lo hi H Q => rSlS x lo hi H Q ∨ rSlA K x lo hi H Q ∨ rSlL K x lo hi H Q
theorem sl_A : SlR X (rSlA' X.K) := SlR.or sl_str (SlR.or sl_tupA sl_list)
theorem cut_whole {α : Type} {xs : List α} {lo hi : Option Int} (h : HT.sIx xs.length 0 lo = 0 ∧ HT.sIx xs.length xs.length hi = xs.length) : cutL xs lo hi = xs := by
  unfold cutL
  rw [h.1, h.2]
  simp
theorem slD_ok {f : List Addr} {H : Hp} {st : Sto} {x : Dt} {v : V} {lo hi : Option Int} {Wx : Value → Option Addr → Hp → Prop} {Q : VK} (rh : RH K T f H st) (rx : RV K H f x v) (p : Post K T (rV K) Wx f H (slD x lo hi st) Q) : rSlA' K v lo hi H Q := by
  cases rx with
  | str z =>
    have p' : Post K T (rV K) Wx f H (if z.cps.toList.length ≤ lim then .ok (.str (cutL z.cps.toList lo hi)) st else .stuck) Q := p
    split at p'
    · rename_i hl
      rw [len_str] at hl
      refine .inl ⟨z, rfl, lim_le hl, p'.now rh (.str' ?_)⟩
      unfold cutS cutL
      rw [len_str]
    · exact p'.elim
  | @tup ds vs a hs r =>
    have p' : Post K T (rV K) Wx f H (.ok (.tup (cutL ds lo hi)) st) Q := p
    refine .inr (.inl ⟨a, vs, rfl, hs, fun h => ?_, fun h q hq => new_tup p' rh hq (cut_ok r lo hi)⟩)
    rw [← r.len] at h
    rw [cut_whole h] at p'
    exact p'.now rh (.tup hs r)
  | @rl ds vs a hs r => exact .inr (.inr ⟨a, vs, rfl, hs.sq, fun q hq => new_lst p rh hq (cut_ok r lo hi)⟩)
  | @ref i a hi' =>
    obtain ⟨o, ho⟩ := rh.lt hi'
    simp only [slD, ho] at p
    cases o with
    | lst ys =>
      obtain ⟨vs, h3, r⟩ := rh.lst hi' ho
      exact .inr (.inr ⟨a, vs, rfl, .inl (.inl h3), fun q hq => new_lst p rh hq (cut_ok r lo hi)⟩)
    | _ => exact p.elim
  | _ => exact p.elim
theorem io_none : IO X T W none mNoPart := ⟨fun pins s σ H Q I ⟨f, env, st, re, rh, p⟩ => (po_none (X := X)).run pins s σ H Q I (p.now rh rfl)⟩
theorem io_some {e : Expr} {me : ME} (h : IE X T W e me) : IO X T W (some e) (mPart me) := ⟨fun pins s σ H Q I ⟨f, env, st, re, rh, p⟩ => (po_some h).run pins s σ H Q I ⟨f, env, st, re, rh, p.bind fun x st1 f1 H1 vx hp s rh1 rx p1 => by
    cases rx with
    | int i => exact ⟨i, rfl, p1.now rh1 rfl⟩
    | _ => exact p1.elim⟩⟩
theorem ie_slice {e : Expr} {me : ME} {lo hi : Option Expr} {ml mh : MO} {p2 pos : Pos} (he : IE X T W e me) (hl : IO X T W lo ml) (hh : IO X T W hi mh) : IE X T W (.Subscript e (.Slice lo hi none p2) pos) (mSl slD me ml mh) :=
  PEw (pe_slice sl_A he hl hh) fun σ H Q ⟨f, env, st, re, rh, p⟩ => ⟨f, env, st, re, rh, p.bind fun x st1 f1 H1 vx hp s rh1 rx p1 => ⟨f1, env, st1, re.mono hp s, rh1, p1.bind fun y st2 f2 H2 vy hp2 s2 rh2 ry p2 =>
    ⟨f2, env, st2, (re.mono hp s).mono hp2 s2, rh2, p2.bind fun z st3 f3 H3 vz hp3 s3 rh3 rz p3 => by
      cases ry; cases rz
      exact slD_ok rh3 ((rx.mono hp2 s2).mono hp3 s3) p3⟩⟩⟩
def mRev (a : ME) : ME := fun env st => (a env st).bind fun x st1 => match x with
  | .ref i => match st1[i]? with
    | some (.lst xs) => .ok (.ref st1.length) (st1 ++ [.lst xs.reverse])
    | _ => .stuck
  | _ => .stuck
theorem ie_rev {e : Expr} {me : ME} {k : Nat} {p1 p2 p3 pos : Pos} (he : IE X T W e me) : IE X T W (.Subscript e (.Slice none none (some (.UnaryOp .USub (.Constant (.int 1) k p1) p2)) p3) pos) (mRev me) :=
  PEw (pe_revL he) fun σ H Q ⟨f, env, st, re, rh, p⟩ => ⟨f, env, st, re, rh, p.bind fun x st1 f1 H1 vx hp s rh1 rx p1 => by
    cases rx with
    | @ref i a hi =>
      obtain ⟨o, ho⟩ := rh1.lt hi
      simp only [ho] at p1
      cases o with
      | lst ys =>
        obtain ⟨vs, h3, r⟩ := rh1.lst hi ho
        exact ⟨a, vs, rfl, .inl (.inl h3), fun q hq => new_lst p1 rh1 hq r.rev⟩
      | _ => exact p1.elim
    | _ => exact p1.elim⟩
/-! ### built-in functions -/
def lenD (xs : List Dt) (st : Sto) : Re Dt := match xs with
  | [.str s] => if s.length ≤ lim then .ok (.int s.length) st else .stuck
  | [x] => match seqD x st with
    | some ys => .ok (.int ys.length) st
    | none => match x with
      | .ref i => match st[i]? with
        | some (.dk kvs) => .ok (.int kvs.length) st
        | _ => .stuck
      | _ => .stuck
  | _ => .stuck
def rLenA (K : PySem.W.Frag) : List V → Hp → VK → Prop := fun xs H Q => (∃ x n, xs = [x] ∧ LenV K x H n ∧ Q (.int n) H) ∨ ∃ a kvs, xs = [V.ref a] ∧ H a = some (.dK kvs) ∧ Q (.int kvs.length) H
theorem call_lenA : CallR X (.builtin "len") (rLenA X.K) := CallR.or call_len call_lenD
theorem DR.len {f : List Addr} {H : Hp} : ∀ {ks : List (Dt × Dt)} {vs : List (Key × V)}, DR K H f ks vs → ks.length = vs.length
  | _, _, .nil => rfl
  | _, _, .cons _ _ t => by rw [List.length_cons, List.length_cons, DR.len t]
theorem snd_len : SndC K T (rLenA K) lenD := fun f H st xs vs Wx Q rh r p => by
  cases r with
  | nil => exact p.elim
  | cons rx t =>
    cases t with
    | cons _ _ => cases rx <;> exact p.elim
    | nil =>
      have gen : ∀ {x : Dt} {v : V} {ys : List Dt}, RV K H f x v → seqD x st = some ys → Post K T (rV K) Wx f H (.ok (.int ys.length) st) Q → rLenA K [v] H Q := fun rx h p => by
        obtain ⟨a, vs, e, hs, r⟩ := seqD_ok rh rx h
        rw [r.len] at p
        refine .inl ⟨_, vs.length, rfl, ?_, p.now rh (.int _)⟩
        rw [e]
        exact hs.elim (fun h => .inl ⟨_, h, rfl⟩) fun h => .inr ⟨_, h, rfl⟩
      cases rx with
      | str z =>
        have p' : Post K T (rV K) Wx f H (if z.cps.toList.length ≤ lim then .ok (.int z.cps.toList.length) st else .stuck) Q := p
        split at p'
        · rename_i hl
          rw [len_str] at hl p'
          exact .inl ⟨_, z.length, rfl, ⟨lim_le hl, rfl⟩, p'.now rh (.int _)⟩
        · exact p'.elim
      | @tup ds vs a hs r => exact gen (.tup hs r) rfl p
      | @rl ds vs a hs r => exact gen (.rl hs r) rfl p
      | @ref i a hi =>
        obtain ⟨o, ho⟩ := rh.lt hi
        simp only [lenD, seqD, ho] at p
        cases o with
        | lst ys => exact gen (.ref hi) (by simp only [seqD, ho]) p
        | dk kvs =>
          obtain ⟨vs, h1, h2⟩ := rh.obj _ _ _ ho hi
          have p' : Post K T (rV K) Wx f H (.ok (.int kvs.length) st) Q := p
          rw [h2.len] at p'
          exact .inr ⟨a, vs, rfl, h1, p'.now rh (.int _)⟩
        | ins c fs => exact p.elim
      | _ => exact p.elim
def absD (xs : List Dt) (st : Sto) : Re Dt := match xs with
  | [.int i] => .ok (.int (if i < 0 then -i else i)) st
  | _ => .stuck
theorem snd_abs : SndC K T (fun xs H Q => ∃ i, xs = [.int i] ∧ Q (.int (if i < 0 then -i else i)) H) absD := fun f H st xs vs Wx Q rh r p => by
  cases r with
  | nil => exact p.elim
  | cons rx t =>
    cases t with
    | cons _ _ => cases rx <;> exact p.elim
    | nil =>
      cases rx <;> first | exact p.elim | skip
      exact ⟨_, rfl, p.now rh (.int _)⟩
def maxD (xs : List Dt) (st : Sto) : Re Dt := match xs with
  | [.int i, .int j] => .ok (.int (if j > i then j else i)) st
  | _ => .stuck
def minD (xs : List Dt) (st : Sto) : Re Dt := match xs with
  | [.int i, .int j] => .ok (.int (if j < i then j else i)) st
  | _ => .stuck
theorem snd_max : SndC K T (fun xs H Q => ∃ i j, xs = [.int i, .int j] ∧ Q (.int (if j > i then j else i)) H) maxD := fun f H st xs vs Wx Q rh r p => by
  cases r with
  | nil => exact p.elim
  | cons rx t =>
    cases t with
    | nil => cases rx <;> exact p.elim
    | cons ry t =>
      cases t with
      | cons _ _ => cases rx <;> cases ry <;> exact p.elim
      | nil =>
        cases rx <;> cases ry <;> first | exact p.elim | skip
        exact ⟨_, _, rfl, p.now rh (.int _)⟩
theorem snd_min : SndC K T (fun xs H Q => ∃ i j, xs = [.int i, .int j] ∧ Q (.int (if j < i then j else i)) H) minD := fun f H st xs vs Wx Q rh r p => by
  cases r with
  | nil => exact p.elim
  | cons rx t =>
    cases t with
    | nil => cases rx <;> exact p.elim
    | cons ry t =>
      cases t with
      | cons _ _ => cases rx <;> cases ry <;> exact p.elim
      | nil =>
        cases rx <;> cases ry <;> first | exact p.elim | skip
        exact ⟨_, _, rfl, p.now rh (.int _)⟩
def cintD (xs : List Dt) (st : Sto) : Re Dt := match xs with
  | [.int i] => .ok (.int i) st
  | [.bl b] => .ok (.int (if b then 1 else 0)) st
  | _ => .stuck
theorem snd_int : SndC K T (fun xs H Q => (∃ i, xs = [.int i] ∧ Q (.int i) H) ∨ ∃ k, xs = [.bl k] ∧ Q (.int (if k then 1 else 0)) H) cintD := fun f H st xs vs Wx Q rh r p => by
  cases r with
  | nil => exact p.elim
  | cons rx t =>
    cases t with
    | cons _ _ => cases rx <;> exact p.elim
    | nil =>
      cases rx <;> first | exact p.elim | skip
      · exact .inr ⟨_, rfl, p.now rh (.int _)⟩
      · exact .inl ⟨_, rfl, p.now rh (.int _)⟩
def listD (xs : List Dt) (st : Sto) : Re Dt := match xs with
  | [x] => match seqD x st with
    | some ys => .ok (.ref st.length) (st ++ [.lst ys])
    | none => .stuck
  | _ => .stuck
theorem snd_list : SndC K T (fun xs H Q => ∃ p ys, xs = [.ref p] ∧ (SqL K H p ys ∨ SqT K H p ys) ∧ ∀ l, H l = none → Q (.ref l) (upd H l (.lst ys))) listD := fun f H st xs vs Wx Q rh r p => by
  cases r with
  | nil => exact p.elim
  | cons rx t =>
    cases t with
    | cons _ _ => exact p.elim
    | nil =>
      simp only [listD] at p
      split at p
      · rename_i ys hy
        obtain ⟨a, vs, e, hs, r⟩ := seqD_ok rh rx hy
        exact ⟨a, vs, by rw [e], hs, fun l hl => new_lst p rh hl r⟩
      · exact p.elim
def tupleD (xs : List Dt) (st : Sto) : Re Dt := match xs with
  | [x] => match seqD x st with
    | some ys => .ok (.tup ys) st
    | none => .stuck
  | _ => .stuck
theorem snd_tuple : SndC K T (fun xs H Q => ∃ p ys, xs = [.ref p] ∧ ((SqL K H p ys ∧ ∀ l, H l = none → Q (.ref l) (upd H l (.tup ys))) ∨ (SqT K H p ys ∧ Q (.ref p) H))) tupleD := fun f H st xs vs Wx Q rh r p => by
  cases r with
  | nil => exact p.elim
  | cons rx t =>
    cases t with
    | cons _ _ => exact p.elim
    | nil =>
      simp only [tupleD] at p
      split at p
      · rename_i ys hy
        obtain ⟨a, vs, e, hs, r⟩ := seqD_ok rh rx hy
        refine ⟨a, vs, by rw [e], ?_⟩
        rcases hs with hs | hs
        · exact .inl ⟨hs, fun l hl => new_tup p rh hl r⟩
        · exact .inr ⟨hs, p.now rh (.tup hs r)⟩
      · exact p.elim
/-- a list of truth values -/
def boolsD : List Dt → Option (List Bool)
  | [] => some []
  | .bl b :: r => (boolsD r).map (b :: ·)
  | _ :: _ => none
theorem bools_ok {f : List Addr} {H : Hp} : ∀ {ds : List Dt} {vs : List V} {bs : List Bool}, RVs K H f ds vs → boolsD ds = some bs → vs = bs.map V.bl
  | _, _, _, .nil, h => by cases h; rfl
  | _, _, _, .cons r t, h => by
    cases r <;> first | cases h | skip
    rename_i ds vs b
    have h' : (boolsD ds).map (b :: ·) = some _ := h
    cases hb : boolsD ds with
    | none => rw [hb] at h'; cases h'
    | some q => rw [hb] at h'; cases h'; rw [bools_ok t hb, List.map_cons]
def lstD : Dt → Sto → Option (List Dt)
  | .rl xs, _ => some xs
  | .ref i, st => match st[i]? with
    | some (.lst xs) => some xs
    | _ => none
  | _, _ => none
theorem lstD_ok {f : List Addr} {H : Hp} {st : Sto} {d : Dt} {v : V} {xs : List Dt} (rh : RH K T f H st) (r : RV K H f d v) (h : lstD d st = some xs) : ∃ a vs, v = .ref a ∧ SqL K H a vs ∧ RVs K H f xs vs := by
  cases r with
  | @rl ds vs a hs r => cases h; exact ⟨_, _, rfl, hs.sq, r⟩
  | @ref i a hi =>
    obtain ⟨o, ho⟩ := rh.lt hi
    simp only [lstD, ho] at h
    cases o with
    | lst ys => cases h; obtain ⟨vs, h3, r⟩ := rh.lst hi ho; exact ⟨_, _, rfl, .inl (.inl h3), r⟩
    | _ => cases h
  | _ => cases h
def allD (xs : List Dt) (st : Sto) : Re Dt := match xs with
  | [x] => match lstD x st with
    | some ys => match boolsD ys with
      | some bs => .ok (.bl (bs.all id)) st
      | none => .stuck
    | none => .stuck
  | _ => .stuck
theorem snd_all : SndC K T (rAll K) allD := fun f H st xs vs Wx Q rh r p => by
  cases r with
  | nil => exact p.elim
  | cons rx t =>
    cases t with
    | cons _ _ => exact p.elim
    | nil =>
      simp only [allD] at p
      split at p
      · rename_i ys hy
        split at p
        · rename_i bs hb
          obtain ⟨a, vs, e, hs, r⟩ := lstD_ok rh rx hy
          exact ⟨a, bs, by rw [e], by rw [← bools_ok r hb]; exact hs, p.now rh (.bl _)⟩
        · exact p.elim
      · exact p.elim
def intsD : List Dt → Option (List Int)
  | [] => some []
  | .int b :: r => (intsD r).map (b :: ·)
  | _ :: _ => none
theorem ints_ok {f : List Addr} {H : Hp} : ∀ {ds : List Dt} {vs : List V} {bs : List Int}, RVs K H f ds vs → intsD ds = some bs → vs = bs.map V.int
  | _, _, _, .nil, h => by cases h; rfl
  | _, _, _, .cons r t, h => by
    cases r <;> first | cases h | skip
    rename_i ds vs b
    have h' : (intsD ds).map (b :: ·) = some _ := h
    cases hb : intsD ds with
    | none => rw [hb] at h'; cases h'
    | some q => rw [hb] at h'; cases h'; rw [ints_ok t hb, List.map_cons]
def sumD (xs : List Dt) (st : Sto) : Re Dt := match xs with
  | [x] => match lstD x st with
    | some ys => match intsD ys with
      | some bs => .ok (.int bs.sum) st
      | none => .stuck
    | none => .stuck
  | _ => .stuck
theorem snd_sum : SndC K T (rSum K) sumD := fun f H st xs vs Wx Q rh r p => by
  cases r with
  | nil => exact p.elim
  | cons rx t =>
    cases t with
    | cons _ _ => exact p.elim
    | nil =>
      simp only [sumD] at p
      split at p
      · rename_i ys hy
        split at p
        · rename_i bs hb
          obtain ⟨a, vs, e, hs, r⟩ := lstD_ok rh rx hy
          exact ⟨a, bs, by rw [e], by rw [← ints_ok r hb]; exact hs, p.now rh (.int _)⟩
        · exact p.elim
      · exact p.elim
end
end LT
set_option Elab.async false
set_option linter.all false
set_option maxRecDepth 100000
namespace LT
open PySem PySem.Spec PyProof.Rows L2
/-! ### statements -/
def sNx : MS := fun env st => .nx env st
def sBrk : MS := fun env st => .bk env st
def sCt : MS := fun env st => .ct env st
def sSeq (a b : MS) : MS := fun env st => match a env st with
  | .nx env1 st1 => b env1 st1
  | r => r
def sExpr (e : ME) : MS := fun env st => (e env st).on env fun _ st1 => .nx env st1
def sRet (e : ME) : MS := fun env st => (e env st).on env fun d st1 => .rt d st1
def sRetN : MS := fun _ st => .rt .non st
def sIf (t : MT) (a b : MS) : MS := fun env st => (t env st).on env fun x st1 => if x then a env st1 else b env st1
abbrev MG := Dt → Lo → Sto → Rs
def gNm (i : Nat) : MG := fun d env st => .nx (env.set i (some d)) st
def sAsg (e : ME) (g : MG) : MS := fun env st => (e env st).on env fun d st1 => g d env st1
def sSet (i : Nat) (e : ME) : MS := sAsg e (gNm i)
section
variable (K : PySem.W.Frag) (T : Tb)
def PostG (f : List Addr) (H : Hp) (r : Rs) (Q : L2.St → Hp → Prop) : Prop := match r with
  | .nx env' st' => ∀ f' H' σ', f <+: f' → Stay K H H' → RH K T f' H' st' → REn K H' f' env' σ' → Q σ' H'
  | _ => False
def gG (m : MG) : TG := fun v σ H Q => ∃ f env st d, REn K H f env σ ∧ RH K T f H st ∧ RV K H f d v ∧ PostG K T f H (m d env st) Q
end
abbrev IG (X : Cx) (T : Tb) (tg : Expr) (m : MG) : Prop := PG X tg (gG X.K T m)
theorem PGw {X : Cx} {e : Expr} {t t' : TG} (h : PG X e t) (w : ∀ v σ H Q, t' v σ H Q → t v σ H Q) : PG X e t' := ⟨fun pins s σ H v u Q I r q => h.run pins s σ H v u Q I r (w v σ H Q q)⟩
section
variable {X : Cx} {T : Tb} {W : WX} {e : Expr} {me : ME} {st : Stmt} {rest : List Stmt} {ma mb : MS} {pos : Pos} {ta : MT}
theorem PostS.nx_now {K : PySem.W.Frag} {W : WX} {f : List Addr} {H : Hp} {env : Lo} {st : Sto} {E : Ends} {σ : L2.St} (p : PostS K T W f H (.nx env st) E) (rh : RH K T f H st) (re : REn K H f env σ) : E.nx σ H := p f H σ (List.prefix_refl _) Stay.refl rh re
theorem iss_nil : ISs X T W [] sNx := PSsw pss_nil fun E σ H ⟨f, env, st, re, rh, p⟩ => p.nx_now rh re
theorem ev_seq {E : Ends} {σ : L2.St} {H : Hp} (h : sG X.K T W (sSeq ma mb) E σ H) : tSeq (sG X.K T W ma) (sG X.K T W mb) E σ H := by
  obtain ⟨f, env, st, re, rh, p⟩ := h
  refine ⟨f, env, st, re, rh, ?_⟩
  unfold sSeq at p
  cases h1 : ma env st with
  | nx env1 st1 =>
    rw [h1] at p
    exact fun f1 H1 σ1 hp s rh1 re1 => ⟨f1, env1, st1, re1, rh1, p.mono hp s⟩
  | bk env1 st1 => rw [h1] at p; exact p
  | ct env1 st1 => rw [h1] at p; exact p
  | rt d st1 => rw [h1] at p; exact p
  | ex env1 c fs st1 => rw [h1] at p; exact p
  | stuck => rw [h1] at p; exact p
theorem iss_cons (h1 : IS X T W st ma) (h2 : ISs X T W rest mb) : ISs X T W (st :: rest) (sSeq ma mb) := PSsw (pss_cons h1 h2) fun _ _ _ => ev_seq
theorem iss_one (h1 : IS X T W st ma) : ISs X T W [st] ma := pss_one h1
theorem is_pass : IS X T W (.Pass pos) sNx := PSw ps_pass fun E σ H ⟨f, env, st, re, rh, p⟩ => p.nx_now rh re
theorem is_brk : IS X T W (.Break pos) sBrk := PSw ps_break fun E σ H ⟨f, env, st, re, rh, p⟩ => p f H σ (List.prefix_refl _) Stay.refl rh re
theorem is_ct : IS X T W (.Continue pos) sCt := PSw ps_continue fun E σ H ⟨f, env, st, re, rh, p⟩ => p f H σ (List.prefix_refl _) Stay.refl rh re
theorem is_expr (he : IE X T W e me) (hs : swapsWith e none pos.line X.env = pure false := by rfl) : IS X T W (.Expr e pos) (sExpr me) := PSw (ps_expr he hs) fun E σ H ⟨f, env, st, re, rh, p⟩ =>
  ⟨f, env, st, re, rh, PostS.on re p fun d st1 f1 H1 v hp s rh1 rv re1 p1 => p1.nx_now rh1 re1⟩
theorem is_ret (he : IE X T W e me) : IS X T W (.Return (some e) pos) (sRet me) := PSw (ps_ret he) fun E σ H ⟨f, env, st, re, rh, p⟩ =>
  ⟨f, env, st, re, rh, PostS.on re p fun d st1 f1 H1 v hp s rh1 rv re1 p1 => p1 f1 H1 v (List.prefix_refl _) Stay.refl rh1 rv⟩
theorem is_retN : IS X T W (.Return none pos) sRetN := PSw ps_retN fun E σ H ⟨f, env, st, re, rh, p⟩ => p f H .non (List.prefix_refl _) Stay.refl rh .non
theorem is_if {c : Expr} {a b : List Stmt} (hc : IT X T W c ta) (ha : ISs X T W a ma) (hb : ISs X T W b mb) : IS X T W (.If c a b pos) (sIf ta ma mb) := PSw (ps_if hc ha hb) fun E σ H ⟨f, env, st, re, rh, p⟩ =>
  ⟨f, env, st, re, rh, PostS.on re p fun d st1 f1 H1 v hp s rh1 rv re1 p1 => by
    cases rv
    cases d with
    | true => exact iteT ⟨f1, env, st1, re1, rh1, p1⟩
    | false => exact iteF ⟨f1, env, st1, re1, rh1, p1⟩⟩
/-! targets -/
theorem ig_name (i : Nat) {x : Str} (hN : X.N.Nodup) (hi : X.N[i]? = some x := by rfl) (hx : Loc X.env.scope x := by first | exact Or.inl rfl | exact Or.inr rfl) (hf : X.fn x = true ∨ X.env.scope.names.lookup x = some .local := by first | exact .inl rfl | exact .inr rfl) :
    IG X T (.Name x pos) (gNm i) := PGw (pg_name hN hi hx hf) fun v σ H Q ⟨f, env, st, d, re, rh, rv, p⟩ => p f H _ (List.prefix_refl _) Stay.refl rh (re.set rv)
theorem is_set (i : Nat) {x : Str} {pos' : Pos} (hN : X.N.Nodup) (he : IE X T W e me) (hi : X.N[i]? = some x := by rfl) (hx : Loc X.env.scope x := by first | exact Or.inl rfl | exact Or.inr rfl) (hs : swapsWith e (some (.Name x pos')) pos.line X.env = pure false := by rfl) (hf : X.fn x = true ∨ X.env.scope.names.lookup x = some .local := by first | exact .inl rfl | exact .inr rfl) :
    IS X T W (.Assign [.Name x pos'] e pos) (sSet i me) := PSw (ps_set hN hi hx he hs hf) fun E σ H ⟨f, env, st, re, rh, p⟩ =>
  ⟨f, env, st, re, rh, PostS.on re p fun d st1 f1 H1 v hp s rh1 rv re1 p1 => p1.nx_now rh1 (re1.set rv)⟩
theorem is_asg {tg : Expr} {g : MG} (he : IE X T W e me) (hg : IG X T tg g) (hno : ∀ d env st, (match g d env st with | .nx _ _ => true | .stuck => true | _ => false) = true := by intro _ _ _; rfl) (hs : swapsWithSole [tg] e pos.line X.env = pure false := by rfl) (hw : swappedStores [tg] e X.env = pure none := by rfl) (h1 : (assignEach [tg] X.env).map (·.2) = [assign tg X.env] := by rfl) :
    IS X T W (.Assign [tg] e pos) (sAsg me g) := PSw (ps_asg he hg hs hw h1) fun E σ H ⟨f, env, st, re, rh, p⟩ =>
  ⟨f, env, st, re, rh, PostS.on re p fun d st1 f1 H1 v hp s rh1 rv re1 p1 => ⟨f1, env, st1, d, re1, rh1, rv, by
    have h := hno d env st1
    cases hq : g d env st1 with
    | nx env2 st2 => rw [hq] at p1; exact p1
    | stuck => rw [hq] at p1; exact p1
    | _ => rw [hq] at h; cases h⟩⟩
/-- names from a tuple -/
def gTp : List Nat → MG
  | is, .tup ds, env, st => if is.length = ds.length then .nx ((is.zip ds).foldl (fun en p => en.set p.1 (some p.2)) env) st else .stuck
  | _, _, _, _ => .stuck
inductive NameTargets (X : Cx) : List Expr → List Nat → Prop
  | nil : NameTargets X [] []
  | cons {i : Nat} {x : Str} {p : Pos} {es : List Expr} {is : List Nat} (hi : X.N[i]? = some x) (hx : Loc X.env.scope x) (hf : X.fn x = true ∨ X.env.scope.names.lookup x = some .local)
      (hs : (assignEach (.Name x p :: es) X.env).map (·.2) = assign (.Name x p) X.env :: (assignEach es X.env).map (·.2)) (t : NameTargets X es is) : NameTargets X (.Name x p :: es) (i :: is)
theorem nts (i : Nat) {x : Str} {p : Pos} {es : List Expr} {is : List Nat} (t : NameTargets X es is) (hi : X.N[i]? = some x := by rfl) (hx : Loc X.env.scope x := by first | exact Or.inl rfl | exact Or.inr rfl) (hf : X.fn x = true ∨ X.env.scope.names.lookup x = some .local := by first | exact .inl rfl | exact .inr rfl)
    (hs : (assignEach (.Name x p :: es) X.env).map (·.2) = assign (.Name x p) X.env :: (assignEach es X.env).map (·.2) := by rfl) : NameTargets X (.Name x p :: es) (i :: is) := .cons hi hx hf hs t
def gNs : List Nat → TGs
  | [] => gNil
  | i :: is => gCons (gName i) (gNs is)
theorem pgs_names (hN : X.N.Nodup) : ∀ {es : List Expr} {is : List Nat}, NameTargets X es is → PGs X es (gNs is)
  | _, _, .nil => pgs_nil
  | _, _, .cons hi hx hf hs t => pgs_cons (pg_name hN hi hx hf) (pgs_names hN t) hs
theorem gNs_ok {K : PySem.W.Frag} {f : List Addr} {H : Hp} {Q : L2.St → Hp → Prop} : ∀ (is : List Nat) (ds : List Dt) (vs : List V) (env : Lo) (σ : L2.St), is.length = ds.length → RVs K H f ds vs → REn K H f env σ →
    (∀ σ', REn K H f ((is.zip ds).foldl (fun en p => en.set p.1 (some p.2)) env) σ' → σ' = (is.zip vs).foldl (fun en p => en.set p.1 (some p.2)) σ → Q σ' H) → gNs is vs σ H Q
  | [], [], _, env, σ, _, .nil, re, q => ⟨rfl, q σ re rfl⟩
  | i :: is, d :: ds, _, env, σ, hl, .cons r t, re, q => ⟨_, _, rfl, gNs_ok is ds _ _ _ (by simpa using hl) t (re.set r) q⟩
  | [], _ :: _, _, _, _, hl, _, _, _ => by simp at hl
  | _ :: _, [], _, _, _, hl, _, _, _ => by simp at hl
theorem ig_tup {es : List Expr} {k : Nat} {is : List Nat} {n : Nat} (hc : X.calm = true) (hN : X.N.Nodup) (h : NameTargets X es is) (hl : is.length = n) (hn : (assignEach es X.env).length = n := by rfl) (hst : (assignEach es X.env).findIdx? (·.1) = none := by rfl) :
    IG X T (.Tuple es k pos) (gTp is) := PGw (pg_tup hc (pgs_names hN h) hn hst) fun v σ H Q ⟨f, env, st, d, re, rh, rv, p⟩ => by
  cases rv with
  | @tup ds vs a hs r =>
    have p' : PostG X.K T f H (if is.length = ds.length then .nx ((is.zip ds).foldl (fun en p => en.set p.1 (some p.2)) env) st else .stuck) Q := by
      cases is <;> exact p
    split at p'
    · rename_i hl2
      exact ⟨a, vs, rfl, hs, by rw [← r.len, ← hl2]; exact hl, gNs_ok is ds vs env σ hl2 r re fun σ' re' _ => p' f H σ' (List.prefix_refl _) Stay.refl rh re'⟩
    · exact p'.elim
  | _ => cases is <;> exact p.elim
/-- a, b = x, y -/
def sPar (i j : Nat) (a : MA) : MS := fun env st => (a env st).on env fun ds st1 => match ds with
  | [x, y] => .nx ((env.set i (some x)).set j (some y)) st1
  | _ => .stuck
theorem is_par (i j : Nat) {x y : Str} {a b : Expr} {ms : MA} {px py pt pt2 : Pos} {kt k2} (hc : X.calm = true) (hN : X.N.Nodup) (ha : IA X T W [a, b] ms) (hi : X.N[i]? = some x := by rfl) (hj : X.N[j]? = some y := by rfl) (hij : i ≠ j := by decide)
    (hx : X.env.scope.names.lookup x = some .local := by rfl) (hy : X.env.scope.names.lookup y = some .local := by rfl)
    (hw : swappedStores [.Tuple [.Name x px, .Name y py] kt pt] (.Tuple [a, b] k2 pt2) X.env = pure (some [x, y]) := by rfl) (hs : swapsWithSole [.Tuple [.Name x px, .Name y py] kt pt] (.Tuple [a, b] k2 pt2) pos.line X.env = pure false := by rfl) :
    IS X T W (.Assign [.Tuple [.Name x px, .Name y py] kt pt] (.Tuple [a, b] k2 pt2) pos) (sPar i j ms) := PSw (ps_par hc hN hi hj hij hx hy ha hw hs) fun E σ H ⟨f, env, st, re, rh, p⟩ =>
  ⟨f, env, st, re, rh, PostS.on re p fun d st1 f1 H1 v hp s rh1 rv re1 p1 => by
    cases rv with
    | nil => exact p1.elim
    | cons r1 t =>
      cases t with
      | nil => exact p1.elim
      | cons r2 t =>
        cases t with
        | nil => exact ⟨_, _, rfl, p1.nx_now rh1 ((re1.set r1).set r2)⟩
        | cons _ _ => exact p1.elim⟩
/-! stores at a place -/
def setL : Dt → Dt → Dt → Sto → Option Sto
  | .ref i, .int k, d, st => match st[i]? with
    | some (.lst xs) => match ixN xs.length k with
      | some j => some (st.set i (.lst (xs.set j d)))
      | none => none
    | _ => none
  | _, _, _, _ => none
def gSubL (mo mi : ME) : MG := fun d env st => match mo env st with
  | .ok o st1 => match mi env st1 with
    | .ok i st2 => match setL o i d st2 with
      | some st3 => .nx env st3
      | none => .stuck
    | _ => .stuck
  | _ => .stuck
theorem setL_ok {K : PySem.W.Frag} {f : List Addr} {H : Hp} {st st' : Sto} {o i d : Dt} {vo vi v : V} {Q : Hp → Prop} (rh : RH K T f H st) (ro : RV K H f o vo) (ri : RV K H f i vi) (rd : RV K H f d v) (h : setL o i d st = some st')
    (q : ∀ H', Stay K H H' → RH K T f H' st' → Q H') : rSetL vo vi v H Q := by
  cases ro with
  | @ref j a hj =>
    cases ri with
    | int k =>
      obtain ⟨ob, ho⟩ := rh.lt hj
      simp only [setL, ho] at h
      cases ob with
      | lst xs =>
        obtain ⟨vs, h1, h2⟩ := rh.lst hj ho
        cases hn : ixN xs.length k with
        | none => simp only [hn] at h; cases h
        | some m =>
          simp only [hn] at h
          cases h
          have stay := (rh.obj _ _ _ ho hj).stay (.lst (vs.set m v))
          refine ⟨a, vs, k, m, rfl, rfl, h1, by rw [← h2.len]; exact hn, q _ stay (rh.put hj ⟨_, upd_same, (h2.set rd m).mono (List.prefix_refl _) stay⟩)⟩
      | _ => cases h
    | _ => cases h
  | _ => cases h
theorem IE.at {o : Expr} {mo : ME} {σ : L2.St} {H : Hp} {f : List Addr} {env : Lo} {st0 st1 : Sto} {d : Dt} {W : WX} {Q : VK} (re : REn X.K H f env σ) (rh : RH X.K T f H st0) (h : mo env st0 = .ok d st1) (q : ∀ f' H' v, f <+: f' → Stay X.K H H' → RH X.K T f' H' st1 → RV X.K H' f' d v → Q v H') : tG X.K T (rV X.K) W mo σ H Q :=
  ⟨f, env, st0, re, rh, by rw [h]; exact q⟩
theorem ig_sub {o i : Expr} {mo mi : ME} (ho : IE X T (fun _ _ _ _ => False) o mo) (hi : IE X T (fun _ _ _ _ => False) i mi)
    (ha : ∀ v, assign (.Subscript o i pos) X.env v = (do
      let ov ← holding [v] (eval o X.env)
      let iv ← holding [v, ov] (eval i X.env)
      standAt pos
      holding [v, ov, iv] (setItem ov iv v)
      release [v, ov, iv] []) := by intro _; rfl) : IG X T (.Subscript o i pos) (gSubL mo mi) := PGw (pg_sub ho hi set_list ha) fun v σ H Q ⟨f, env, st, d, re, rh, rv, p⟩ => by
  unfold gSubL at p
  cases h1 : mo env st with
  | ok o1 st1 =>
    rw [h1] at p
    simp only at p
    refine IE.at (o := o) re rh h1 fun f1 H1 vo hp s rh1 ro => ?_
    cases h2 : mi env st1 with
    | ok i1 st2 =>
      rw [h2] at p
      simp only at p
      refine IE.at (o := i) (re.mono hp s) rh1 h2 fun f2 H2 vi hp2 s2 rh2 ri => ?_
      cases h3 : setL o1 i1 d st2 with
      | none => rw [h3] at p; exact p.elim
      | some st3 =>
        rw [h3] at p
        exact setL_ok rh2 (ro.mono hp2 s2) ri ((rv.mono hp s).mono hp2 s2) h3 fun H3 s3 rh3 => p f2 H3 σ (hp.trans hp2) ((s.trans s2).trans s3) rh3 (((re.mono hp s).mono hp2 s2).mono (List.prefix_refl _) s3)
    | _ => rw [h2] at p; exact p.elim
  | _ => rw [h1] at p; exact p.elim
/-! ### loops -/
inductive Tn where
  | stop | item (d : Dt) | stuck
structure Wk where
  turn : Nat → Sto → Tn
  fuel : Nat
def RW (K : PySem.W.Frag) (T : Tb) : Rel Wk It := fun H0 f w J => ∀ (i : Nat) (f' : List Addr) (H : Hp) (st : Sto), f <+: f' → Stay K H0 H → RH K T f' H st → match w.turn i st with
  | .stop => J.stop i H
  | .item d => J.go i H ∧ ∀ x H', J.yld i H x H' → Stay K H H' ∧ RH K T f' H' st ∧ RV K H' f' d x
  | .stuck => True
abbrev MW := M Wk
abbrev II (X : Cx) (T : Tb) (W : WX) (tg iter : Expr) (m : MW) : Prop := L2.PI X tg iter (tG X.K T (RW X.K T) W m)
theorem PIw {X : Cx} {tg e : Expr} {t t' : TI} (h : L2.PI X tg e t) (w : ∀ σ H Q, t' σ H Q → t σ H Q) : L2.PI X tg e t' := ⟨fun pins s σ H Q I q => h.run pins s σ H Q I (w σ H Q q)⟩
def forL (w : Wk) (g : MG) (body : MS) : Nat → Nat → Lo → Sto → Rs
  | 0, _, _, _ => .stuck
  | n + 1, i, env, st => match w.turn i st with
    | .stop => .nx env st
    | .stuck => .stuck
    | .item d => match g d env st with
      | .nx env1 st1 => match body env1 st1 with
        | .nx env2 st2 => forL w g body n (i + 1) env2 st2
        | .ct env2 st2 => forL w g body n (i + 1) env2 st2
        | .bk env2 st2 => .nx env2 st2
        | r => r
      | _ => .stuck
def sFor (m : MW) (g : MG) (body : MS) : MS := fun env st => (m env st).on env fun w st1 => forL w g body w.fuel 0 env st1
theorem is_for {tg iter : Expr} {body : List Stmt} {mw : MW} {g : MG} {mb : MS} (hp : PassesOwn (model X.prog X.w) X.A X.env X.xe) (hc : X.calm = true) (hi : II X T W tg iter mw) (hg : IG X T tg g) (hb : ISs X T W body mb)
    (hs : ∀ x, foldedSetIterable iter X.env x = pure x := by intro _; rfl) : IS X T W (.For tg iter body [] pos) (sFor mw g mb) := PSw (ps_for hp hc hi hg hb hs) fun E σ H ⟨f, env, st, re, rh, p⟩ =>
  ⟨f, env, st, re, rh, PostS.on (rel := RW X.K T) re p fun w st1 f1 H1 J hp1 s1 rh1 rw1 re1 p1 => by
    refine ⟨fun i m σ2 H2 => ∃ f2 env2 st2, f1 <+: f2 ∧ Stay X.K H1 H2 ∧ REn X.K H2 f2 env2 σ2 ∧ RH X.K T f2 H2 st2 ∧ PostS X.K T W f2 H2 (forL w g mb m i env2 st2) E, ⟨w.fuel, f1, env, st1, List.prefix_refl _, Stay.refl, re1, rh1, p1⟩, ?_⟩
    rintro i m σ2 H2 ⟨f2, env2, st2, hp2, s2, re2, rh2, p2⟩
    cases m with
    | zero => exact p2.elim
    | succ n =>
      have tw := rw1 i f2 H2 st2 hp2 s2 rh2
      unfold forL at p2
      cases ht : w.turn i st2 with
      | stop =>
        rw [ht] at p2 tw
        exact .inl ⟨tw, p2.nx_now rh2 re2⟩
      | stuck => rw [ht] at p2; exact p2.elim
      | item d =>
        rw [ht] at p2 tw
        simp only at p2 tw
        refine .inr ⟨tw.1, fun σ4 H4 => ∃ f4 env4 st4, f1 <+: f4 ∧ Stay X.K H1 H4 ∧ REn X.K H4 f4 env4 σ4 ∧ RH X.K T f4 H4 st4 ∧ PostS X.K T W f4 H4 (forL w g mb n (i + 1) env4 st4) E, fun σ4 H4 h => ⟨n, Nat.lt_succ_self n, h⟩, fun x H3 hy => ?_⟩
        obtain ⟨s3, rh3, rx⟩ := tw.2 x H3 hy
        refine ⟨f2, env2, st2, d, re2.mono (List.prefix_refl _) s3, rh3, rx, ?_⟩
        cases hg2 : g d env2 st2 with
        | nx env3 st3 =>
          rw [hg2] at p2
          simp only at p2
          intro f4 H4 σ4 hp4 s4 rh4 re4
          refine ⟨f4, env3, st3, re4, rh4, ?_⟩
          have hp14 := hp2.trans hp4
          have s14 := (s2.trans s3).trans s4
          have p3 := p2.mono hp4 (s3.trans s4)
          cases hb2 : mb env3 st3 with
          | nx env5 st5 =>
            rw [hb2] at p3
            exact fun f6 H6 σ6 hp6 s6 rh6 re6 => ⟨f6, env5, st5, hp14.trans hp6, s14.trans s6, re6, rh6, p3.mono hp6 s6⟩
          | ct env5 st5 =>
            rw [hb2] at p3
            exact fun f6 H6 σ6 hp6 s6 rh6 re6 => ⟨f6, env5, st5, hp14.trans hp6, s14.trans s6, re6, rh6, p3.mono hp6 s6⟩
          | bk env5 st5 => rw [hb2] at p3; exact p3
          | rt d5 st5 => rw [hb2] at p3; exact p3
          | ex env5 c5 fs5 st5 => rw [hb2] at p3; exact p3
          | stuck => rw [hb2] at p3; exact p3
        | _ => rw [hg2] at p2; exact p2.elim⟩
def whileL (t : MT) (body : MS) : Nat → Lo → Sto → Rs
  | 0, _, _ => .stuck
  | n + 1, env, st => (t env st).on env fun b st1 => if b then (match body env st1 with
        | .nx env2 st2 => whileL t body n env2 st2
        | .ct env2 st2 => whileL t body n env2 st2
        | .bk env2 st2 => .nx env2 st2
        | r => r) else .nx env st1
def sWhile (fuel : Nat) (t : MT) (body : MS) : MS := fun env st => whileL t body fuel env st
theorem is_while {c : Expr} {body : List Stmt} {mt : MT} {mb : MS} (fuel : Nat) (hp : PassesOwn (model X.prog X.w) X.A X.env X.xe) (hc : IT X T W c mt) (hb : ISs X T W body mb) : IS X T W (.While c body [] pos) (sWhile fuel mt mb) := PSw (ps_while hp hc hb) fun E σ H ⟨f, env, st, re, rh, p⟩ => by
  refine ⟨fun m σ2 H2 => ∃ f2 env2 st2, REn X.K H2 f2 env2 σ2 ∧ RH X.K T f2 H2 st2 ∧ PostS X.K T W f2 H2 (whileL mt mb m env2 st2) E, ⟨fuel, f, env, st, re, rh, p⟩, ?_⟩
  rintro m σ2 H2 ⟨f2, env2, st2, re2, rh2, p2⟩
  cases m with
  | zero => exact p2.elim
  | succ n =>
    unfold whileL at p2
    refine ⟨f2, env2, st2, re2, rh2, PostS.on re2 p2 fun b st3 f3 H3 v hp3 s3 rh3 rv re3 p3 => ?_⟩
    cases rv
    cases b with
    | false => exact iteF (p3.nx_now rh3 re3)
    | true =>
      refine iteT ⟨fun σ4 H4 => ∃ f4 env4 st4, REn X.K H4 f4 env4 σ4 ∧ RH X.K T f4 H4 st4 ∧ PostS X.K T W f4 H4 (whileL mt mb n env4 st4) E, fun σ4 H4 h => ⟨n, Nat.lt_succ_self n, h⟩, f3, env2, st3, re3, rh3, ?_⟩
      rw [if_pos rfl] at p3
      cases hb2 : mb env2 st3 with
      | nx env5 st5 =>
        rw [hb2] at p3
        exact fun f6 H6 σ6 hp6 s6 rh6 re6 => ⟨f6, env5, st5, re6, rh6, p3.mono hp6 s6⟩
      | ct env5 st5 =>
        rw [hb2] at p3
        exact fun f6 H6 σ6 hp6 s6 rh6 re6 => ⟨f6, env5, st5, re6, rh6, p3.mono hp6 s6⟩
      | bk env5 st5 => rw [hb2] at p3; exact p3
      | rt d5 st5 => rw [hb2] at p3; exact p3
      | ex env5 c5 fs5 st5 => rw [hb2] at p3; exact p3
      | stuck => rw [hb2] at p3; exact p3
end
end LT
set_option Elab.async false
set_option linter.all false
set_option maxRecDepth 100000
namespace LT
open PySem PySem.Spec PyProof.Rows L2
section
variable {X : Cx} {T : Tb} {W : WX} {e tg : Expr} {me : ME} {pos : Pos} {K : PySem.W.Frag}
/-! ### what is walked -/
def wTup (ds : List Dt) : Wk := ⟨fun i _ => match ds[i]? with
  | some d => .item d
  | none => .stop, ds.length + 1⟩
def wLst (a n : Nat) : Wk := ⟨fun i st => match st[a]? with
  | some (.lst xs) => match xs[i]? with
    | some d => .item d
    | none => .stop
  | _ => .stuck, n + 1⟩
def wStr (s : List Nat) : Wk := ⟨fun i _ => match s[i]? with
  | some c => .item (.str [c])
  | none => .stop, s.length + 1⟩
def wRng (lo : Int) (n : Nat) : Wk := ⟨fun i _ => if i < n then .item (.int (lo + i)) else .stop, n + 1⟩
def itD : Dt → Sto → Re Wk
  | .tup ds, st => .ok (wTup ds) st
  | .rl ds, st => .ok (wTup ds) st
  | .str s, st => .ok (wStr s) st
  | .ref i, st => match st[i]? with
    | some (.lst xs) => .ok (wLst i xs.length) st
    | _ => .stuck
  | _, _ => .stuck
def mIt (a : ME) : MW := fun env st => (a env st).bind itD
/-- any of the three is walked -/
def iAny (K : PySem.W.Frag) (te : TE) : TI := fun σ H R => te σ H fun x H1 => (∃ a, x = .ref a ∧ (∃ xs, SqL K H1 a xs) ∧ R (Itl K a) H1) ∨ (∃ a, x = .ref a ∧ (∃ xs, SqT K H1 a xs) ∧ R (Itt K a) H1) ∨ ∃ z, x = .str z ∧ R (Its z) H1
theorem pi_any {te : TE} (he : PE X e te) : L2.PI X tg e (iAny X.K te) := ⟨fun pins s σ H R I h => thn (he.run pins s σ H _ I h) fun v s1 hv => by
  obtain ⟨x, H1, J, rx, hq⟩ := hv
  rcases hq with ⟨a, rfl, ⟨xs, hs⟩, q⟩ | ⟨a, rfl, ⟨xs, hs⟩, q⟩ | ⟨z, rfl, q⟩
  · obtain ⟨its, _, pl, _⟩ := J.list hs
    cases rx
    exact wpAny_pyIter_list pl.isList (pi_one (tk := s1.toks) J _ (turn_list a _) ⟨_, Heap.get?_push_size _ rfl, rfl, rfl⟩ q)
  · obtain ⟨its, _, pl, _⟩ := J.tuple hs
    cases rx
    exact wpAny_pyIter_tuple (show s1.heap.IsTuple a its.toArray from pl) (pi_one (tk := s1.toks) J _ (turn_tuple a _) ⟨_, Heap.get?_push_size _ rfl, rfl, rfl⟩ q)
  · obtain ⟨t, rfl⟩ := rx
    cases hw : z.cps.all (· < 128) with
    | false => exact wpAny_pyIter_wide hw (pi_one (tk := s1.toks) J _ (turn_str _ z t "str_iterator" (.inr rfl)) ⟨_, Heap.get?_push_size _ rfl, rfl, rfl⟩ q)
    | true => exact wpAny_pyIter_ascii hw (pi_one (tk := s1.toks) J _ (turn_str _ z t "str_ascii_iterator" (.inl rfl)) ⟨_, Heap.get?_push_size _ rfl, rfl, rfl⟩ q)⟩
theorem rw_tup {f : List Addr} {H : Hp} {ds : List Dt} {vs : List V} {a : Addr} (hs : SqT K H a vs) (r : RVs K H f ds vs) : RW K T H f (wTup ds) (Itt K a) := fun i f' H' st hp s rh => by
  show match (match ds[i]? with | some d => Tn.item d | none => Tn.stop) with | .stop => _ | .item d => _ | .stuck => True
  cases hi : ds[i]? with
  | none => exact ⟨vs, s.t _ _ hs, by rw [← r.len]; exact List.getElem?_eq_none_iff.mp hi⟩
  | some d =>
    obtain ⟨v, h1, h2⟩ := r.get hi
    exact ⟨⟨vs, v, s.t _ _ hs, h1⟩, fun x H2 hy => by
      obtain ⟨rfl, hx⟩ := hy
      have e := (hx vs (s.t _ _ hs)).symm.trans h1
      cases e
      exact ⟨Stay.refl, rh, h2.mono hp s⟩⟩
theorem rw_rl {f : List Addr} {H : Hp} {ds : List Dt} {vs : List V} {a : Addr} (hs : SqF K H a vs) (r : RVs K H f ds vs) : RW K T H f (wTup ds) (Itl K a) := fun i f' H' st hp s rh => by
  show match (match ds[i]? with | some d => Tn.item d | none => Tn.stop) with | .stop => _ | .item d => _ | .stuck => True
  have hs' := (s.l _ _ hs).sq
  cases hi : ds[i]? with
  | none => exact ⟨vs, hs', by rw [← r.len]; exact List.getElem?_eq_none_iff.mp hi⟩
  | some d =>
    obtain ⟨v, h1, h2⟩ := r.get hi
    exact ⟨⟨vs, v, hs', h1⟩, fun x H2 hy => by
      obtain ⟨rfl, hx⟩ := hy
      have e := (hx vs hs').symm.trans h1
      cases e
      exact ⟨Stay.refl, rh, h2.mono hp s⟩⟩
theorem rw_lst {f : List Addr} {H : Hp} {j n : Nat} {a : Addr} (hj : f[j]? = some a) : RW K T H f (wLst j n) (Itl K a) := fun i f' H' st hp s rh => by
  have hj' := get_pre hp hj
  obtain ⟨o, ho⟩ := rh.lt hj'
  show match (match st[j]? with
    | some (.lst xs) => match xs[i]? with
      | some d => Tn.item d
      | none => Tn.stop
    | _ => Tn.stuck) with | .stop => _ | .item d => _ | .stuck => True
  rw [ho]
  cases o with
  | lst xs =>
    obtain ⟨vs, h1, r⟩ := rh.lst hj' ho
    have hs' : SqL K H' a vs := .inl (.inl h1)
    simp only
    cases hi : xs[i]? with
    | none => exact ⟨vs, hs', by rw [← r.len]; exact List.getElem?_eq_none_iff.mp hi⟩
    | some d =>
      obtain ⟨v, h2, h3⟩ := r.get hi
      exact ⟨⟨vs, v, hs', h2⟩, fun x H2 hy => by
        obtain ⟨rfl, hx⟩ := hy
        have e := (hx vs hs').symm.trans h2
        cases e
        exact ⟨Stay.refl, rh, h3⟩⟩
  | _ => trivial
theorem rw_str {f : List Addr} {H : Hp} (z : Str) : RW K T H f (wStr z.cps.toList) (Its z) := fun i f' H' st hp s rh => by
  show match (match z.cps.toList[i]? with | some c => Tn.item (.str [c]) | none => Tn.stop) with | .stop => _ | .item d => _ | .stuck => True
  cases hi : z.cps.toList[i]? with
  | none => exact (by rw [← Array.length_toList]; exact List.getElem?_eq_none_iff.mp hi : z.cps.size ≤ i)
  | some c =>
    have hl : i < z.cps.size := by
      rw [← Array.length_toList]
      exact (List.getElem?_eq_some_iff.mp hi).1
    refine ⟨hl, fun x H2 hy => ?_⟩
    obtain ⟨rfl, c', h1, rfl⟩ := hy
    rw [Array.getElem?_toList] at hi
    have e := h1.symm.trans hi
    cases e
    exact ⟨Stay.refl, rh, .str' rfl⟩
theorem rw_rng {f : List Addr} {H : Hp} (lo : Int) (n : Nat) : RW K T H f (wRng lo n) (Itr lo n) := fun i f' H' st hp s rh => by
  show match (if i < n then Tn.item (.int (lo + i)) else Tn.stop) with | .stop => _ | .item d => _ | .stuck => True
  by_cases h : i < n
  · rw [if_pos h]
    exact ⟨h, fun x H2 hy => by
      obtain ⟨rfl, rfl⟩ := hy
      exact ⟨Stay.refl, rh, .int _⟩⟩
  · rw [if_neg h]
    exact Nat.le_of_not_lt h
theorem ii_any (h : IE X T W e me) : II X T W tg e (mIt me) := PIw (pi_any h) fun σ H Q ⟨f, env, st, re, rh, p⟩ =>
  ⟨f, env, st, re, rh, p.bind fun x st1 f1 H1 vx hp s rh1 rx p1 => by
    cases rx with
    | @tup ds vs a hs r => exact .inr (.inl ⟨a, rfl, ⟨_, hs⟩, Post.now (rel := RW X.K T) p1 rh1 (rw_tup hs r)⟩)
    | @rl ds vs a hs r => exact .inl ⟨a, rfl, ⟨_, hs.sq⟩, Post.now (rel := RW X.K T) p1 rh1 (rw_rl hs r)⟩
    | str z => exact .inr (.inr ⟨z, rfl, Post.now (rel := RW X.K T) p1 rh1 (rw_str z)⟩)
    | @ref i a hi =>
      obtain ⟨o, ho⟩ := rh1.lt hi
      simp only [itD, ho] at p1
      cases o with
      | lst xs =>
        obtain ⟨vs, h1, r⟩ := rh1.lst hi ho
        exact .inl ⟨a, rfl, ⟨_, .inl (.inl h1)⟩, Post.now (rel := RW X.K T) p1 rh1 (rw_lst hi)⟩
      | _ => exact p1.elim
    | _ => exact p1.elim⟩
def rngD (xs : List Dt) (st : Sto) : Re Wk := match xs with
  | [.int n] => if -1000000 ≤ n ∧ n ≤ 1000000 then .ok (wRng 0 n.toNat) st else .stuck
  | _ => .stuck
def mRng (a : MA) : MW := fun env st => (a env st).bind rngD
theorem ii_range {ms : MA} {p : Pos} (hg : Gl X "range") (hm : X.mg "range" = none) (ha : IA X T W [e] ms) (hs : starEach [e] X.env = [(false, eval e X.env)] := by rfl) : II X T W tg (.Call (.Name "range" p) [e] [] pos) (mRng ms) := PIw (pi_range1 hg hm ha hs) fun σ H Q ⟨f, env, st, re, rh, p⟩ =>
  ⟨f, env, st, re, rh, p.bind fun x st1 f1 H1 vx hp s rh1 rx p1 => by
    cases rx with
    | nil => exact p1.elim
    | cons r1 t =>
      cases t with
      | cons _ _ => cases r1 <;> exact p1.elim
      | nil =>
        cases r1 <;> first | exact p1.elim | skip
        rename_i n
        have p' : Post X.K T (RW X.K T) _ f1 H1 (if -1000000 ≤ n ∧ n ≤ 1000000 then .ok (wRng 0 n.toNat) st1 else .stuck) Q := p1
        split at p'
        · rename_i hn
          exact ⟨n, rfl, by omega, by omega, Post.now (rel := RW X.K T) p' rh1 (rw_rng 0 _)⟩
        · exact p'.elim⟩
/-! ### comprehensions -/
def wipeE (env : Lo) : List Nat → Lo
  | [] => env
  | v :: vs => (wipeE env vs).set v none
theorem REn.wipes {f : List Addr} {H : Hp} {env : Lo} {σ : L2.St} (r : REn K H f env σ) : ∀ vs : List Nat, REn K H f (wipeE env vs) (wipe σ vs)
  | [] => r
  | v :: vs => (REn.wipes r vs).wipe1
def lcL (w : Wk) (g : MG) (tt : MT) (te : ME) (env : Lo) (d : Nat) : Nat → Nat → Sto → Re Dt
  | 0, _, _ => .stuck
  | n + 1, i, st => match w.turn i st with
    | .stop => .ok (.ref d) st
    | .stuck => .stuck
    | .item x => match g x env st with
      | .nx env1 st1 => match tt env1 st1 with
        | .ok b st2 => if b then (match te env1 st2 with
          | .ok y st3 => match st3[d]? with
            | some (.lst acc) => if acc.length < lim then lcL w g tt te env d n (i + 1) (st3.set d (.lst (acc ++ [y]))) else .stuck
            | _ => .stuck
          | _ => .stuck) else lcL w g tt te env d n (i + 1) st2
        | _ => .stuck
      | _ => .stuck
def mLc (m : MW) (g : MG) (tt : MT) (te : ME) (vs : List Nat) : ME := fun env st => (m env st).bind fun w st1 => lcL w g tt te (wipeE env vs) st1.length w.fuel 0 (st1 ++ [.lst []])
def mYes : MT := fun _ st => .ok true st
abbrev W0 : WX := fun _ _ _ _ => False
/-- how a target of a comprehension stores: its slots alone -/
structure GOk (K : PySem.W.Frag) (g : MG) (t : TG) (vs : List Nat) : Prop where
  pur : ∀ d env st env1 st1, g d env st = .nx env1 st1 → st1 = st
  run : ∀ (f : List Addr) (H : Hp) (env : Lo) (σ : L2.St) (st : Sto) (d : Dt) (v : V) (Q : L2.St → Hp → Prop), REn K H f env (wipe σ vs) → RV K H f d v →
    (match g d env st with
      | .nx env1 _ => ∀ σ2, REn K H f env1 σ2 → wipe σ2 vs = wipe σ vs → Q σ2 H
      | _ => False) → t v (wipe σ vs) H Q
theorem gok_name (i : Nat) : GOk K (gNm i) (gName i) [i] := ⟨fun d env st env1 st1 h => by cases h; rfl, fun f H env σ st d v Q re rv h => by
  refine h _ (re.set rv) ?_
  show ((σ.set i none).set i (some v)).set i none = σ.set i none
  rw [List.set_set, List.set_set]⟩
theorem wipe_foldl : ∀ (is : List Nat) (vs : List V) (js : List Nat) (σ : L2.St), (∀ i ∈ is, i ∈ js) → wipe ((is.zip vs).foldl (fun en p => en.set p.1 (some p.2)) σ) js = wipe σ js
  | [], _, _, _, _ => rfl
  | _ :: _, [], _, _, _ => rfl
  | i :: is, v :: vs, js, σ, h => by
    show wipe ((is.zip vs).foldl _ (σ.set i (some v))) js = wipe σ js
    rw [wipe_foldl is vs js _ fun j hj => h j (List.mem_cons_of_mem _ hj)]
    exact wipe_set_mem js (h i List.mem_cons_self)
where
  wipe_set_mem {σ : L2.St} {i : Nat} {x : Option V} : ∀ (js : List Nat), i ∈ js → wipe (σ.set i x) js = wipe σ js
    | [], h => by cases h
    | j :: js, h => by
      show (wipe (σ.set i x) js).set j none = (wipe σ js).set j none
      by_cases e : i ∈ js
      · rw [wipe_set_mem js e]
      · have hj : i = j := by
          rcases List.mem_cons.mp h with q | q
          · exact q
          · exact absurd q e
        subst hj
        rw [wipe_out js e, List.set_set]
  wipe_out {σ : L2.St} {i : Nat} {x : Option V} : ∀ (js : List Nat), i ∉ js → wipe (σ.set i x) js = (wipe σ js).set i x
    | [], _ => rfl
    | j :: js, h => by
      show (wipe (σ.set i x) js).set j none = ((wipe σ js).set j none).set i x
      rw [wipe_out js fun q => h (List.mem_cons_of_mem _ q), List.set_comm _ _ fun q => h (by rw [q]; exact List.mem_cons_self)]
theorem wipe_wipe {σ : L2.St} : ∀ (js : List Nat) (ks : List Nat), (∀ j ∈ js, j ∈ ks) → wipe (wipe σ js) ks = wipe σ ks
  | [], _, _ => rfl
  | j :: js, ks, h => by
    show wipe ((wipe σ js).set j none) ks = wipe σ ks
    rw [wipe_foldl.wipe_set_mem ks (h j List.mem_cons_self)]
    exact wipe_wipe js ks fun q hq => h q (List.mem_cons_of_mem _ hq)
theorem gTp_tup (is : List Nat) (ds : List Dt) (env : Lo) (st : Sto) : gTp is (.tup ds) env st = if is.length = ds.length then .nx ((is.zip ds).foldl (fun en p => en.set p.1 (some p.2)) env) st else .stuck := by
  cases is <;> rfl
theorem gok_tup (is : List Nat) (n : Nat) (hl : is.length = n) : GOk K (gTp is) (gTup K n (gNs is)) is := by
  refine ⟨fun d env st env1 st1 h => ?_, fun f H env σ st d v Q re rv h => ?_⟩
  · cases d with
    | tup ds =>
      rw [gTp_tup] at h
      split at h
      · cases h; rfl
      · cases h
    | _ => cases is <;> cases h
  · cases rv with
    | @tup ds vs a hs r =>
      rw [gTp_tup] at h
      split at h
      · rename_i env1 st1 he
        split at he
        · rename_i hl2
          cases he
          refine ⟨a, vs, rfl, hs, by rw [← r.len, ← hl2]; exact hl, gNs_ok is ds vs env _ hl2 r re fun σ' re' e' => h σ' re' ?_⟩
          rw [e', wipe_foldl is vs is _ fun _ q => q, wipe_wipe is is fun _ q => q]
        · cases he
      · exact h.elim
    | _ => cases is <;> exact h.elim
end
section
variable {X : Cx} {T : Tb} {W : WX} {elt tg iter : Expr} {ifs : List Expr} {scope : Scope} {own : List (Str × Nat)} {pos : Pos} {mw : MW} {g : MG} {tg' : TG} {tt : MT} {te : ME}
theorem ev_lc {σ : L2.St} {H : Hp} {Q : VK} {vs : List Nat} (gok : GOk X.K g tg' vs) (h : tG X.K T (rV X.K) W (mLc mw g tt te vs) σ H Q) :
    tLc (tG X.K T (RW X.K T) W mw) tg' (tG X.K T rB W0 tt) (tG X.K T (rV X.K) W0 te) vs σ H Q := by
  obtain ⟨f, env, st, re, rh, p⟩ := h
  refine ⟨f, env, st, re, rh, Post.bind (rel := RW X.K T) p fun w st1 f1 H1 J hp1 s1 rh1 rw1 p1 => fun D hD => ?_⟩
  have rn := rh1.new (u := .lst []) (o := .lst []) hD ⟨[], upd_same, .nil⟩
  refine ⟨fun i m H2 => ∃ f2 st2, f1 ++ [D] <+: f2 ∧ Stay X.K H1 H2 ∧ RH X.K T f2 H2 st2 ∧ Post X.K T (rV X.K) (fun c d H' => W c d σ H') f2 H2 (lcL w g tt te (wipeE env vs) st1.length m i st2) Q,
    ⟨w.fuel, f1 ++ [D], _, List.prefix_refl _, Stay.new hD, rn, p1.mono (List.prefix_append _ _) (Stay.new hD)⟩, ?_⟩
  rintro i m H2 ⟨f2, st2, hp2, s2, rh2, p2⟩
  have hD2 : f2[st1.length]? = some D := get_pre hp2 (ref_new rh1)
  cases m with
  | zero => exact p2.elim
  | succ n =>
    have hp12 : f1 <+: f2 := (List.prefix_append _ _).trans hp2
    have tw := rw1 i f2 H2 st2 hp12 s2 rh2
    unfold lcL at p2
    cases ht : w.turn i st2 with
    | stop =>
      rw [ht] at p2 tw
      exact .inl ⟨tw, p2.now rh2 (.ref hD2)⟩
    | stuck => rw [ht] at p2; exact p2.elim
    | item d =>
      rw [ht] at p2 tw
      simp only at p2 tw
      refine .inr ⟨tw.1, fun H4 => ∃ f4 st4, f1 ++ [D] <+: f4 ∧ Stay X.K H1 H4 ∧ RH X.K T f4 H4 st4 ∧ Post X.K T (rV X.K) (fun c d H' => W c d σ H') f4 H4 (lcL w g tt te (wipeE env vs) st1.length n (i + 1) st4) Q, fun H4 h => ⟨n, Nat.lt_succ_self n, h⟩, fun x H3 hy => ?_⟩
      obtain ⟨s3, rh3, rx⟩ := tw.2 x H3 hy
      have re3 : REn X.K H3 f2 (wipeE env vs) (wipe σ vs) := (((re.mono hp1 s1).mono hp12 (s2.trans s3)).wipes vs)
      refine gok.run f2 H3 (wipeE env vs) σ st2 d x _ re3 rx ?_
      cases hg2 : g d (wipeE env vs) st2 with
      | nx env3 st3 =>
        rw [hg2] at p2
        simp only at p2 ⊢
        have key : st3 = st2 → ∀ σ2, REn X.K H3 f2 env3 σ2 → wipe σ2 vs = wipe σ vs → (wipe σ2 vs = wipe σ vs ∧ tG X.K T rB W0 tt σ2 H3 fun b H5 => if b = true then tG X.K T (rV X.K) W0 te σ2 H5 fun y H6 => ∃ acc, H6 D = some (.lst acc) ∧ acc.length < sizeLine ∧
            ∃ f4 st4, f1 ++ [D] <+: f4 ∧ Stay X.K H1 (upd H6 D (.lst (acc ++ [y]))) ∧ RH X.K T f4 (upd H6 D (.lst (acc ++ [y]))) st4 ∧ Post X.K T (rV X.K) (fun c d H' => W c d σ H') f4 (upd H6 D (.lst (acc ++ [y]))) (lcL w g tt te (wipeE env vs) st1.length n (i + 1) st4) Q
            else ∃ f4 st4, f1 ++ [D] <+: f4 ∧ Stay X.K H1 H5 ∧ RH X.K T f4 H5 st4 ∧ Post X.K T (rV X.K) (fun c d H' => W c d σ H') f4 H5 (lcL w g tt te (wipeE env vs) st1.length n (i + 1) st4) Q) := by
          intro hst σ2 re4 hw
          subst hst
          refine ⟨hw, f2, env3, st3, re4, rh3, ?_⟩
          have p3 := p2.mono (List.prefix_refl _) s3
          cases ht2 : tt env3 st3 with
          | ok b st5 =>
            rw [ht2] at p3
            simp only at p3
            intro f5 H5 b' hp5 s5 rh5 rb
            cases rb
            have p5 := p3.mono hp5 s5
            cases b with
            | false =>
              rw [if_neg Bool.false_ne_true] at p5 ⊢
              exact ⟨f5, st5, hp2.trans hp5, (s2.trans s3).trans s5, rh5, p5⟩
            | true =>
              rw [if_pos rfl] at p5 ⊢
              refine ⟨f5, env3, st5, re4.mono hp5 s5, rh5, ?_⟩
              cases he2 : te env3 st5 with
              | ok y st6 =>
                rw [he2] at p5
                simp only at p5
                intro f6 H6 vy hp6 s6 rh6 ry
                have hD6 : f6[st1.length]? = some D := get_pre (hp5.trans hp6) hD2
                have p6 := p5.mono hp6 s6
                obtain ⟨o, ho⟩ := rh6.lt hD6
                rw [ho] at p6
                cases o with
                | lst acc =>
                  simp only at p6
                  obtain ⟨va, h1, h2⟩ := rh6.lst hD6 ho
                  split at p6
                  · rename_i hl
                    have stay := (rh6.obj _ _ _ ho hD6).stay (.lst (va ++ [vy]))
                    refine ⟨va, h1, by rw [← h2.len]; exact lim_lt hl, f6, _, (hp2.trans hp5).trans hp6, (((s2.trans s3).trans s5).trans s6).trans stay, rh6.put (o := .lst (acc ++ [y])) hD6 ⟨_, upd_same, (h2.app (.one ry)).mono (List.prefix_refl _) stay⟩, p6.mono (List.prefix_refl _) stay⟩
                  · exact p6.elim
                | _ => exact p6.elim
              | _ => rw [he2] at p5; exact p5.elim
          | _ => rw [ht2] at p3; exact p3.elim
        exact fun σ2 re4 hw => key (gok.pur _ _ _ _ _ hg2) σ2 re4 hw
      | _ => rw [hg2] at p2; exact p2.elim
/-- the tests of a comprehension -/
theorem its_nil {X : Cx} {W : WX} : PTs X [] (tG X.K T rB W mYes) := ⟨fun pins s σ H Q I ⟨f, env, st, re, rh, p⟩ => (pts_nil (X := X)).run pins s σ H Q I (p.now rh rfl)⟩
theorem its_one {X : Cx} {W : WX} {c : Expr} {m : MT} (h : IT X T W c m) : PTs X [c] (tG X.K T rB W m) := pts_one h
theorem ie_lc (hc : X.calm = true) (hN : X.N.Nodup) (vs : List Nat) (hv : own.map (·.2) = vs) (gok : GOk X.K g tg' vs) (hi : II X T W tg iter mw) (ok : BlkOk X.N X.env.scope scope own)
    (hg : ∀ (s : Shared) (H : Hp) (C : Addr) (cl : List (Str × Addr)) (fp : List Addr), PG (X.blk s H scope (compEnvC scope cl C X.env) fp) tg tg')
    (ht : ∀ (s : Shared) (H : Hp) (C : Addr) (cl : List (Str × Addr)) (fp : List Addr), PTs (X.blk s H scope (compEnvC scope cl C X.env) fp) ifs (tG X.K T rB W0 tt))
    (he : ∀ (s : Shared) (H : Hp) (C : Addr) (cl : List (Str × Addr)) (fp : List Addr), IE (X.blk s H scope (compEnvC scope cl C X.env) fp) T W0 elt te) (hs : ∀ x, foldedSetIterable iter X.env x = pure x := by intro _; rfl) :
    IE X T W (.ListComp elt [⟨tg, iter, ifs, 0⟩] scope pos) (mLc mw g tt te vs) := by
  subst hv
  exact PEw (pe_lc hc hN hi ok hg ht he hs) fun _ _ _ => ev_lc gok
theorem is_setLc (i : Nat) {y : Str} {py spos : Pos} (hc : X.calm = true) (hN : X.N.Nodup) (vs : List Nat) (hv : own.map (·.2) = vs) (gok : GOk X.K g tg' vs) (hi : II X T W tg iter mw) (ok : BlkOk X.N X.env.scope scope own)
    (hg : ∀ (s : Shared) (H : Hp) (C : Addr) (cl : List (Str × Addr)) (fp : List Addr), PG (X.blk s H scope (compEnvC scope cl C X.env) fp) tg tg')
    (ht : ∀ (s : Shared) (H : Hp) (C : Addr) (cl : List (Str × Addr)) (fp : List Addr), PTs (X.blk s H scope (compEnvC scope cl C X.env) fp) ifs (tG X.K T rB W0 tt))
    (he : ∀ (s : Shared) (H : Hp) (C : Addr) (cl : List (Str × Addr)) (fp : List Addr), IE (X.blk s H scope (compEnvC scope cl C X.env) fp) T W0 elt te)
    (hy : X.N[i]? = some y := by rfl) (hyl : X.env.scope.names.lookup y = some .local := by rfl)
    (hsw : swapsWith (.ListComp elt [⟨tg, iter, ifs, 0⟩] scope pos) (some (.Name y py)) spos.line X.env = pure true := by exact sw_true rfl rfl rfl (by decide +kernel)) (hs : ∀ x, foldedSetIterable iter X.env x = pure x := by intro _; rfl) :
    IS X T W (.Assign [.Name y py] (.ListComp elt [⟨tg, iter, ifs, 0⟩] scope pos) spos) (sSet i (mLc mw g tt te vs)) := by
  subst hv
  exact PSw (ps_setLc hc hN hy hyl hsw hi ok hg ht he hs) fun E σ H ⟨f, env, st, re, rh, p⟩ =>
    ev_lc (W := W) gok ⟨f, env, st, re, rh, PostS.on re p fun d st1 f1 H1 v hp s rh1 rv re1 p1 => p1.nx_now rh1 (re1.set rv)⟩
end
end LT
set_option Elab.async false
set_option linter.all false
set_option maxRecDepth 100000
namespace LT
open PySem PySem.Spec PyProof.Rows L2
/-! ### defs -/
def startE (n : Nat) (ds : List Dt) : Lo := ds.map some ++ List.replicate (n - ds.length) none
def runF (n : Nat) (m : MS) : MF := fun ds st => match m (startE n ds) st with
  | .nx _ st' => .ok .non st'
  | .rt d st' => .ok d st'
  | .ex _ c fs st' => .exc c fs st'
  | _ => .stuck
def spF (K : PySem.W.Frag) (T : Tb) (n : Nat) (F : MF) : Sp := fun vs H Q E => vs.length = n ∧ ∃ f ds st, RVs K H f ds vs ∧ RH K T f H st ∧ Post K T (rV K) E f H (F ds st) Q
theorem REn.start {K : PySem.W.Frag} {H : Hp} {f : List Addr} {N : List Str} {ds : List Dt} {vs : List V} (r : RVs K H f ds vs) : REn K H f (startE N.length ds) (L2.start N vs) := by
  refine ⟨?_, fun i d hi => ?_⟩
  · unfold startE L2.start
    rw [List.length_append, List.length_append, List.length_map, List.length_map, List.length_replicate, List.length_replicate, r.len]
  · unfold startE at hi
    unfold L2.start
    by_cases h : i < ds.length
    · rw [List.getElem?_append_left (by rw [List.length_map]; exact h), List.getElem?_map] at hi
      cases hd : ds[i]? with
      | none => rw [hd] at hi; cases hi
      | some d' =>
        rw [hd] at hi
        have e : d' = d := by simpa using hi
        subst e
        obtain ⟨v, h1, h2⟩ := r.get hd
        refine ⟨v, ?_, h2⟩
        rw [List.getElem?_append_left (by rw [List.length_map, ← r.len]; exact h), List.getElem?_map, h1]
        rfl
    · rw [List.getElem?_append_right (by rw [List.length_map]; omega)] at hi
      rw [List.getElem?_replicate] at hi
      split at hi <;> simp at hi
section
variable {P : Program} {w : World} {K : PySem.W.Frag} {mg : Str → Option Value} {base : Heap} {T : Tb}
/-- THE RULE for a def -/
theorem fn_ok {x qual : Str} {st : Stmt} {f : Addr} {fd : FuncData} {N ps : List Str} {k : Nat} {m : MS} (F : Fun K x qual st f fd) (S : FnScope N ps (defScope st))
    (hb : ∀ (cdv : Value) (A : Around) (outer : List Env) (s : Shared) (H : Hp) (E : XK), Room k (A.deeper (envOfC qual (defScope st) s.heap.objs.size f cdv)) →
      ISs (cxOf (L2.CX P w) P w K mg base N qual (defScope st) f cdv A outer s H E) T (fun cls d _ H => E cls d H) (defBody st) m) : FnOk P w K mg base (L2.CX P w) (k + 1) f fd ps (spF K T ps.length (runF N.length m)) := by
  refine F.okX S (fun vs H Q E h => h.1) fun cdv A outer s H vs Q E hr h => ?_
  obtain ⟨_, f0, ds, st0, rvs, rh, p⟩ := h
  refine ⟨_, hb cdv A outer s H E hr, f0, startE N.length ds, st0, REn.start rvs, rh, ?_⟩
  unfold runF at p
  show PostS K T (fun cls d _ H => E cls d H) f0 H (m (startE N.length ds) st0) _
  cases hm : m (startE N.length ds) st0 with
  | nx e1 s1 => rw [hm] at p; exact fun f' H' σ' hp s rh' _ => p f' H' .non hp s rh' .non
  | rt d s1 => rw [hm] at p; exact p
  | ex e1 c fs s1 => rw [hm] at p; exact fun f' H' σ' cls d hp s rh' _ xr => p f' H' cls d hp s rh' xr
  | bk e1 s1 => rw [hm] at p; exact p.elim
  | ct e1 s1 => rw [hm] at p; exact p.elim
  | stuck => rw [hm] at p; exact p.elim
end
def mCall (n : Nat) (F : MF) (a : MA) (dv : List Dt) : ME := fun env st => (a env st).bind fun ds st1 => if ds.length + dv.length = n then F (ds ++ dv) st1 else .stuck
section
variable {X : Cx} {T : Tb} {W : WX} {e : Expr} {es : List Expr} {ms : MA} {me : ME} {pos p : Pos} {k n : Nat} {f : Addr} {fd : FuncData} {ps : List Str} {F : MF} {dv : List Dt} {dvs : List V} {dfs : List Value} {x : Str}
theorem ie_call (G : FnOk X.prog X.w X.K X.mg X.base (L2.CX X.prog X.w) k f fd ps (spF X.K T n F)) (hr : Room k X.A) (hm : X.mg x = some (.ref f)) (hk : PySem.W.keepIn X.K (.ref f) = true) (hb : Binds X.K fd ps dfs) (hd : Vals dvs dfs) (hdv : ∀ H f, RVs X.K H f dv dvs)
    (tk : Takes X W) (ha : IA X T W (e :: es) ms) (hg : Gl X x := by rfl) (hdb : (x == ("__debug__" : Str)) = false := by decide) (he : starEach (e :: es) X.env = (false, eval e X.env) :: starEach es X.env := by rfl) (hpl : (backTo pos (starEach es X.env)).any (·.1) = false := by rfl) :
    IE X T W (.Call (.Name x p) (e :: es) [] pos) (mCall n F ms dv) := PEw (pe_callSD G hr hg hm hk hb hd (E := fun σ c d H => W c d σ H) (fun σ => passAt tk σ) ha hdb he hpl) fun σ H Q ⟨f, env, st, re, rh, p⟩ =>
  ⟨f, env, st, re, rh, p.bind fun x st1 f1 H1 vx hp s rh1 rx p1 => by
    split at p1
    · rename_i hl
      exact ⟨by rw [List.length_append, ← rx.len, ← (hdv H1 f1).len]; exact hl, f1, _, st1, rx.app (hdv H1 f1), rh1, p1⟩
    · exact p1.elim⟩
/-! ### instances -/
def putN (k : Nat) (d : Dt) : List (Nat × Dt) → List (Nat × Dt)
  | [] => [(k, d)]
  | (g, x) :: r => if g = k then (g, d) :: r else (g, x) :: putN k d r
theorem FR.lookup {K : PySem.W.Frag} {H : Hp} {f : List Addr} {k : Nat} {d : Dt} : ∀ {fs : List (Nat × Dt)} {vs : List (Str × V)}, FR K T H f fs vs → fs.lookup k = some d → ∃ v, vs.lookup (T.fld k) = some v ∧ RV K H f d v
  | _, _, .nil, h => by cases h
  | _, _, @FR.cons _ _ _ _ i d' v fs vs r t, h => by
    rw [List.lookup_cons] at h
    by_cases e : k = i
    · subst e
      rw [beq_self_eq_true] at h
      have e2 : d' = d := by simpa using h
      subst e2
      exact ⟨v, by rw [List.lookup_cons, beq_self_eq_true], r⟩
    · rw [beq_eq_false_iff_ne.mpr e] at h
      obtain ⟨v', h1, h2⟩ := FR.lookup t h
      refine ⟨v', ?_, h2⟩
      rw [List.lookup_cons, beq_eq_false_iff_ne.mpr (fun q => e (T.inj _ _ q))]
      exact h1
theorem FR.lookup_none {K : PySem.W.Frag} {H : Hp} {f : List Addr} {k : Nat} : ∀ {fs : List (Nat × Dt)} {vs : List (Str × V)}, FR K T H f fs vs → fs.lookup k = none → vs.lookup (T.fld k) = none
  | _, _, .nil, _ => rfl
  | _, _, @FR.cons _ _ _ _ i d' v fs vs r t, h => by
    rw [List.lookup_cons] at h
    by_cases e : k = i
    · subst e
      rw [beq_self_eq_true] at h
      cases h
    · rw [beq_eq_false_iff_ne.mpr e] at h
      rw [List.lookup_cons, beq_eq_false_iff_ne.mpr (fun q => e (T.inj _ _ q))]
      exact FR.lookup_none t h
theorem FR.put {K : PySem.W.Frag} {H : Hp} {f : List Addr} {k : Nat} {d : Dt} {v : V} (r : RV K H f d v) : ∀ {fs : List (Nat × Dt)} {vs : List (Str × V)}, FR K T H f fs vs → FR K T H f (putN k d fs) (putF (T.fld k) v vs)
  | _, _, .nil => .cons r .nil
  | _, _, @FR.cons _ _ _ _ i d' v' fs vs r' t => by
    unfold putN putF
    by_cases e : i = k
    · subst e
      rw [if_pos rfl, if_pos rfl]
      exact .cons r t
    · rw [if_neg e, if_neg (fun q => e (T.inj _ _ q))]
      exact .cons r' (FR.put r t)
theorem FR.len {K : PySem.W.Frag} {H : Hp} {f : List Addr} : ∀ {fs : List (Nat × Dt)} {vs : List (Str × V)}, FR K T H f fs vs → fs.length = vs.length
  | _, _, .nil => rfl
  | _, _, .cons _ t => by rw [List.length_cons, List.length_cons, FR.len t]
def insD (x : Dt) (st : Sto) : Option (Nat × List (Nat × Dt)) := match x with
  | .ref i => match st[i]? with
    | some (.ins c fs) => some (c, fs)
    | _ => none
  | _ => none
theorem insD_ok {K : PySem.W.Frag} {f : List Addr} {H : Hp} {st : Sto} {d : Dt} {v : V} {c : Nat} {fs : List (Nat × Dt)} (rh : RH K T f H st) (r : RV K H f d v) (h : insD d st = some (c, fs)) : ∃ i a dx vs, d = .ref i ∧ f[i]? = some a ∧ st[i]? = some (.ins c fs) ∧ v = .ref a ∧ H a = some (.ins (T.cls c) dx vs) ∧ FR K T H f fs vs := by
  cases r with
  | @ref i a hi =>
    obtain ⟨o, ho⟩ := rh.lt hi
    simp only [insD, ho] at h
    cases o with
    | ins c' fs' =>
      cases h
      obtain ⟨dx, vs, h1, h2⟩ := rh.obj _ _ _ ho hi
      exact ⟨i, a, dx, vs, rfl, hi, ho, rfl, h1, h2⟩
    | _ => cases h
  | _ => cases h
/-- fields of the classes cs -/
def mFld (cs : List Nat) (k : Nat) (a : ME) : ME := fun env st => (a env st).bind fun x st1 => match insD x st1 with
  | some (c, fs) => if cs.contains c then (match fs.lookup k with
    | some d => .ok d st1
    | none => .stuck) else .stuck
  | none => .stuck
theorem ie_fld {f : Str} (cs : List Nat) (k : Nat) (hf : T.fld k = f) (hC : ∀ c, cs.contains c = true → Cls X.K (T.cls c) ∧ NoAttr X.K (T.cls c) f) (he : IE X T W e me) (hb : attributeBase e f X.env (eval e X.env) = eval e X.env := by rfl) :
    IE X T W (.Attribute e f pos) (mFld cs k me) := by
  subst hf
  exact PEw (pe_fld he hb) fun σ H Q ⟨f, env, st, re, rh, p⟩ => ⟨f, env, st, re, rh, p.bind fun x st1 f1 H1 vx hp s rh1 rx p1 => by
    cases hi : insD x st1 with
    | none => rw [hi] at p1; exact p1.elim
    | some cf =>
      obtain ⟨c, fs⟩ := cf
      rw [hi] at p1
      simp only at p1
      obtain ⟨i, a, dx, vs, rfl, h1, h2, rfl, h3, h4⟩ := insD_ok rh1 rx hi
      split at p1
      · rename_i hc
        cases hl : fs.lookup k with
        | none => rw [hl] at p1; exact p1.elim
        | some d =>
          rw [hl] at p1
          obtain ⟨v, hv, rv⟩ := h4.lookup hl
          exact ⟨a, _, dx, vs, v, rfl, h3, (hC c hc).1, (hC c hc).2, hv, p1.now rh1 rv⟩
      · exact p1.elim⟩
def sFldSet (cs : List Nat) (k : Nat) (o v : ME) : MS := fun env st => (v env st).on env fun d st1 => (o env st1).on env fun x st2 => match insD x st2, x with
  | some (c, fs), .ref i => if cs.contains c && decide (fs.length < 900) then .nx env (st2.set i (.ins c (putN k d fs))) else .stuck
  | _, _ => .stuck
theorem is_fld {o : Expr} {mo : ME} {f : Str} {p' : Pos} (cs : List Nat) (k : Nat) (hf : T.fld k = f) (hC : ∀ c, cs.contains c = true → Cls X.K (T.cls c) ∧ NoAttr X.K (T.cls c) f) (ho : IE X T W o mo) (he : IE X T W e me) (hs : swapsWith e (some (.Attribute o f p')) pos.line X.env = pure false := by rfl) :
    IS X T W (.Assign [.Attribute o f p'] e pos) (sFldSet cs k mo me) := by
  subst hf
  exact PSw (ps_fld ho he hs) fun E σ H ⟨f, env, st, re, rh, p⟩ => ⟨f, env, st, re, rh, PostS.on re p fun d st1 f1 H1 v hp s rh1 rv re1 p1 => ⟨f1, env, st1, re1, rh1, PostS.on re1 p1 fun x st2 f2 H2 vx hp2 s2 rh2 rx re2 p2 => by
    cases hi : insD x st2 with
    | none => rw [hi] at p2; exact p2.elim
    | some cf =>
      obtain ⟨c, fs⟩ := cf
      obtain ⟨i, a, dx, vs, rfl, h1, h2, rfl, h3, h4⟩ := insD_ok rh2 rx hi
      rw [hi] at p2
      simp only at p2
      split at p2
      · rename_i hc
        rw [Bool.and_eq_true] at hc
        have stay := (rh2.obj _ _ _ h2 h1).stay (.ins (T.cls c) dx (putF (T.fld k) v vs))
        refine ⟨a, _, dx, vs, rfl, h3, (hC c hc.1).1, (hC c hc.1).2, by rw [← h4.len]; have := of_decide_eq_true hc.2; omega, ?_⟩
        exact p2 f2 _ σ (List.prefix_refl _) stay (rh2.put h1 ⟨dx, _, upd_same, (h4.put (rv.mono hp2 s2)).mono (List.prefix_refl _) stay⟩) (re2.mono (List.prefix_refl _) stay)
      · exact p2.elim⟩⟩
/-! methods -/
def mMeth (c mk n : Nat) (F : MF) (o : ME) (a : MA) (dv : List Dt) : ME := fun env st => (o env st).bind fun x st1 => match insD x st1 with
  | some (c', fs) => if c' = c ∧ fs.lookup mk = none then (a env st1).bind fun ds st2 => if ds.length + dv.length + 1 = n then F (x :: (ds ++ dv)) st2 else .stuck else .stuck
  | none => .stuck
end
/-- o.m(e, ..), the raised wished for at the slots -/
def tMethS (C : Addr) (m : Str) (sp : Sp) (dvs : List V) (W : WX) (ta : TE) (t : TA) : TE := fun σ H Q => ta σ H fun x H1 => ∃ a dx fs, x = .ref a ∧ H1 a = some (.ins C dx fs) ∧ fs.lookup m = none ∧ t σ H1 fun vs H2 => sp (.ref a :: (vs ++ dvs)) H2 Q (fun c d H' => W c d σ H')
def tMakeS (C : Addr) (sp : Sp) (dvs : List V) (W : WX) (t : TA) : TE := fun σ H Q => t σ H fun vs H1 => ∀ x dx, H1 x = none → H1 dx = none → dx ≠ x → sp (.ref x :: (vs ++ dvs)) (upd (upd H1 dx (.own x)) x (.ins C dx [])) (fun v H2 => v = .non ∧ Q (.ref x) H2) (fun c d H' => W c d σ H')
section
variable {X : Cx} {W : WX} {C f : Addr} {k : Nat} {fd : FuncData} {ps : List Str} {sp : Sp} {ds : List Value} {dvs : List V} {m x : Str} {o e : Expr} {es : List Expr} {ta : TE} {t : TA} {apos pos p : Pos}
theorem pe_methW {pl : Sem Bool} (he : PE X o ta) (c : Cls X.K C) (hm : Meth X.K C m f) (F : FnOk X.prog X.w X.K X.mg X.base (L2.CX X.prog X.w) k f fd ps sp) (hr : Room k X.A) (hb : Binds X.K fd ps ds) (hd : Vals dvs ds) (tk : Takes X W) (ha : PA X (e :: es) t)
    (hst : starEach (e :: es) X.env = (false, eval e X.env) :: starEach es X.env := by rfl) (hpl : (backTo pos (starEach es X.env)).any (·.1) = false := by rfl)
    (ht : eval (.Call (.Attribute o m apos) (e :: es) [] pos) X.env = (do
      let ov ← eval o X.env
      standAt apos.atName
      let (f, first) ← holding [ov] (getMethod ov m pl)
      callWith pos f first (backTo pos (starEach (e :: es) X.env)) (backToKw pos (keywordEach [] X.env))) := by rfl) :
    PE X (.Call (.Attribute o m apos) (e :: es) [] pos) (tMethS C m sp dvs W ta t) := ⟨fun pins s σ H Q I h => by
  refine PySem.W.methodCall_KW (pl := pl) (thn (he.run pins s σ H _ I h) fun u s1 hu => ?_) ht
  obtain ⟨y, H1, J, ry, a, dx, fs, rfl, ea, l, q⟩ := hu
  cases ry
  refine getmeth_ok J ea c hm l (PySem.W.callWith_K (first := [.ref a]) (h₀ := X.base) I.ok.mod.kin hm.kp (thn (ha.run pos pins s1 σ H1 _ J q) fun us s2 h2 => ?_) hst hpl)
  obtain ⟨vs, H2, J2, r, q2⟩ := h2
  exact ⟨J2.kIn, run_fnSD (E := fun σ c d H' => W c d σ H') (us := .ref a :: us) (vs := .ref a :: vs) F hr hb hd (passAt tk σ) J2 (.cons rfl r) q2⟩⟩
theorem pe_methW0 {pl : Sem Bool} (he : PE X o ta) (c : Cls X.K C) (hm : Meth X.K C m f) (F : FnOk X.prog X.w X.K X.mg X.base (L2.CX X.prog X.w) k f fd ps sp) (hr : Room k X.A) (hb : Binds X.K fd ps ds) (hd : Vals dvs ds) (tk : Takes X W)
    (ht : eval (.Call (.Attribute o m apos) [] [] pos) X.env = (do
      let ov ← eval o X.env
      standAt apos.atName
      let (f, first) ← holding [ov] (getMethod ov m pl)
      callWith pos f first (backTo pos (starEach [] X.env)) (backToKw pos (keywordEach [] X.env))) := by rfl) :
    PE X (.Call (.Attribute o m apos) [] [] pos) (tMethS C m sp dvs W ta tNil) := ⟨fun pins s σ H Q I h => by
  refine PySem.W.methodCall_KW (pl := pl) (thn (he.run pins s σ H _ I h) fun u s1 hu => ?_) ht
  obtain ⟨y, H1, J, ry, a, dx, fs, rfl, ea, l, q⟩ := hu
  cases ry
  exact getmeth_ok J ea c hm l (PySem.W.callWith_K0 (first := [.ref a]) J.kIn hm.kp (run_fnSD (E := fun σ c d H' => W c d σ H') (us := [.ref a]) (vs := [.ref a]) F hr hb hd (passAt tk σ) J (.cons rfl .nil) q))⟩
theorem run_makeW {pins : List (Addr × Obj)} {σ : L2.St} {H : Hp} {s : Shared} {Q : VK} {us : List Value} {vs : List V} (M : Mk X.K C f) (F : FnOk X.prog X.w X.K X.mg X.base (L2.CX X.prog X.w) k f fd ps sp) (hr : Room (k + 1) X.A) (hb : Binds X.K fd ps ds) (hd : Vals dvs ds) (tk : Takes X W)
    (I : Inv X pins σ H s) (r : Vals vs us)
    (h : ∀ y dx, H y = none → H dx = none → dx ≠ y → sp (.ref y :: (vs ++ dvs)) (upd (upd H dx (.own y)) y (.ins C dx [])) (fun v H2 => v = .non ∧ Q (.ref y) H2) (fun c d H' => W c d σ H')) :
    wpAny (model X.prog X.w) X.A (call (.ref C) us) (EP X pins σ Q) X.xe s := by
  generalize hn : s.heap.objs.size = n at *
  have f1 : H (n + 1) = none := I.hok.fresh (by rw [hn]; exact Nat.le_succ _)
  have f0 : H n = none := I.hok.fresh (by rw [hn]; exact Nat.le_refl _)
  have hq := h (n + 1) n f1 f0 (Nat.ne_of_lt (Nat.lt_succ_self n))
  have J := Inv.made (C := C) I
  rw [hn] at J
  have r2 : Vals (V.ref (n + 1) :: (vs ++ dvs)) (Value.ref (n + 1) :: (us ++ ds)) := .cons rfl (r.append hd)
  have hl : (Value.ref (n + 1) :: us ++ ds).length = ps.length := (r2.length.symm.trans (F.len _ _ _ _ hq) : _)
  have run := F.run _ X.stack _ _ ⟨Value.ref (n + 1) :: us, []⟩ (Value.ref (n + 1) :: (us ++ ds)) _ _ (fun c d H' => W c d σ H') (hr.make C us []) (J.env0.make C us []) (hb _ (Value.ref (n + 1) :: us) J.kIn hl) r2 hq
  subst hn
  refine wpAny_call (make_map (f := f) I.kIn M.makes M.init (beq_iff_eq.mp M.fn) (codeAny_mono run fun rr s' hq' => ?_))
  cases rr with
  | error er => exact passAt tk σ pins _ _ er s' J hq'
  | ok fl =>
    cases fl with
    | ret u =>
      obtain ⟨v, H', J3, rv, ev, q3⟩ := J.after hq'
      subst ev
      exact ⟨rv, ⟨V.ref (s.heap.objs.size + 1), H', J3, rfl, q3⟩⟩
    | next => exact hq'.elim
    | brk => exact hq'.elim
    | cont => exact hq'.elim
theorem pe_makeW (M : Mk X.K C f) (F : FnOk X.prog X.w X.K X.mg X.base (L2.CX X.prog X.w) k f fd ps sp) (hr : Room (k + 1) X.A) (hg : Gl X x) (hm : X.mg x = some (.ref C)) (hb : Binds X.K fd ps ds) (hd : Vals dvs ds) (tk : Takes X W)
    (ha : PA X (e :: es) t) (hdb : (x == ("__debug__" : Str)) = false := by decide) (he : starEach (e :: es) X.env = (false, eval e X.env) :: starEach es X.env := by rfl) (hpl : (backTo pos (starEach es X.env)).any (·.1) = false := by rfl) :
    PE X (.Call (.Name x p) (e :: es) [] pos) (tMakeS C sp dvs W t) := ⟨fun pins s σ H Q I h => by
  refine wpAny_Call_Name_kw (ld_glob I hg hm (PySem.W.callWith_K (h₀ := X.base) I.ok.mod.kin M.kp (thn (ha.run pos pins s σ H _ I h) fun us s1 h1 => ?_) he hpl) hdb)
  obtain ⟨vs, H1, J, r, q⟩ := h1
  exact ⟨J.kIn, run_makeW M F hr hb hd tk J r q⟩⟩
theorem pe_makeW0 (M : Mk X.K C f) (F : FnOk X.prog X.w X.K X.mg X.base (L2.CX X.prog X.w) k f fd ps sp) (hr : Room (k + 1) X.A) (hg : Gl X x) (hm : X.mg x = some (.ref C)) (hb : Binds X.K fd ps ds) (hd : Vals dvs ds) (tk : Takes X W)
    (hdb : (x == ("__debug__" : Str)) = false := by decide) : PE X (.Call (.Name x p) [] [] pos) (tMakeS C sp dvs W tNil) := ⟨fun pins s σ H Q I h =>
  wpAny_Call_Name_kw (ld_glob I hg hm (PySem.W.callWith_K0 I.kIn M.kp (run_makeW (us := []) M F hr hb hd tk I .nil h)) hdb)⟩
end
section
variable {X : Cx} {T : Tb} {W : WX} {C f : Addr} {k n c mk : Nat} {fd : FuncData} {ps : List Str} {F : MF} {dfs : List Value} {dv : List Dt} {dvs : List V} {m x : Str} {o e : Expr} {es : List Expr} {mo : ME} {ms : MA} {apos pos p : Pos}
theorem ev_meth {σ : L2.St} {H : Hp} {Q : VK} (hmk : T.fld mk = m) (hdv : ∀ H f, RVs X.K H f dv dvs) (h : tG X.K T (rV X.K) W (mMeth c mk n F mo ms dv) σ H Q) :
    tMethS (T.cls c) m (spF X.K T n F) dvs W (tG X.K T (rV X.K) W mo) (tG X.K T (rVs X.K) W ms) σ H Q := by
  subst hmk
  obtain ⟨f, env, st, re, rh, p⟩ := h
  refine ⟨f, env, st, re, rh, p.bind fun x st1 f1 H1 vx hp s rh1 rx p1 => ?_⟩
  cases hi : insD x st1 with
  | none => rw [hi] at p1; exact p1.elim
  | some cf =>
    obtain ⟨c', fs⟩ := cf
    obtain ⟨i, a, dx, vs, rfl, h1, h2, rfl, h3, h4⟩ := insD_ok rh1 rx hi
    rw [hi] at p1
    simp only at p1
    split at p1
    · rename_i hc
      obtain ⟨rfl, hl⟩ := hc
      refine ⟨a, dx, vs, rfl, h3, h4.lookup_none hl, f1, env, st1, re.mono hp s, rh1, p1.bind fun ds st2 f2 H2 vs2 hp2 s2 rh2 rv2 p2 => ?_⟩
      split at p2
      · rename_i hn
        exact ⟨by rw [List.length_cons, List.length_append, ← rv2.len, ← (hdv H2 f2).len]; omega, f2, _, st2, .cons (.ref (get_pre hp2 h1)) (rv2.app (hdv H2 f2)), rh2, p2⟩
      · exact p2.elim
    · exact p1.elim
theorem ie_meth {pl : Sem Bool} (hmk : T.fld mk = m) (he : IE X T W o mo) (cl : Cls X.K (T.cls c)) (hm : Meth X.K (T.cls c) m f) (G : FnOk X.prog X.w X.K X.mg X.base (L2.CX X.prog X.w) k f fd ps (spF X.K T n F)) (hr : Room k X.A) (hb : Binds X.K fd ps dfs) (hd : Vals dvs dfs) (hdv : ∀ H f, RVs X.K H f dv dvs) (tk : Takes X W) (ha : IA X T W (e :: es) ms)
    (hst : starEach (e :: es) X.env = (false, eval e X.env) :: starEach es X.env := by rfl) (hpl : (backTo pos (starEach es X.env)).any (·.1) = false := by rfl)
    (ht : eval (.Call (.Attribute o m apos) (e :: es) [] pos) X.env = (do
      let ov ← eval o X.env
      standAt apos.atName
      let (f, first) ← holding [ov] (getMethod ov m pl)
      callWith pos f first (backTo pos (starEach (e :: es) X.env)) (backToKw pos (keywordEach [] X.env))) := by rfl) :
    IE X T W (.Call (.Attribute o m apos) (e :: es) [] pos) (mMeth c mk n F mo ms dv) := PEw (pe_methW (pl := pl) he cl hm G hr hb hd tk ha hst hpl ht) fun _ _ _ => ev_meth hmk hdv
theorem ie_meth0 {pl : Sem Bool} (hmk : T.fld mk = m) (he : IE X T W o mo) (cl : Cls X.K (T.cls c)) (hm : Meth X.K (T.cls c) m f) (G : FnOk X.prog X.w X.K X.mg X.base (L2.CX X.prog X.w) k f fd ps (spF X.K T n F)) (hr : Room k X.A) (hb : Binds X.K fd ps dfs) (hd : Vals dvs dfs) (hdv : ∀ H f, RVs X.K H f dv dvs) (tk : Takes X W)
    (ht : eval (.Call (.Attribute o m apos) [] [] pos) X.env = (do
      let ov ← eval o X.env
      standAt apos.atName
      let (f, first) ← holding [ov] (getMethod ov m pl)
      callWith pos f first (backTo pos (starEach [] X.env)) (backToKw pos (keywordEach [] X.env))) := by rfl) :
    IE X T W (.Call (.Attribute o m apos) [] [] pos) (mMeth c mk n F mo mNil dv) := PEw (pe_methW0 (pl := pl) he cl hm G hr hb hd tk ht) fun σ H Q h => by
  have h' := ev_meth (X := X) (W := W) hmk hdv h
  obtain ⟨f, env, st, re, rh, p⟩ := h'
  refine ⟨f, env, st, re, rh, ?_⟩
  cases hx : mo env st with
  | ok y st1 =>
    rw [hx] at p
    intro f1 H1 b hp s rh1 rb
    obtain ⟨a, dx, fs, ea, ha, hl, f2, env2, st2, re2, rh2, p2⟩ := p f1 H1 b hp s rh1 rb
    exact ⟨a, dx, fs, ea, ha, hl, p2.now rh2 .nil⟩
  | exc c' fs' st1 => rw [hx] at p; exact p
  | stuck => rw [hx] at p; exact p
/-! making -/
def mMake (c n : Nat) (F : MF) (a : MA) (dv : List Dt) : ME := fun env st => (a env st).bind fun ds st1 => if ds.length + dv.length + 1 = n then (F (.ref st1.length :: (ds ++ dv)) (st1 ++ [.ins c []])).bind fun r st2 => (match r with
  | .non => .ok (.ref st1.length) st2
  | _ => .stuck) else .stuck
theorem ev_make {σ : L2.St} {H : Hp} {Q : VK} (hdv : ∀ H f, RVs X.K H f dv dvs) (h : tG X.K T (rV X.K) W (mMake c n F ms dv) σ H Q) : tMakeS (T.cls c) (spF X.K T n F) dvs W (tG X.K T (rVs X.K) W ms) σ H Q := by
  obtain ⟨f, env, st, re, rh, p⟩ := h
  refine ⟨f, env, st, re, rh, p.bind fun ds st1 f1 H1 vs hp s rh1 rx p1 => fun x dx nx ndx ne => ?_⟩
  split at p1
  · rename_i hn
    have rs := rh1.side (u := .own x) ndx
    have nx' : upd H1 dx (.own x) x = none := by rw [upd_ne (Ne.symm ne)]; exact nx
    have s2 : Stay X.K H1 (upd (upd H1 dx (.own x)) x (.ins (T.cls c) dx [])) := (Stay.new ndx).trans (Stay.new nx')
    have rn := rs.new (u := .ins (T.cls c) dx []) (o := .ins c []) nx' ⟨dx, [], upd_same, .nil⟩
    refine ⟨by rw [List.length_cons, List.length_append, ← rx.len, ← (hdv H1 f1).len]; omega, f1 ++ [x], _, _, .cons (.ref (ref_new rh1)) ((rx.app (hdv H1 f1)).mono (List.prefix_append _ _) s2), rn, ?_⟩
    have p2 := p1.mono (List.prefix_append f1 [x]) s2
    refine p2.bind fun r st3 f3 H3 v hp3 s3 rh3 rv p3 => ?_
    cases rv with
    | non => exact ⟨rfl, p3.now rh3 (.ref (get_pre hp3 (ref_new rh1)))⟩
    | _ => exact p3.elim
  · exact p1.elim
theorem ie_make (M : Mk X.K (T.cls c) f) (G : FnOk X.prog X.w X.K X.mg X.base (L2.CX X.prog X.w) k f fd ps (spF X.K T n F)) (hr : Room (k + 1) X.A) (hm : X.mg x = some (.ref (T.cls c))) (hb : Binds X.K fd ps dfs) (hd : Vals dvs dfs) (hdv : ∀ H f, RVs X.K H f dv dvs) (tk : Takes X W) (ha : IA X T W (e :: es) ms)
    (hg : Gl X x := by rfl) (hdb : (x == ("__debug__" : Str)) = false := by decide) (he : starEach (e :: es) X.env = (false, eval e X.env) :: starEach es X.env := by rfl) (hpl : (backTo pos (starEach es X.env)).any (·.1) = false := by rfl) :
    IE X T W (.Call (.Name x p) (e :: es) [] pos) (mMake c n F ms dv) := PEw (pe_makeW M G hr hg hm hb hd tk ha hdb he hpl) fun _ _ _ => ev_make hdv
theorem ie_make0 (M : Mk X.K (T.cls c) f) (G : FnOk X.prog X.w X.K X.mg X.base (L2.CX X.prog X.w) k f fd ps (spF X.K T n F)) (hr : Room (k + 1) X.A) (hm : X.mg x = some (.ref (T.cls c))) (hb : Binds X.K fd ps dfs) (hd : Vals dvs dfs) (hdv : ∀ H f, RVs X.K H f dv dvs) (tk : Takes X W)
    (hg : Gl X x := by rfl) (hdb : (x == ("__debug__" : Str)) = false := by decide) :
    IE X T W (.Call (.Name x p) [] [] pos) (mMake c n F mNil dv) := PEw (pe_makeW0 M G hr hg hm hb hd tk hdb) fun σ H Q h => by
  obtain ⟨f, env, st, re, rh, p⟩ := ev_make (X := X) (W := W) hdv h
  exact p.now rh .nil
end
end LT
set_option Elab.async false
set_option linter.all false
set_option maxRecDepth 100000
namespace LT
open PySem PySem.Spec PyProof.Rows L2
/-! ### methods of what is built in -/
def mBM (chk : Dt → Sto → Bool) (g : Dt → List Dt → Sto → Re Dt) (o : ME) (a : MA) : ME := fun env st => (o env st).bind fun x st1 => if chk x st1 then (a env st1).bind fun ds st2 => g x ds st2 else .stuck
def mBM0 (chk : Dt → Sto → Bool) (g : Dt → List Dt → Sto → Re Dt) (o : ME) : ME := fun env st => (o env st).bind fun x st1 => if chk x st1 then g x [] st1 else .stuck
def isL (x : Dt) (st : Sto) : Bool := (lstD x st).isSome
def isS (x : Dt) (_ : Sto) : Bool := match x with
  | .str _ => true
  | _ => false
def isDk (x : Dt) (st : Sto) : Bool := match x with
  | .ref i => match st[i]? with
    | some (.dk _) => true
    | _ => false
  | _ => false
def Chk (K : PySem.W.Frag) (T : Tb) (Ty : String) (chk : Dt → Sto → Bool) : Prop := ∀ (f : List Addr) (H : Hp) (st : Sto) (x : Dt) (v : V), RH K T f H st → RV K H f x v → chk x st = true → tyV K Ty v H
def SndM (K : PySem.W.Frag) (T : Tb) (r : V → List V → Hp → VK → Prop) (g : Dt → List Dt → Sto → Re Dt) : Prop := ∀ (f : List Addr) (H : Hp) (st : Sto) (x : Dt) (v : V) (xs : List Dt) (vs : List V) (Wx : Value → Option Addr → Hp → Prop) (Q : VK),
  RH K T f H st → RV K H f x v → RVs K H f xs vs → Post K T (rV K) Wx f H (g x xs st) Q → r v vs H Q
section
variable {X : Cx} {T : Tb} {W : WX} {o e : Expr} {es : List Expr} {mo me : ME} {ms : MA} {name : Str} {apos cpos pos : Pos} {Ty id : String} {r : V → List V → Hp → VK → Prop} {chk : Dt → Sto → Bool} {g : Dt → List Dt → Sto → Re Dt} {K : PySem.W.Frag}
theorem chk_list : Chk K T "list" isL := fun f H st x v rh rx h => by
  unfold isL at h
  obtain ⟨xs, hx⟩ := Option.isSome_iff_exists.mp h
  obtain ⟨a, vs, rfl, hs, _⟩ := lstD_ok rh rx hx
  exact .inl ⟨rfl, _, hs⟩
theorem chk_str : Chk K T "str" isS := fun f H st x v rh rx h => by
  cases rx <;> first | rfl | cases h
theorem chk_dict : Chk K T "dict" isDk := fun f H st x v rh rx h => by
  cases rx with
  | @ref i a hi =>
    obtain ⟨o, ho⟩ := rh.lt hi
    simp only [isDk, ho] at h
    cases o with
    | dk kvs => obtain ⟨vs, h1, _⟩ := rh.obj _ _ _ ho hi; exact .inr (.inr (.inl ⟨rfl, .inl ⟨vs, h1⟩⟩))
    | _ => cases h
  | _ => cases h
theorem ie_bm (pa : PlainAttrs Ty) (slot : Slot Ty name id) (hty : typeOf (.builtin id) = pure (.type "method_descriptor")) (hm : MtR X id r) (hc : Chk X.K T Ty chk) (hg : SndM X.K T r g) (ho : IE X T W o mo) (ha : IA X T W (e :: es) ms)
    (hbase : attributeBase o name X.env (eval o X.env) = eval o X.env := by rfl)
    (hfew : ((backTo cpos (starEach (e :: es) X.env)).all (fun x => !x.1) && (backToKw cpos (keywordEach [] X.env)).all (fun x => x.1.isSome) && decide ((e :: es).length + ([] : List Keyword).length + (if ([] : List Keyword).isEmpty then 0 else 1) < 30)) = true := by rfl)
    (hline : (apos.endLine == cpos.line) = true := by rfl) (hs : starEach (e :: es) X.env = (false, eval e X.env) :: starEach es X.env := by rfl) (hplain : (backTo cpos (starEach es X.env)).any (·.1) = false := by rfl) :
    IE X T W (.Call (.Attribute o name apos) (e :: es) [] cpos) (mBM chk g mo ms) := PEw (pe_bm pa slot hty hm ho ha hbase hfew hline hs hplain) fun σ H Q ⟨f, env, st, re, rh, p⟩ =>
  ⟨f, env, st, re, rh, p.bind fun x st1 f1 H1 vx hp s rh1 rx p1 => by
    split at p1
    · rename_i hk
      exact ⟨hc _ _ _ _ _ rh1 rx hk, f1, env, st1, re.mono hp s, rh1, p1.bind fun ds st2 f2 H2 vs hp2 s2 rh2 rv p2 => hg f2 H2 st2 x vx ds vs _ _ rh2 (rx.mono hp2 s2) rv p2⟩
    · exact p1.elim⟩
theorem ie_bm0 (pa : PlainAttrs Ty) (slot : Slot Ty name id) (hty : typeOf (.builtin id) = pure (.type "method_descriptor")) (hm : MtR X id r) (hc : Chk X.K T Ty chk) (hg : SndM X.K T r g) (ho : IE X T W o mo)
    (hbase : attributeBase o name X.env (eval o X.env) = eval o X.env := by rfl) (hline : (apos.endLine == cpos.line) = true := by rfl) :
    IE X T W (.Call (.Attribute o name apos) [] [] cpos) (mBM0 chk g mo) := PEw (pe_bm0 pa slot hty hm ho hbase hline) fun σ H Q ⟨f, env, st, re, rh, p⟩ =>
  ⟨f, env, st, re, rh, p.bind fun x st1 f1 H1 vx hp s rh1 rx p1 => by
    split at p1
    · rename_i hk
      exact ⟨hc _ _ _ _ _ rh1 rx hk, hg f1 H1 st1 x vx [] [] _ _ rh1 rx .nil p1⟩
    · exact p1.elim⟩
def appendD (x : Dt) (ys : List Dt) (st : Sto) : Re Dt := match x, ys with
  | .ref i, [y] => match st[i]? with
    | some (.lst xs) => if xs.length < lim then .ok .non (st.set i (.lst (xs ++ [y]))) else .stuck
    | _ => .stuck
  | _, _ => .stuck
theorem snd_append : SndM K T rAppend appendD := fun f H st x v xs vs Wx Q rh rx r p => by
  cases rx with
  | @ref i a hi =>
    cases r with
    | nil => exact p.elim
    | cons ry t =>
      cases t with
      | cons _ _ => exact p.elim
      | nil =>
        obtain ⟨o, ho⟩ := rh.lt hi
        simp only [appendD, ho] at p
        cases o with
        | lst zs =>
          simp only at p
          split at p
          · rename_i hl
            obtain ⟨vs, h1, h2⟩ := rh.lst hi ho
            exact ⟨a, vs, _, rfl, rfl, h1, by rw [← h2.len]; exact lim_lt hl, put_ob p rh hi ho ⟨_, upd_same, (h2.app (.one ry)).mono (List.prefix_refl _) ((rh.obj _ _ _ ho hi).stay _)⟩ .non⟩
          · exact p.elim
        | _ => exact p.elim
  | _ => exact p.elim
def extendD (x : Dt) (ys : List Dt) (st : Sto) : Re Dt := match x, ys with
  | .ref i, [.ref j] => match st[i]?, st[j]? with
    | some (.lst xs), some (.lst zs) => if xs.length + zs.length ≤ lim then .ok .non (st.set i (.lst (xs ++ zs))) else .stuck
    | _, _ => .stuck
  | _, _ => .stuck
theorem snd_extend : SndM K T rExtend extendD := fun f H st x v xs vs Wx Q rh rx r p => by
  cases rx with
  | @ref i a hi =>
    cases r with
    | nil => exact p.elim
    | cons ry t =>
      cases t with
      | cons _ _ => cases ry <;> exact p.elim
      | nil =>
        cases ry with
        | @ref j b hj =>
          obtain ⟨o, ho⟩ := rh.lt hi
          obtain ⟨o2, ho2⟩ := rh.lt hj
          simp only [extendD, ho, ho2] at p
          cases o <;> first | exact p.elim | skip
          cases o2 <;> first | exact p.elim | skip
          simp only at p
          split at p
          · rename_i hl
            obtain ⟨vs, h1, h2⟩ := rh.lst hi ho
            obtain ⟨ws, h3, h4⟩ := rh.lst hj ho2
            rw [h2.len, h4.len] at hl
            exact ⟨a, b, vs, ws, rfl, rfl, h1, h3, lim_le hl, put_ob p rh hi ho ⟨_, upd_same, (h2.app h4).mono (List.prefix_refl _) ((rh.obj _ _ _ ho hi).stay _)⟩ .non⟩
          · exact p.elim
        | _ => exact p.elim
  | _ => exact p.elim
theorem RVs.dropLast {f : List Addr} {H : Hp} {xs : List Dt} {vs : List V} (r : RVs K H f xs vs) : RVs K H f xs.dropLast vs.dropLast := by
  rw [List.dropLast_eq_take, List.dropLast_eq_take, r.len]
  exact r.take _
def popD (x : Dt) (ys : List Dt) (st : Sto) : Re Dt := match x, ys with
  | .ref i, [] => match st[i]? with
    | some (.lst xs) => match xs[xs.length - 1]? with
      | some d => .ok d (st.set i (.lst xs.dropLast))
      | none => .stuck
    | _ => .stuck
  | _, _ => .stuck
theorem snd_pop : SndM K T rPop popD := fun f H st x v xs vs Wx Q rh rx r p => by
  cases rx with
  | @ref i a hi =>
    cases r with
    | cons _ _ => exact p.elim
    | nil =>
      obtain ⟨o, ho⟩ := rh.lt hi
      simp only [popD, ho] at p
      cases o with
      | lst zs =>
        obtain ⟨vs, h1, h2⟩ := rh.lst hi ho
        simp only at p
        cases hz : zs[zs.length - 1]? with
        | none => rw [hz] at p; exact p.elim
        | some d =>
          rw [hz] at p
          obtain ⟨v, h3, h4⟩ := h2.get hz
          rw [h2.len] at h3
          exact ⟨a, vs, v, rfl, rfl, h1, h3, put_ob p rh hi ho ⟨_, upd_same, h2.dropLast.mono (List.prefix_refl _) ((rh.obj _ _ _ ho hi).stay _)⟩ (h4.mono (List.prefix_refl _) ((rh.obj _ _ _ ho hi).stay _))⟩
      | _ => exact p.elim
  | _ => exact p.elim
theorem RVs.erase {f : List Addr} {H : Hp} : ∀ {xs : List Dt} {vs : List V} (k : Nat), RVs K H f xs vs → RVs K H f (xs.eraseIdx k) (vs.eraseIdx k)
  | _, _, _, .nil => .nil
  | _, _, 0, .cons _ t => t
  | _, _, k + 1, .cons h t => .cons h (RVs.erase k t)
def popAtD (x : Dt) (ys : List Dt) (st : Sto) : Re Dt := match x, ys with
  | .ref i, [.int n] => match st[i]? with
    | some (.lst xs) => if 0 ≤ n ∧ n < 1000000 then (match xs[n.toNat]? with
      | some d => .ok d (st.set i (.lst (xs.eraseIdx n.toNat)))
      | none => .stuck) else .stuck
    | _ => .stuck
  | _, _ => .stuck
theorem snd_popAt : SndM K T rPopAt popAtD := fun f H st x v xs vs Wx Q rh rx r p => by
  cases rx with
  | @ref i a hi =>
    cases r with
    | nil => exact p.elim
    | cons ry t =>
      cases t with
      | cons _ _ => cases ry <;> exact p.elim
      | nil =>
        cases ry with
        | int n =>
          obtain ⟨o, ho⟩ := rh.lt hi
          simp only [popAtD, ho] at p
          cases o with
          | lst zs =>
            obtain ⟨vs, h1, h2⟩ := rh.lst hi ho
            simp only at p
            split at p
            · rename_i hn
              cases hz : zs[n.toNat]? with
              | none => rw [hz] at p; exact p.elim
              | some d =>
                rw [hz] at p
                obtain ⟨v, h3, h4⟩ := h2.get hz
                have hlt : n.toNat < vs.length := (List.getElem?_eq_some_iff.mp h3).1
                refine ⟨a, vs, n, n.toNat, v, rfl, rfl, h1, by omega, by omega, ?_, h3, put_ob p rh hi ho ⟨_, upd_same, (h2.erase _).mono (List.prefix_refl _) ((rh.obj _ _ _ ho hi).stay _)⟩ (h4.mono (List.prefix_refl _) ((rh.obj _ _ _ ho hi).stay _))⟩
                have hn0 : ¬ n < 0 := by omega
                unfold seqIndex?
                simp only [if_neg hn0]
                rw [if_pos (by simp; omega)]
            · exact p.elim
          | _ => exact p.elim
        | _ => exact p.elim
  | _ => exact p.elim
/-! ### dicts by written keys -/
def keyEq : Dt → Dt → Bool
  | .int i, .int j => decide (i = j)
  | .str a, .str b => decide (a = b)
  | _, _ => false
def lookD (k : Dt) : List (Dt × Dt) → Option Dt
  | [] => none
  | (q, d) :: r => if keyEq q k then some d else lookD k r
def putD (k d : Dt) (ks : List (Dt × Dt)) : List (Dt × Dt) := if ks.any (fun p => keyEq p.1 k) then ks.map (fun p => if keyEq p.1 k then (p.1, d) else p) else ks ++ [(k, d)]
theorem keyEq_ok : ∀ {a b : Dt} {p q : Key}, KR a p → KR b q → keyEq a b = decide (p = q)
  | .int i, .int j, .inl p, .inl q, h1, h2 => by
    cases (show i = p from h1)
    cases (show j = q from h2)
    rw [key_ll]
    exact (Bool.beq_eq_decide_eq (α := Int) i j).symm
  | .str a, .str b, .inr p, .inr q, h1, h2 => by
    rw [key_rr]
    show decide (a = b) = decide (p = q)
    rw [← (show p.cps.toList = a from h1), ← (show q.cps.toList = b from h2), ← dec_strL]
    by_cases e : p = q
    · subst e; simp
    · rw [decide_eq_false e, decide_eq_false (fun z => e (V.str.inj z))]
  | .int i, .str b, .inl p, .inr q, _, _ => (key_lr p q).symm
  | .str b, .int i, .inr p, .inl q, _, _ => (key_rl p q).symm
  | .int _, _, .inr _, _, h, _ => h.elim
  | .str _, _, .inl _, _, h, _ => h.elim
  | _, .int _, _, .inr _, _, h => h.elim
  | _, .str _, _, .inl _, _, h => h.elim
  | .non, _, _, _, h, _ => h.elim
  | .bl _, _, _, _, h, _ => h.elim
  | .tup _, _, _, _, h, _ => h.elim
  | .rl _, _, _, _, h, _ => h.elim
  | .ref _, _, _, _, h, _ => h.elim
  | .int _, .non, .inl _, _, _, h => h.elim
  | .int _, .bl _, .inl _, _, _, h => h.elim
  | .int _, .tup _, .inl _, _, _, h => h.elim
  | .int _, .rl _, .inl _, _, _, h => h.elim
  | .int _, .ref _, .inl _, _, _, h => h.elim
  | .str _, .non, .inr _, _, _, h => h.elim
  | .str _, .bl _, .inr _, _, _, h => h.elim
  | .str _, .tup _, .inr _, _, _, h => h.elim
  | .str _, .rl _, .inr _, _, _, h => h.elim
  | .str _, .ref _, .inr _, _, _, h => h.elim
theorem lookD_ok {f : List Addr} {H : Hp} {k : Dt} {q : Key} (hk : KR k q) : ∀ {ks : List (Dt × Dt)} {vs : List (Key × V)}, DR K H f ks vs → ∀ {d : Dt}, lookD k ks = some d → ∃ v, valV vs q = some v ∧ RV K H f d v
  | _, _, .nil, _, h => by cases h
  | _, _, @DR.cons _ _ _ k' d' q' v' fs vs hk' h' t, d, h => by
    unfold lookD at h
    rw [keyEq_ok hk' hk] at h
    by_cases e : q' = q
    · rw [decide_eq_true e, if_pos rfl] at h
      cases h
      exact ⟨v', valV_pos e, h'⟩
    · rw [decide_eq_false e, if_neg Bool.false_ne_true] at h
      obtain ⟨v, h1, h2⟩ := lookD_ok hk t h
      exact ⟨v, by rw [valV_neg e]; exact h1, h2⟩
def mKey (o i : ME) : ME := fun env st => (o env st).bind fun x st1 => (i env st1).bind fun y st2 => match x with
  | .ref n => match st2[n]? with
    | some (.dk kvs) => match lookD y kvs with
      | some d => .ok d st2
      | none => .stuck
    | _ => .stuck
  | _ => .stuck
def isKey : Dt → Bool
  | .int _ => true
  | .str _ => true
  | _ => false
theorem kr_of {f : List Addr} {H : Hp} {y : Dt} {v : V} (r : RV K H f y v) (h : isKey y = true) : ∃ q, KR y q ∧ v = kV q := by
  cases r with
  | int i => exact ⟨.inl i, rfl, rfl⟩
  | str x => exact ⟨.inr x, rfl, rfl⟩
  | _ => cases h
theorem look_key {k : Dt} : ∀ {ks : List (Dt × Dt)} {d : Dt}, lookD k ks = some d → isKey k = true
  | [], _, h => by cases h
  | (q, x) :: r, d, h => by
    unfold lookD at h
    split at h
    · rename_i e
      cases k with
      | int i => rfl
      | str s => rfl
      | _ => cases q <;> cases e
    · exact look_key h
theorem ie_key {i : Expr} {mi : ME} (hu : X.A.units + 1 < cLine) (ho : IE X T W o mo) (hi : IE X T W i mi) (hs : NoSl i := by intro _ _; rfl) : IE X T W (.Subscript o i pos) (mKey mo mi) := PEw (pe_dget hu ho hi hs) fun σ H Q ⟨f, env, st, re, rh, p⟩ =>
  ⟨f, env, st, re, rh, p.bind fun x st1 f1 H1 vx hp s rh1 rx p1 => ⟨f1, env, st1, re.mono hp s, rh1, p1.bind fun y st2 f2 H2 vy hp2 s2 rh2 ry p2 => by
    have rx2 := rx.mono hp2 s2
    cases rx2 with
    | @ref n a hn =>
      obtain ⟨o, ho⟩ := rh2.lt hn
      simp only [ho] at p2
      cases o with
      | dk kvs =>
        simp only at p2
        obtain ⟨vs, h1, h2⟩ := rh2.obj _ _ _ ho hn
        cases hl : lookD y kvs with
        | none => rw [hl] at p2; exact p2.elim
        | some d =>
          rw [hl] at p2
          obtain ⟨q, hq, rfl⟩ := kr_of ry (look_key hl)
          obtain ⟨v, h3, h4⟩ := lookD_ok hq h2 hl
          exact ⟨a, v, rfl, by rw [← h3]; exact DGet.k h1, p2.now rh2 h4⟩
      | _ => exact p2.elim
    | _ => exact p2.elim⟩⟩
theorem DR.any {f : List Addr} {H : Hp} {k : Dt} {q : Key} (hk : KR k q) : ∀ {ks : List (Dt × Dt)} {vs : List (Key × V)}, DR K H f ks vs → (ks.any fun p => keyEq p.1 k) = vs.any fun kv => decide (kv.1 = q)
  | _, _, .nil => rfl
  | _, _, .cons hk' _ t => by
    rw [List.any_cons, List.any_cons, keyEq_ok hk' hk, DR.any hk t]
theorem DR.map {f : List Addr} {H : Hp} {k d : Dt} {q : Key} {v : V} (hk : KR k q) (hd : RV K H f d v) : ∀ {ks : List (Dt × Dt)} {vs : List (Key × V)}, DR K H f ks vs → DR K H f (ks.map fun p => if keyEq p.1 k then (p.1, d) else p) (vs.map fun kv => if kv.1 = q then (kv.1, v) else kv)
  | _, _, .nil => .nil
  | _, _, @DR.cons _ _ _ k' d' q' v' fs vs hk' h' t => by
    rw [List.map_cons, List.map_cons, keyEq_ok hk' hk]
    by_cases e : q' = q
    · rw [decide_eq_true e, if_pos rfl, if_pos e]
      exact .cons hk' hd (DR.map hk hd t)
    · rw [decide_eq_false e, if_neg Bool.false_ne_true, if_neg e]
      exact .cons hk' h' (DR.map hk hd t)
theorem DR.app {f : List Addr} {H : Hp} : ∀ {ks ls : List (Dt × Dt)} {vs ws : List (Key × V)}, DR K H f ks vs → DR K H f ls ws → DR K H f (ks ++ ls) (vs ++ ws)
  | _, _, _, _, .nil, s => s
  | _, _, _, _, .cons hk h t, s => .cons hk h (DR.app t s)
theorem putD_ok {f : List Addr} {H : Hp} {k d : Dt} {q : Key} {v : V} (hk : KR k q) (hd : RV K H f d v) {ks : List (Dt × Dt)} {vs : List (Key × V)} (r : DR K H f ks vs) : DR K H f (putD k d ks) (putK vs q v) := by
  unfold putD putK
  rw [r.any hk]
  split
  · exact r.map hk hd
  · exact r.app (.cons hk hd .nil)
def sKeySet (o i v : ME) : MS := fun env st => (v env st).on env fun d st1 => (o env st1).on env fun x st2 => (i env st2).on env fun y st3 => match x with
  | .ref n => match st3[n]? with
    | some (.dk kvs) => if isKey y && decide (kvs.length < lim) then .nx env (st3.set n (.dk (putD y d kvs))) else .stuck
    | _ => .stuck
  | _ => .stuck
theorem is_key {i : Expr} {mi : ME} {pos' : Pos} (hu : X.A.units + 1 < cLine) (ho : IE X T W o mo) (hi : IE X T W i mi) (he : IE X T W e me) (hs : swapsWith e (some (.Subscript o i pos')) pos.line X.env = pure false := by rfl) :
    IS X T W (.Assign [.Subscript o i pos'] e pos) (sKeySet mo mi me) := PSw (ps_dput hu ho hi he hs) fun E σ H ⟨f, env, st, re, rh, p⟩ =>
  ⟨f, env, st, re, rh, PostS.on re p fun d st1 f1 H1 v hp s rh1 rv re1 p1 => ⟨f1, env, st1, re1, rh1, PostS.on re1 p1 fun x st2 f2 H2 vx hp2 s2 rh2 rx re2 p2 => ⟨f2, env, st2, re2, rh2, PostS.on re2 p2 fun y st3 f3 H3 vy hp3 s3 rh3 ry re3 p3 => by
    have rx3 := rx.mono hp3 s3
    have rv3 := (rv.mono hp2 s2).mono hp3 s3
    cases rx3 with
    | @ref n a hn =>
      obtain ⟨o, ho⟩ := rh3.lt hn
      simp only [ho] at p3
      cases o with
      | dk kvs =>
        simp only at p3
        obtain ⟨vs, h1, h2⟩ := rh3.obj _ _ _ ho hn
        split at p3
        · rename_i hk
          rw [Bool.and_eq_true] at hk
          obtain ⟨q, hq, rfl⟩ := kr_of ry hk.1
          have stay := (rh3.obj _ _ _ ho hn).stay (.dK (putK vs q v))
          refine ⟨a, _, rfl, DPut.k h1 (by rw [← h2.len]; exact lim_lt (of_decide_eq_true hk.2)), p3 f3 _ σ (List.prefix_refl _) stay (rh3.put hn ⟨_, upd_same, (putD_ok hq rv3 h2).mono (List.prefix_refl _) stay⟩) (re3.mono (List.prefix_refl _) stay)⟩
        · exact p3.elim
      | _ => exact p3.elim
    | _ => exact p3.elim⟩⟩⟩
end
end LT
set_option Elab.async false
set_option linter.all false
set_option maxRecDepth 100000
namespace LT
open PySem PySem.Spec PyProof.Rows L2
section
variable {X : Cx} {T : Tb} {W : WX} {e : Expr} {me : ME} {pos p : Pos} {K : PySem.W.Frag}
/-! ### a dict written out -/
inductive RPs (K : PySem.W.Frag) (H : Hp) (f : List Addr) : List (Dt × Dt) → List (V × V) → Prop
  | nil : RPs K H f [] []
  | cons {a b : Dt} {x y : V} {ds : List (Dt × Dt)} {vs : List (V × V)} (h1 : RV K H f a x) (h2 : RV K H f b y) (t : RPs K H f ds vs) : RPs K H f ((a, b) :: ds) ((x, y) :: vs)
def mPairs : List (ME × ME) → M (List (Dt × Dt))
  | [], _, st => .ok [] st
  | (a, b) :: r, env, st => (a env st).bind fun x st1 => (b env st1).bind fun y st2 => (mPairs r env st2).bind fun ps st3 => .ok ((x, y) :: ps) st3
theorem ev_pairs : ∀ (prs : List (ME × ME)) {σ : L2.St} {H : Hp} {Q : List (V × V) → Hp → Prop}, tG X.K T (RPs X.K) W (mPairs prs) σ H Q → tPairs (prs.map fun q => (tG X.K T (rV X.K) W q.1, tG X.K T (rV X.K) W q.2)) σ H Q
  | [], σ, H, Q, ⟨f, env, st, re, rh, p⟩ => p.now rh .nil
  | (a, b) :: r, σ, H, Q, ⟨f, env, st, re, rh, p⟩ => ⟨f, env, st, re, rh, Post.bind (rel := rV X.K) p fun x st1 f1 H1 vx hp s rh1 rx p1 => ⟨f1, env, st1, re.mono hp s, rh1, Post.bind (rel := rV X.K) p1 fun y st2 f2 H2 vy hp2 s2 rh2 ry p2 =>
      ev_pairs r ⟨f2, env, st2, (re.mono hp s).mono hp2 s2, rh2, Post.bind (rel := RPs X.K) p2 fun ps st3 f3 H3 vps hp3 s3 rh3 rps p3 => p3.now rh3 (.cons ((rx.mono hp2 s2).mono hp3 s3) (ry.mono hp3 s3) rps)⟩⟩⟩
abbrev IPs (X : Cx) (T : Tb) (W : WX) (pos : Pos) (ks : List (Option Expr)) (vs : List Expr) (prs : List (ME × ME)) : Prop := PPs X pos ks vs (prs.map fun q => (tG X.K T (rV X.K) W q.1, tG X.K T (rV X.K) W q.2))
theorem ips_nil : IPs X T W pos [] [] [] := pps_nil
theorem ips_cons {k v : Expr} {mk mv : ME} {ks : List (Option Expr)} {vs : List Expr} {prs : List (ME × ME)} (hk : IE X T W k mk) (hv : IE X T W v mv) (hr : IPs X T W pos ks vs prs) : IPs X T W pos (some k :: ks) (v :: vs) ((mk, mv) :: prs) := pps_cons hk hv hr
def mergeD (ps : List (Dt × Dt)) : List (Dt × Dt) := ps.foldl (fun acc q => putD q.1 q.2 acc) []
def mDisp (prs : List (ME × ME)) : ME := fun env st => (mPairs prs env (st ++ [.dk []])).bind fun ps st1 => match st1[st.length]? with
  | some (.dk []) => if ps.all (fun q => isKey q.1) && decide (ps.length ≤ 15) then .ok (.ref st.length) (st1.set st.length (.dk (mergeD ps))) else .stuck
  | _ => .stuck
theorem rps_kvs {f : List Addr} {H : Hp} : ∀ {ps : List (Dt × Dt)} {vs : List (V × V)}, RPs K H f ps vs → ps.all (fun q => isKey q.1) = true → ∃ kvs : List (Key × V), vs = kvs.map (fun kv => (kV kv.1, kv.2)) ∧ DR K H f ps kvs
  | _, _, .nil, _ => ⟨[], rfl, .nil⟩
  | _, _, .cons h1 h2 t, h => by
    rw [List.all_cons, Bool.and_eq_true] at h
    obtain ⟨kvs, e, r⟩ := rps_kvs t h.2
    obtain ⟨q, hq, ex⟩ := kr_of h1 h.1
    exact ⟨(q, _) :: kvs, by rw [List.map_cons, ← e, ex], .cons hq h2 r⟩
theorem merge_ok {f : List Addr} {H : Hp} {ps : List (Dt × Dt)} {kvs : List (Key × V)} (r : DR K H f ps kvs) : ∀ {acc : List (Dt × Dt)} {avs : List (Key × V)}, DR K H f acc avs → DR K H f (ps.foldl (fun acc q => putD q.1 q.2 acc) acc) (mergeK avs kvs) := by
  induction r with
  | nil => intro acc avs h; exact h
  | cons hk h t ih => intro acc avs ha; exact ih (putD_ok hk h ha)
theorem ie_disp {keys : List (Option Expr)} {values : List Expr} {prs : List (ME × ME)} (h : IPs X T W pos keys values prs) (hall : keys.all (·.isSome) = true := by rfl) (hl : keys.length = values.length := by rfl) (h0 : keys ≠ [] := by intro z; cases z) (h15 : keys.length ≤ 15 := by decide) :
    IE X T W (.Dict keys values pos) (mDisp prs) := PEw (pe_disp h hall hl h0 h15) fun σ H Q ⟨f, env, st, re, rh, p⟩ => fun q hq => by
  have rn := rh.new (u := .dK []) (o := .dk []) hq ⟨[], upd_same, .nil⟩
  have s1 : Stay X.K H (upd H q (.dK [])) := Stay.new hq
  have hd : (f ++ [q])[st.length]? = some q := ref_new rh
  refine ev_pairs prs ⟨f ++ [q], env, _, re.mono (List.prefix_append _ _) s1, rn, Post.bind (rel := RPs X.K) (p.mono (List.prefix_append f [q]) s1) fun ps st1 f1 H1 vps hp s rh1 rps p1 => ?_⟩
  have hd1 := get_pre hp hd
  obtain ⟨o, ho⟩ := rh1.lt hd1
  simp only [ho] at p1
  cases o with
  | dk kvs =>
    cases kvs with
    | nil =>
      simp only at p1
      split at p1
      · rename_i hk
        rw [Bool.and_eq_true] at hk
        obtain ⟨kvs, e, r⟩ := rps_kvs rps hk.1
        obtain ⟨vs0, h1, h2⟩ := rh1.obj _ _ _ ho hd1
        cases h2
        have stay := (rh1.obj _ _ _ ho hd1).stay (.dK (mergeK [] kvs))
        refine ⟨h1, kvs, e, by rw [← r.len]; exact of_decide_eq_true hk.2, ?_⟩
        exact p1 f1 _ _ (List.prefix_refl _) stay (rh1.put hd1 ⟨_, upd_same, (merge_ok r .nil).mono (List.prefix_refl _) stay⟩) (.ref hd1)
      · exact p1.elim
    | cons _ _ => exact p1.elim
  | _ => exact p1.elim
/-! ### isinstance -/
inductive Tk where
  | non | bl | int | str | tup | lst | dk | ins (c : Nat)
def tkD : Dt → Sto → Option Tk
  | .non, _ => some .non
  | .bl _, _ => some .bl
  | .int _, _ => some .int
  | .str _, _ => some .str
  | .tup _, _ => some .tup
  | .rl _, _ => some .lst
  | .ref i, st => match st[i]? with
    | some (.lst _) => some .lst
    | some (.dk _) => some .dk
    | some (.ins c _) => some (.ins c)
    | none => none
def tkV (T : Tb) : Tk → Value
  | .non => .type "NoneType"
  | .bl => .type "bool"
  | .int => .type "int"
  | .str => .type "str"
  | .tup => .type "tuple"
  | .lst => .type "list"
  | .dk => .type "dict"
  | .ins c => .ref (T.cls c)
/-- what a class must have for isinstance -/
structure InsT (K : PySem.W.Frag) (C : Addr) : Prop where
  cl : Cls K C
  ha : PySem.W.findIn K (.ref C) "__class__" = some (some (.builtin "object.__class__"))
  hn : PySem.W.specialIn K (.builtin "object.__class__") "__get__" = some (some (.builtin "getset_descriptor.__get__"))
  ht : PySem.W.takesIn K (.builtin "object.__class__") = some true
  hm : PySem.W.mroIn K C (.type "object") = some true
theorem ty_ok {f : List Addr} {H : Hp} {st : Sto} {x : Dt} {v : V} {t : Tk} (rh : RH K T f H st) (rx : RV K H f x v) (h : tkD x st = some t) (hI : ∀ c, t = .ins c → InsT K (T.cls c)) : TyX K H v (tkV T t) := by
  cases rx with
  | non => cases h; exact .base .non
  | bl b => cases h; exact .base (.bl b)
  | int i => cases h; exact .base (.int i)
  | str x => cases h; exact .base (.str x)
  | @tup ds vs a hs r =>
    cases h
    rcases hs with (h | ⟨o, h⟩) | ⟨o, its, n, h, c, _⟩
    · exact .base (.tup h)
    · exact .fTuple h
    · exact .kTuple h c
  | @rl ds vs a hs r =>
    cases h
    rcases hs with ⟨o, h⟩ | ⟨o, its, n, h, c, _⟩
    · exact .base (.frz h)
    · exact .kList h c
  | @ref i a hi =>
    obtain ⟨o, ho⟩ := rh.lt hi
    simp only [tkD, ho] at h
    cases o with
    | lst xs => cases h; obtain ⟨vs, h1, _⟩ := rh.lst hi ho; exact .base (.lst h1)
    | dk kvs => cases h; obtain ⟨vs, h1, _⟩ := rh.obj _ _ _ ho hi; exact .base (.dK h1)
    | ins c fs =>
      cases h
      obtain ⟨dx, vs, h1, _⟩ := rh.obj _ _ _ ho hi
      have I := hI c rfl
      exact .base (.ins h1 I.cl I.ha I.hn I.ht I.hm)
def mIsI (q : Tk → Option Bool) (a : ME) : ME := fun env st => (a env st).bind fun x st1 => match tkD x st1 with
  | some t => match q t with
    | some b => .ok (.bl b) st1
    | none => .stuck
  | none => .stuck
theorem ie_isi {c : Expr} {cv : V} {u : Value} (q : Tk → Option Bool) (hm : X.mg "isinstance" = none) (hI : ∀ c b, q (.ins c) = some b → InsT X.K (T.cls c)) (hq : ∀ t b, q t = some b → PySem.W.kitOne X.K (tkV T t) u = some b) (hu : ClsV cv u) (hc : PE X c (tC cv)) (he : IE X T W e me)
    (hg : Gl X "isinstance" := by rfl) (h1 : starEach [e, c] X.env = (false, eval e X.env) :: starEach [c] X.env := by rfl) (h2 : starEach [c] X.env = (false, eval c X.env) :: starEach [] X.env := by rfl) (hpl : (backTo pos (starEach [c] X.env)).any (·.1) = false := by rfl) :
    IE X T W (.Call (.Name "isinstance" p) [e, c] [] pos) (mIsI q me) := PEw (pe_callB call_isi hg hm (by decide +kernel) (pa_cons he (pa_cons hc pa_nil h2) h1) (by decide) (by decide) h1 hpl) fun σ H Q ⟨f, env, st, re, rh, p⟩ =>
  ⟨f, env, st, re, rh, p.bind fun x st1 f1 H1 vx hp s rh1 rx p1 => by
    cases ht : tkD x st1 with
    | none => rw [ht] at p1; exact p1.elim
    | some t =>
      rw [ht] at p1
      simp only at p1
      cases hb : q t with
      | none => rw [hb] at p1; exact p1.elim
      | some b =>
        rw [hb] at p1
        exact ⟨vx, cv, _, u, b, rfl, hu, ty_ok rh1 rx ht (fun c e => by subst e; exact hI c b hb), hq t b hb, p1.now rh1 (.bl b)⟩⟩
theorem ie_isi2 {c1 c2 : Expr} {v1 v2 : V} {u1 u2 : Value} {kt : Nat} {pt : Pos} (q : Tk → Option Bool) (hm : X.mg "isinstance" = none) (hI : ∀ c b, q (.ins c) = some b → InsT X.K (T.cls c)) (hq : ∀ t b, q t = some b → PySem.W.kitAny X.K (tkV T t) [u1, u2] = some b) (hu1 : ClsV v1 u1) (hu2 : ClsV v2 u2) (hc1 : PE X c1 (tC v1)) (hc2 : PE X c2 (tC v2)) (he : IE X T W e me)
    (hg : Gl X "isinstance" := by rfl) (h1 : starEach [e, .Tuple [c1, c2] kt pt] X.env = (false, eval e X.env) :: starEach [.Tuple [c1, c2] kt pt] X.env := by rfl) (h2 : starEach [.Tuple [c1, c2] kt pt] X.env = (false, eval (.Tuple [c1, c2] kt pt) X.env) :: starEach [] X.env := by rfl)
    (h3 : starEach [c1, c2] X.env = (false, eval c1 X.env) :: starEach [c2] X.env := by rfl) (h4 : starEach [c2] X.env = (false, eval c2 X.env) :: starEach [] X.env := by rfl) (hpl : (backTo pos (starEach [.Tuple [c1, c2] kt pt] X.env)).any (·.1) = false := by rfl) :
    IE X T W (.Call (.Name "isinstance" p) [e, .Tuple [c1, c2] kt pt] [] pos) (mIsI q me) := PEw (pe_callB call_isiT hg hm (by decide +kernel) (pa_cons he (pa_cons (pe_tup (pa_cons hc1 (pa_cons hc2 pa_nil h4) h3)) pa_nil h2) h1) (by decide) (by decide) h1 hpl) fun σ H Q ⟨f, env, st, re, rh, p⟩ =>
  ⟨f, env, st, re, rh, p.bind fun x st1 f1 H1 vx hp s rh1 rx p1 => by
    cases ht : tkD x st1 with
    | none => rw [ht] at p1; exact p1.elim
    | some t =>
      rw [ht] at p1
      simp only at p1
      cases hb : q t with
      | none => rw [hb] at p1; exact p1.elim
      | some b =>
        rw [hb] at p1
        refine ⟨by show 2 ≤ sizeLine; decide, fun tp htp => ?_⟩
        have s1 : Stay X.K H1 (upd H1 tp (.tup [v1, v2])) := Stay.new htp
        have rh2 := rh1.side (u := .tup [v1, v2]) htp
        exact ⟨vx, tp, [v1, v2], _, [u1, u2], b, rfl, upd_same, .cons hu1 (.cons hu2 .nil), ty_ok rh2 (rx.mono (List.prefix_refl _) s1) ht (fun c e => by subst e; exact hI c b hb), hq t b hb, p1 f1 _ _ (List.prefix_refl _) s1 rh2 (.bl b)⟩⟩
/-! ### raise -/
/-- what an own error with one field must have: C its class, fI its __init__ -/
def spErr (K : PySem.W.Frag) (fn : Str) : Sp := fun vs H Q _ => ∃ a C v, vs = [.ref a, v] ∧ OexC K C ∧ PySem.W.findIn K (.ref C) fn = some none ∧ H a = some (exo a C none) ∧ ∀ dx, H dx = none → dx ≠ a → Q .non (upd (upd H dx (exd dx [(fn, v)])) a (exo a C (some dx)))
/-- LayError.__init__(self, ..): the base's __init__ by the name of an own class -/
theorem pe_binit {pl : Sem Bool} {x : Str} {C0 : Addr} {e : Expr} {es : List Expr} {ta : TA} {p1 p2 : Pos} (hg : Gl X x) (hm : X.mg x = some (.ref C0)) (hga : PySem.W.specialIn X.K (.ref C0) "__getattribute__" = some (some (.builtin "type.__getattribute__"))) (hr : PySem.W.readsIn X.K C0 (.type "type") = true)
    (hty : PySem.W.typeIn X.K (.ref C0) = some (.type "type"))
    (vV : PySem.W.findCls X.K (.ref C0) (.type "type") "__init__" = some (.val (.builtin "ValueError.__init__"))) (ha : PA X (e :: es) ta) (hdb : (x == ("__debug__" : Str)) = false := by decide)
    (hc : eval (.Call (.Attribute (.Name x p1) "__init__" p2) (e :: es) [] pos) X.env = (do
      let ov ← eval (.Name x p1) X.env
      standAt p2.atName
      let (f, first) ← holding [ov] (getMethod ov "__init__" pl)
      callWith pos f first (backTo pos (starEach (e :: es) X.env)) (backToKw pos (keywordEach [] X.env))) := by rfl)
    (he : starEach (e :: es) X.env = (false, eval e X.env) :: starEach es X.env := by rfl) (hpl : (backTo pos (starEach es X.env)).any (·.1) = false := by rfl) :
    PE X (.Call (.Attribute (.Name x p1) "__init__" p2) (e :: es) [] pos) (tVeI X.K ta) := ⟨fun pins s σ H Q I h => by
  refine PySem.W.methodCall_KW (ld_glob I hg hm ?_ hdb) hc
  refine PySem.W.method_cls I.kIn hga ?_
  refine PySem.W.cls_value I.kIn hr vV (by decide +kernel) ?_
  refine PyProof.Rows.callWith_method1 (thn (ha.run pos pins _ σ H _ (I.tok _) h) fun us s1 hu => ?_) he hpl
  obtain ⟨vs, H1, J, r1, a, C, ws, ev, hl, Tc, ea, q⟩ := hu
  subst ev
  cases r1 with
  | @cons _ u0 _ ur ra rw' =>
    obtain rfl : u0 = Value.ref a := ra
    exact oinit_ok Tc J ea (by rw [← Paired.length rw', sizeLine_eq]; omega) fun s' J' => ⟨.non, H1, J', rfl, q⟩⟩
end
end LT
set_option Elab.async false
set_option linter.all false
set_option maxRecDepth 100000
set_option maxHeartbeats 4000000
namespace PySem.W
open PySem.Calls PyProof.Rows
section
variable {K : Frag} {prog : Program} {w : World} {A : Around} {E : Value → Shared → Prop} {D x : Addr} {ox od : Obj} {s : Shared}
/-- the class of an own error that has a dict -/
theorem lt_classE {Q : Option Value → Shared → Prop} (g1 : findIn K (.ref D) "__getattribute__" = some (some (.builtin "BaseException.__getattribute__"))) (g2 : findIn K (.ref D) "__getattr__" = some none) (g3 : subIn K (.ref D) (.type "BaseException") = some true)
    (g4 : hasDictIn K D = true) (g5 : findIn K (.ref D) "__class__" = some (some (.builtin "object.__class__"))) (g6 : specialIn K (.builtin "object.__class__") "__get__" = some (some (.builtin "getset_descriptor.__get__"))) (g7 : takesIn K (.builtin "object.__class__") = some true)
    (g8 : mroIn K D (.type "object") = some true) (KX : K.In s.heap) (J : InstAt s.heap x ox D (some od)) (q : Q (some (.ref D)) { s with toks := s.toks + 1 }) : wpAny (model prog w) A (getAttr? (.ref x) "__class__") Q E s := by
  have hcl : (clsIn K D).isSome = true := by
    obtain ⟨cd, hc, _⟩ := any_some g4
    rw [hc]
    rfl
  have found : findObj K D (some od) "__class__" = some (.bind (.builtin "getset_descriptor.__get__") (.builtin "object.__class__")) := findObj_data hcl g5 g6 g7
  obtain ⟨hp, gs, dr, tk, os⟩ := s
  have T0 := J.type (M := model prog w)
  have T1 := looks_findIn (M := model prog w) KX g1
  have T2 := looks_findIn (M := model prog w) KX g2
  have T3 := looks_find (M := model prog w) KX J found
  have isB : Looks (model prog w) hp (isInstance (.ref x) (.type "BaseException")) true := T0.andThen (looks_subIn KX g3)
  have no0 : (false && onTheHeap (Value.builtin "BaseException.__getattribute__")) = false := rfl
  have no1 : (onTheHeap (Value.ref D) && Value.builtin "BaseException.__getattribute__" == Value.builtin "object.__getattribute__") = false := by
    rw [show (Value.builtin "BaseException.__getattribute__" == Value.builtin "object.__getattribute__") = false by decide +kernel, Bool.and_false]
  unfold getAttr? getAttrBy? getAttrBy
  refine wpAny_bind (wpAny_mkText (wpAny_bind (wpAny_attempt (wpAny_holding (wpAny_bind (T0.at (wpAny_bind (T1.at ?_))))))))
  change wpAny _ _ (if (onTheHeap (Value.ref D) && Value.builtin "BaseException.__getattribute__" == Value.builtin "object.__getattribute__") = true then _ else _) _ _ _
  rw [no1, if_neg Bool.false_ne_true]
  unfold getAttrByItsOwn hookBefore
  apply wpAny_bind
  rw [if_pos (show onTheHeap (Value.ref D) = true from rfl)]
  apply T2.at
  refine wpAny_bind (wpAny_attempt (wpAny_holding ?_))
  unfold callGetattribute
  rw [no0, if_neg Bool.false_ne_true]
  unfold boundAndCalled
  rw [PySem.F.excAttr_ValueError.ga.bind (.ref x)]
  refine wpAny_bind (wpAny_pure ?_)
  change wpAny _ _ (call (.builtin "BaseException.__getattribute__") [.ref x, .str "__class__" tk]) _ _ _
  refine wpAny_call (codeAny_call_builtin PySem.F.excAttr_ValueError.ga.plain PySem.F.entry_bexc_ga (@check_slot (model prog w) _ _ ⟨hp, gs, dr, tk + 1, os⟩ "BaseException.__getattribute__" "BaseException" "__getattribute__" (.ref x) [.str "__class__" tk] [] _ (by decide +kernel) (by decide +kernel) isB (PySem.F.args_bexc_ga (.ref x) (.str "__class__" tk)) ?_))
  unfold Builtin.«object.__getattribute__»
  refine wpAny_bind (wpAny_of_eq (a := ((Value.ref x : Value), [Value.str "__class__" tk])) (by first | rfl | (simp only [slotArgs]; rfl)) (wpAny_bind (wpAny_pure (wpAny_bind (T0.at (wpAny_bind (T3.at ?_)))))))
  change wpAny _ _ (holding [Value.builtin "object.__class__"] (call (.builtin "getset_descriptor.__get__") [.builtin "object.__class__", .ref x, .ref D]) >>= ret) _ _ _
  refine wpAny_bind (wpAny_holding (wpAny_call (class_get (s := ⟨hp, gs, dr, tk + 1, os⟩) (ox := ox) (od := some od) KX J g8 ?_)))
  apply wpAny_pure
  change wpAny _ _ (handedOut (.ref D)) _ _ _
  rw [handedOut_of (v := .ref D) rfl]
  first
    | exact wpAny_pure (wpAny_pure q)
    | exact wpAny_pure q
    | exact wpAny_pure (wpAny_bind (wpAny_pure (wpAny_pure q)))
theorem lt_kitE (C : L2.ExcC K D) : KitX K (.ref x) (.ref D) (fun h => InstAt h x ox D (some od)) where
  ty := fun _ _ _ I => I.type
  it := fun _ _ KX _ => by
    obtain ⟨cd, hc, _⟩ := any_some C.hd
    unfold clsIn at hc
    split at hc
    · rename_i ho
      intro A' Q' E' s' k q
      unfold isType loadHead
      exact wpAny_bind (wpAny_loadPart (k _ _ (KX _ _ ho)) (wpAny_pure q))
    · cases hc
  ne := fun h tp dd its n sl KX htp => by
    obtain ⟨cd, hc, _⟩ := any_some C.hd
    refine Bool.eq_false_iff.mpr fun q => ?_
    have e : D = tp := Value.ref.inj (beq_iff_eq.mp q)
    subst e
    unfold clsIn at hc
    split at hc
    · rename_i ho
      have z := (KX _ _ ho).symm.trans htp
      cases z
    · cases hc
  ca := fun KX I k => lt_classE C.hg C.hk C.hs C.hd C.ha C.hn C.ht C.hm KX I k
end
end PySem.W
namespace LT
open PySem PySem.Spec PyProof.Rows L2
section
variable {X : Cx} {T : Tb} {W : WX} {e : Expr} {me : ME} {pos p p' : Pos}
/-- isinstance(e, c), e the error that the suite holds, which has a dict -/
theorem call_isED {a D : Addr} {oe : Obj} {dd : Addr} {pn : List (Addr × Obj)} (C : ExcC X.K D) (hz : Zc (.ref D) (some dd) oe) (hf : ∃ vs, oe.data = .fields vs) :
    CallR (X.suite a ((a, oe) :: pn)) (.builtin "isinstance") (fun xs H Q => (∃ fs, H dd = some (.xd fs)) ∧ rIsE X.K D a xs H Q) := by
  intro pins s σ H xs us Q I r h
  obtain ⟨⟨fs, hx⟩, c, cv, b, rfl, hcv, ek, q⟩ := h
  cases r with
  | cons rx rr =>
    cases rr with
    | cons rt rr =>
      cases rr
      cases rx
      obtain rfl := hcv _ rt
      have pin := (I.pin (a, oe) (List.mem_append.mpr (.inl List.mem_cons_self))).1
      obtain ⟨vs, hv⟩ := hf
      have ob : ObjOk X.prog X.w H s.heap dd (.xd fs) := I.hok dd _ hx
      obtain ⟨mA, hns, _⟩ := ob
      obtain ⟨od, ho, _⟩ := lookIn_ns hns
      have J : PySem.W.InstAt s.heap a oe D (some od) := ⟨pin, hz.1, by unfold PySem.W.notCls; rw [hv] <;> rfl, by rw [hz.2]; exact ho⟩
      exact PySem.W.kia_one (PySem.W.lt_kitE C) I.kIn J ek (fun z => nomatch z) fun tk => ⟨.bl b, H, I.kept (t' := tk) fun _ _ z => z, rfl, q⟩
/-! ### raise -/
def sRaise (c k : Nat) (a : ME) : MS := fun env st => (a env st).on env fun d st1 => .ex env c [(k, d)] st1
theorem upd_xd {H1 : Hp} {a dx : Addr} {o1 o2 o3 u : HO} (ha : H1 a = none) (ne : dx ≠ a) : upd (del (upd (upd (upd H1 a o1) dx o2) a o3) a) dx u = upd H1 dx u := by
  funext b
  by_cases hb : b = dx
  · subst hb; rw [upd_same, upd_same]
  · rw [upd_ne hb, upd_ne hb]
    by_cases h2 : b = a
    · subst h2; rw [del_same, ha]
    · rw [del_ne h2, upd_ne h2, upd_ne hb, upd_ne h2]
theorem is_raise {x fn : Str} {C fI : Addr} {fd : FuncData} {j : Nat} (c k : Nat) (hcl : T.cls c = C) (hk : T.fld k = fn) (O : OexC X.K C) (iC : PySem.W.findIn X.K (.ref C) "__init__" = some (some (.ref fI))) (tI : PySem.W.typeIn X.K (.ref fI) = some (.type "function")) (hno : PySem.W.findIn X.K (.ref C) fn = some none)
    (F1 : FnOk X.prog X.w X.K X.mg X.base (L2.CX X.prog X.w) j fI fd ["self", fn] (spErr X.K fn)) (hr : Room (j + 1) X.A) (hb : Binds X.K fd ["self", fn] []) (hm : X.mg x = some (.ref C)) (hc : X.calm = true) (tk : Takes X W) (he : IE X T W e me)
    (hg : Gl X x := by rfl) (hdb : (x == ("__debug__" : Str)) = false := by decide) (h1 : starEach [e] X.env = (false, eval e X.env) :: starEach [] X.env := by rfl) (hpl : (backTo p' (starEach [] X.env)).any (·.1) = false := by rfl) :
    IS X T W (.Raise (some (.Call (.Name x p) [e] [] p')) none pos) (sRaise c k me) := by
  subst hk
  exact PSw (ps_raise hc tk (pmk_oex O iC tI F1 hr hb .nil passL hg hm (pa_cons he pa_nil h1) hdb h1 hpl)) fun E σ H ⟨f, env, st, re, rh, p⟩ =>
  ⟨f, env, st, re, rh, PostS.on re p fun d st1 f1 H1 v hp s rh1 rv re1 p1 => ⟨by show 1 ≤ 1000; decide, fun a ha => ⟨a, C, v, rfl, O, hno, upd_same, fun dx hdx ne => by
    rw [upd_ne ne] at hdx
    refine ⟨rfl, dx, [(T.fld k, v)], upd_same, by rw [upd_ne ne, upd_same], hdx, ?_⟩
    rw [upd_xd ha ne]
    have st1 : Stay X.K H1 (upd H1 dx (.xd [(T.fld k, v)])) := Stay.new hdx
    refine p1 f1 _ σ _ _ (List.prefix_refl _) st1 (rh1.side hdx) (re1.mono (List.prefix_refl _) st1) ⟨by rw [hcl], dx, _, rfl, upd_same, ?_⟩
    exact .cons (rv.mono (List.prefix_refl _) st1) .nil⟩⟩⟩
/-! ### try -/
/-- h: what the suite leaves at slot j, by the error's class and fields; none within: another class -/
def sTry (mb : MS) (h : Nat → List (Nat × Dt) → Option (Option Dt)) (j i : Nat) : MS := fun env st => match mb env st with
  | .ex env1 c fs st1 => match h c fs with
    | some (some d) => if i < env1.length then .nx ((env1.set j (some d)).set i none) st1 else .stuck
    | some none => .ex env1 c fs st1
    | none => .stuck
  | r => r
/-- the suite's reading -/
def tSu (K : PySem.W.Frag) (T : Tb) (h : Nat → List (Nat × Dt) → Option (Option Dt)) (j i : Nat) (a : Addr) (cls : Value) (d : Option Addr) : TS := fun E σ H => ∃ c fs dd vs f env st dt, cls = .ref (T.cls c) ∧ d = some dd ∧ H dd = some (.xd vs) ∧ FR K T H f fs vs ∧ h c fs = some (some dt) ∧
  σ[i]? = some (some (.ref a)) ∧ σ.length = env.length ∧ REn K H f env σ ∧ RH K T f H st ∧ ∀ v, RV K H f dt v → E.nx (σ.set j (some v)) H
theorem is_try {x n : Str} {cv : Value} {body : List Stmt} {b0 : Stmt} {suite : List Stmt} {np pos' : Pos} {mb : MS} {h : Nat → List (Nat × Dt) → Option (Option Dt)} (j i : Nat) (hij : j ≠ i) (hN : X.N.Nodup) (hc : Names X x cv) (tk : Takes X W)
    (hx : ∀ c fs, h c fs = some none → PySem.W.exmOne X.K (.ref (T.cls c)) cv = some false) (hy : ∀ c fs d, h c fs = some (some d) → PySem.W.exmOne X.K (.ref (T.cls c)) cv = some true)
    (hb : ∀ (W' : WX) (pn : List (Addr × Obj)) (xe : Value → Shared → Prop), Takes (X.tr pn xe) W' → ISs (X.tr pn xe) T W' body mb)
    (hsu : ∀ (a : Addr) (oe : Obj) (cls : Value) (d : Option Addr) (pn : List (Addr × Obj)), Zc cls d oe → (∃ vs, oe.data = .fields vs) → PSs (X.suite a ((a, oe) :: pn)) (b0 :: suite) (tSu X.K T h j i a cls d))
    (hi : X.N[i]? = some n := by rfl) (hln : X.env.kindOf n = some .local := by rfl) (hs : X.stack = X.env :: X.outer := by rfl) (hf : X.env.frame = some X.env.locals := by rfl) :
    IS X T W (.Try body [.ExceptHandler (some (.Name x np)) (some n) (b0 :: suite) pos'] [] [] pos) (sTry mb h j i) := by
  refine ⟨fun pins s σ H E I hG => ?_⟩
  have main := ps_try_as (np := np) (pos := pos) (pos' := pos') (tb := fun W' => sG X.K T W' mb) hs hf hN hi hln hc tk (fun W' pn xe tk' _ => hb W' pn xe tk') hsu
  refine main.run pins s σ H E I ?_
  obtain ⟨f, env, st, re, rh, p⟩ := hG
  refine ⟨f, env, st, re, rh, ?_⟩
  unfold sTry at p
  cases hm : mb env st with
  | nx e1 s1 => rw [hm] at p; exact p
  | bk e1 s1 => rw [hm] at p; exact p
  | ct e1 s1 => rw [hm] at p; exact p
  | rt d1 s1 => rw [hm] at p; exact p
  | stuck => rw [hm] at p; exact p
  | ex e1 c fs s1 =>
    rw [hm] at p
    simp only at p
    intro f' H' σ' cls d hp sy rh' re' xr
    obtain ⟨ecl, dd, vs, ed, hd, fr⟩ := xr
    cases hh : h c fs with
    | none => rw [hh] at p; exact p.elim
    | some od =>
      rw [hh] at p
      cases od with
      | none =>
        refine ⟨false, by rw [ecl]; exact hx c fs hh, fun z => (Bool.false_ne_true z).elim, fun _ => ?_⟩
        exact p f' H' σ' cls d hp sy rh' re' ⟨ecl, dd, vs, ed, hd, fr⟩
      | some dt =>
        refine ⟨true, by rw [ecl]; exact hy c fs dt hh, fun _ a ha => ?_, fun z => (Bool.noConfusion z)⟩
        simp only at p
        split at p
        · rename_i hl
          have hl2 : i < σ'.length := by rw [← re'.len]; exact hl
          refine ⟨c, fs, dd, vs, f', e1.set i none, s1, dt, ecl, ed, hd, fr, hh, List.getElem?_set_self hl2, by rw [List.length_set, List.length_set]; exact re'.len.symm, re'.wipe1, rh', fun v rv => ?_⟩
          refine p f' H' _ hp sy rh' ?_
          have r1 := ((re'.set (i := j) rv).wipe1 (i := i) (x := none))
          rw [List.set_comm _ _ (Ne.symm hij), List.set_set]
          exact r1
        · exact p.elim
end
end LT
set_option Elab.async false
set_option linter.all false
set_option maxRecDepth 100000
namespace LT
open PySem PySem.Spec PyProof.Rows L2
section
variable {X : Cx} {T : Tb} {W : WX}
/-- the suite «found = e.F if isinstance(e, A) and not isinstance(e, B) else z»: m which classes are caught -/
def hA (m : Nat → Option Bool) (isA isB : Nat → Bool) (k : Nat) (z : List Nat) : Nat → List (Nat × Dt) → Option (Option Dt) := fun c fs => match m c with
  | none => none
  | some false => some none
  | some true => if isA c && !isB c then (match fs.lookup k with
    | some d => some (some d)
    | none => none) else some (some (.str z))
theorem su_A {m : Nat → Option Bool} {isA isB : Nat → Bool} {k j i : Nat} {z : List Nat} {zs n fn y xA xB : Str} {CA CB : Addr} {pA pB p1 p2 p3 p4 p5 p6 p7 p8 p9 p10 p11 p12 p13 p14 : Pos} {jj : Nat}
    (hk : T.fld k = fn) (hz : zs.cps.toList = z) (hN : X.N.Nodup) (hm : X.mg "isinstance" = none) (hmA : X.mg xA = some (.ref CA)) (hmB : X.mg xB = some (.ref CB))
    (hE : ∀ c, m c = some true → ExcC X.K (T.cls c) ∧ XfC X.K (T.cls c) ∧ PySem.W.findIn X.K (.ref (T.cls c)) fn = some none ∧ PySem.W.kitOne X.K (.ref (T.cls c)) (.ref CA) = some (isA c) ∧ PySem.W.kitOne X.K (.ref (T.cls c)) (.ref CB) = some (isB c))
    (hi : X.N[i]? = some n := by rfl) (hj : X.N[j]? = some y := by rfl) (hvi : Vis X.env.scope n := by exact Or.inl rfl) (hvj : X.env.scope.names.lookup y = some .local := by rfl) (hg : Gl X "isinstance" := by rfl) (hgA : Gl X xA := by rfl) (hgB : Gl X xB := by rfl)
    (d1 : (n == ("__debug__" : Str)) = false := by decide) (d2 : (n == ("__classdict__" : Str)) = false := by decide) (d3 : (xA == ("__debug__" : Str)) = false := by decide) (d4 : (xB == ("__debug__" : Str)) = false := by decide)
    (hb : attributeBase (.Name n p9) fn X.env (eval (.Name n p9) X.env) = eval (.Name n p9) X.env := by rfl)
    (a : Addr) (oe : Obj) (cls : Value) (d : Option Addr) (pn : List (Addr × Obj)) (zc : Zc cls d oe) (fl : ∃ vs, oe.data = .fields vs)
    (hs : swapsWith (.IfExp (.BoolOp .And [.Call (.Name "isinstance" p1) [.Name n p2, .Name xA p3] [] p4, .UnaryOp .Not (.Call (.Name "isinstance" p5) [.Name n p6, .Name xB p7] [] p8) p13] p14) (.Attribute (.Name n p9) fn p10) (.Constant (.str zs) jj p11) p12) (some (.Name y pA)) pB.line X.env = pure false := by rfl)
    (h1 : ∀ (q r : Pos) (xx : Str), starEach [.Name n q, .Name xx r] X.env = (false, eval (.Name n q) X.env) :: starEach [.Name xx r] X.env := by intro _ _ _; rfl) (h2 : ∀ (r : Pos) (xx : Str), starEach [.Name xx r] X.env = (false, eval (.Name xx r) X.env) :: starEach [] X.env := by intro _ _; rfl)
    (h3 : ∀ (r q : Pos) (xx : Str), (backTo q (starEach [.Name xx r] X.env)).any (·.1) = false := by intro _ _ _; rfl)
    (h4 : ∀ whole, isTrue (.Call (.Name "isinstance" p1) [.Name n p2, .Name xA p3] [] p4) X.env whole = (do let v ← whole; standAt (Expr.Call (.Name "isinstance" p1) [.Name n p2, .Name xA p3] [] p4).pos; holding [v] (truthy v)) := by intro _; rfl)
    (h5 : ∀ whole, isTrue (.Call (.Name "isinstance" p5) [.Name n p6, .Name xB p7] [] p8) X.env whole = (do let v ← whole; standAt (Expr.Call (.Name "isinstance" p5) [.Name n p6, .Name xB p7] [] p8).pos; holding [v] (truthy v)) := by intro _; rfl) :
    PSs (X.suite a ((a, oe) :: pn)) [.Assign [.Name y pA] (.IfExp (.BoolOp .And [.Call (.Name "isinstance" p1) [.Name n p2, .Name xA p3] [] p4, .UnaryOp .Not (.Call (.Name "isinstance" p5) [.Name n p6, .Name xB p7] [] p8) p13] p14) (.Attribute (.Name n p9) fn p10) (.Constant (.str zs) jj p11) p12) pB]
      (tSu X.K T (hA m isA isB k z) j i a cls d) := by
  refine ⟨fun pins s σ H E I hG => ?_⟩
  obtain ⟨c, fs, dd, vs, f, env, st, dt, rfl, rfl, hd, fr, hh, hsl, hlen, re, rh, q⟩ := hG
  subst hk
  have hmc : m c = some true := by
    unfold hA at hh
    cases h0 : m c with
    | none => rw [h0] at hh; cases hh
    | some b =>
      cases b with
      | true => rfl
      | false => rw [h0] at hh; cases hh
  obtain ⟨eC, xC, hno, kA, kB⟩ := hE c hmc
  have isA' := pe_callB (X := X.suite a ((a, oe) :: pn)) (p := p1) (pos := p4) (call_isED eC zc fl) hg hm (by decide +kernel) (pa_cons (pe_var (pos := p2) hi hvi d1 d2) (pa_cons (pe_glob (v := .ref CA) (pos := p3) hgA hmA rfl d3) pa_nil (h2 p3 xA)) (h1 p2 p3 xA)) (by decide) (by decide) (h1 p2 p3 xA) (h3 p3 p4 xA)
  have isB' := pe_callB (X := X.suite a ((a, oe) :: pn)) (p := p5) (pos := p8) (call_isED eC zc fl) hg hm (by decide +kernel) (pa_cons (pe_var (pos := p6) hi hvi d1 d2) (pa_cons (pe_glob (v := .ref CB) (pos := p7) hgB hmB rfl d4) pa_nil (h2 p7 xB)) (h1 p6 p7 xB)) (by decide) (by decide) (h1 p6 p7 xB) (h3 p7 p8 xB)
  have fld := pe_xf (X := X) (pos := p10) xC hno zc fl (pe_var (X := X.suite a ((a, oe) :: pn)) (pos := p9) hi hvi d1 d2) hb
  have der := pss_one (ps_set (X := X.suite a ((a, oe) :: pn)) (pos := pB) (pos' := pA) hN hj (.inl hvj) (pe_ifExp (pos := p12) (PW.pt (pw_and (pos := p14) (pt_val (X := X.suite a ((a, oe) :: pn)) isA' h4) (pw_and1 (pos := p14) (pt_not (pos := p13) (pt_val (X := X.suite a ((a, oe) :: pn)) isB' h5))))) fld (pe_str (X := X.suite a ((a, oe) :: pn)) (x := zs) (j := jj) (pos := p11))) hs (.inr hvj))
  refine der.run pins s σ H E I ?_
  unfold hA at hh
  rw [hmc] at hh
  simp only at hh
  refine ⟨.ref a, hsl, ⟨vs, hd⟩, .ref CA, .ref CA, isA c, rfl, fun u r => r, kA, isA c, rfl, ?_⟩
  cases hA' : isA c with
  | false =>
    rw [hA', Bool.false_and, if_neg Bool.false_ne_true] at hh
    cases hh
    exact iteF (iteF (q _ (.str' hz)))
  | true =>
    refine iteT ⟨.ref a, hsl, ⟨vs, hd⟩, .ref CB, .ref CB, isB c, rfl, fun u r => r, kB, isB c, rfl, ?_⟩
    cases hB' : isB c with
    | true =>
      rw [hA', hB', Bool.not_true, Bool.and_false, if_neg Bool.false_ne_true] at hh
      cases hh
      exact iteF (q _ (.str' hz))
    | false =>
      rw [hA', hB', Bool.not_false, Bool.and_true, if_pos rfl] at hh
      cases hl : fs.lookup k with
      | none => rw [hl] at hh; cases hh
      | some d' =>
        rw [hl] at hh
        cases hh
        obtain ⟨v, hv, rv⟩ := fr.lookup hl
        exact iteT ⟨.ref a, hsl, rfl, rfl, dd, vs, v, rfl, hd, hv, q v rv⟩
end
end LT
set_option Elab.async false
set_option linter.all false
set_option maxRecDepth 100000
namespace LT
open PySem PySem.Spec PyProof.Rows L2
/-! ### the facts of a text, bundled -/
structure DefOk (P : Program) (w : World) (K : PySem.W.Frag) (mg : Str → Option Value) (base : Heap) (T : Tb) (x : Str) (k n : Nat) (F : MF) (dv : List Dt) : Prop where
  ex : ∃ f fd ps dfs dvs, mg x = some (.ref f) ∧ PySem.W.keepIn K (.ref f) = true ∧ Binds K fd ps dfs ∧ Vals dvs dfs ∧ (∀ H f, RVs K H f dv dvs) ∧ FnOk P w K mg base (L2.CX P w) k f fd ps (spF K T n F)
structure MakeOk (P : Program) (w : World) (K : PySem.W.Frag) (mg : Str → Option Value) (base : Heap) (T : Tb) (x : Str) (c k n : Nat) (F : MF) (dv : List Dt) : Prop where
  ex : ∃ f fd ps dfs dvs, Mk K (T.cls c) f ∧ mg x = some (.ref (T.cls c)) ∧ Binds K fd ps dfs ∧ Vals dvs dfs ∧ (∀ H f, RVs K H f dv dvs) ∧ FnOk P w K mg base (L2.CX P w) k f fd ps (spF K T n F)
structure MethOk (P : Program) (w : World) (K : PySem.W.Frag) (mg : Str → Option Value) (base : Heap) (T : Tb) (m : Str) (c mk k n : Nat) (F : MF) (dv : List Dt) : Prop where
  nm : T.fld mk = m
  ex : ∃ f fd ps dfs dvs, Cls K (T.cls c) ∧ Meth K (T.cls c) m f ∧ Binds K fd ps dfs ∧ Vals dvs dfs ∧ (∀ H f, RVs K H f dv dvs) ∧ FnOk P w K mg base (L2.CX P w) k f fd ps (spF K T n F)
structure ErrOk (P : Program) (w : World) (K : PySem.W.Frag) (mg : Str → Option Value) (base : Heap) (T : Tb) (x fn : Str) (c k j : Nat) : Prop where
  nm : T.fld k = fn
  mgC : mg x = some (.ref (T.cls c))
  ox : OexC K (T.cls c)
  no : PySem.W.findIn K (.ref (T.cls c)) fn = some none
  ex : ∃ fI fd, PySem.W.findIn K (.ref (T.cls c)) "__init__" = some (some (.ref fI)) ∧ PySem.W.typeIn K (.ref fI) = some (.type "function") ∧ Binds K fd ["self", fn] [] ∧ FnOk P w K mg base (L2.CX P w) j fI fd ["self", fn] (spErr K fn)
structure FldOk (K : PySem.W.Frag) (T : Tb) (cs : List Nat) (k : Nat) (fn : Str) : Prop where
  nm : T.fld k = fn
  ok : ∀ c, cs.contains c = true → Cls K (T.cls c) ∧ NoAttr K (T.cls c) fn
structure ConstOk (K : PySem.W.Frag) (mg : Str → Option Value) (x : Str) (d : Dt) : Prop where
  ex : ∃ u v, mg x = some u ∧ RelV v u ∧ ∀ H f, RV K H f d v
section
variable {X : Cx} {T : Tb} {W : WX} {e o : Expr} {es : List Expr} {ms : MA} {me mo : ME} {pos p p' apos : Pos} {k n c mk : Nat} {F : MF} {dv : List Dt} {x m fn : Str}
theorem ie_callD (D : DefOk X.prog X.w X.K X.mg X.base T x k n F dv) (hr : Room k X.A) (tk : Takes X W) (ha : IA X T W (e :: es) ms) (hg : Gl X x := by rfl) (hdb : (x == ("__debug__" : Str)) = false := by decide)
    (he : starEach (e :: es) X.env = (false, eval e X.env) :: starEach es X.env := by rfl) (hpl : (backTo pos (starEach es X.env)).any (·.1) = false := by rfl) : IE X T W (.Call (.Name x p) (e :: es) [] pos) (mCall n F ms dv) := by
  obtain ⟨f, fd, ps, dfs, dvs, h1, h2, h3, h4, h5, h6⟩ := D.ex
  exact ie_call h6 hr h1 h2 h3 h4 h5 tk ha hg hdb he hpl
theorem ie_makeD (D : MakeOk X.prog X.w X.K X.mg X.base T x c k n F dv) (hr : Room (k + 1) X.A) (tk : Takes X W) (ha : IA X T W (e :: es) ms) (hg : Gl X x := by rfl) (hdb : (x == ("__debug__" : Str)) = false := by decide)
    (he : starEach (e :: es) X.env = (false, eval e X.env) :: starEach es X.env := by rfl) (hpl : (backTo pos (starEach es X.env)).any (·.1) = false := by rfl) : IE X T W (.Call (.Name x p) (e :: es) [] pos) (mMake c n F ms dv) := by
  obtain ⟨f, fd, ps, dfs, dvs, h1, h2, h3, h4, h5, h6⟩ := D.ex
  exact ie_make h1 h6 hr h2 h3 h4 h5 tk ha hg hdb he hpl
theorem ie_makeD0 (D : MakeOk X.prog X.w X.K X.mg X.base T x c k n F dv) (hr : Room (k + 1) X.A) (tk : Takes X W) (hg : Gl X x := by rfl) (hdb : (x == ("__debug__" : Str)) = false := by decide) : IE X T W (.Call (.Name x p) [] [] pos) (mMake c n F mNil dv) := by
  obtain ⟨f, fd, ps, dfs, dvs, h1, h2, h3, h4, h5, h6⟩ := D.ex
  exact ie_make0 h1 h6 hr h2 h3 h4 h5 tk hg hdb
theorem ie_methD {pl : Sem Bool} (D : MethOk X.prog X.w X.K X.mg X.base T m c mk k n F dv) (hr : Room k X.A) (tk : Takes X W) (ho : IE X T W o mo) (ha : IA X T W (e :: es) ms)
    (hst : starEach (e :: es) X.env = (false, eval e X.env) :: starEach es X.env := by rfl) (hpl : (backTo pos (starEach es X.env)).any (·.1) = false := by rfl)
    (ht : eval (.Call (.Attribute o m apos) (e :: es) [] pos) X.env = (do
      let ov ← eval o X.env
      standAt apos.atName
      let (f, first) ← holding [ov] (getMethod ov m pl)
      callWith pos f first (backTo pos (starEach (e :: es) X.env)) (backToKw pos (keywordEach [] X.env))) := by rfl) : IE X T W (.Call (.Attribute o m apos) (e :: es) [] pos) (mMeth c mk n F mo ms dv) := by
  obtain ⟨f, fd, ps, dfs, dvs, h1, h2, h3, h4, h5, h6⟩ := D.ex
  exact ie_meth (pl := pl) D.nm ho h1 h2 h6 hr h3 h4 h5 tk ha hst hpl ht
theorem ie_methD0 {pl : Sem Bool} (D : MethOk X.prog X.w X.K X.mg X.base T m c mk k n F dv) (hr : Room k X.A) (tk : Takes X W) (ho : IE X T W o mo)
    (ht : eval (.Call (.Attribute o m apos) [] [] pos) X.env = (do
      let ov ← eval o X.env
      standAt apos.atName
      let (f, first) ← holding [ov] (getMethod ov m pl)
      callWith pos f first (backTo pos (starEach [] X.env)) (backToKw pos (keywordEach [] X.env))) := by rfl) : IE X T W (.Call (.Attribute o m apos) [] [] pos) (mMeth c mk n F mo mNil dv) := by
  obtain ⟨f, fd, ps, dfs, dvs, h1, h2, h3, h4, h5, h6⟩ := D.ex
  exact ie_meth0 (pl := pl) D.nm ho h1 h2 h6 hr h3 h4 h5 tk ht
theorem is_raiseD {j : Nat} (D : ErrOk X.prog X.w X.K X.mg X.base T x fn c k j) (hr : Room (j + 1) X.A) (hc : X.calm = true) (tk : Takes X W) (he : IE X T W e me) (hg : Gl X x := by rfl) (hdb : (x == ("__debug__" : Str)) = false := by decide)
    (h1 : starEach [e] X.env = (false, eval e X.env) :: starEach [] X.env := by rfl) (hpl : (backTo p' (starEach [] X.env)).any (·.1) = false := by rfl) : IS X T W (.Raise (some (.Call (.Name x p) [e] [] p')) none pos) (sRaise c k me) := by
  obtain ⟨fI, fd, a1, a2, a3, a4⟩ := D.ex
  exact is_raise c k rfl D.nm D.ox a1 a2 D.no a4 hr a3 D.mgC hc tk he hg hdb h1 hpl
theorem ie_fldD {cs : List Nat} (D : FldOk X.K T cs k fn) (he : IE X T W e me) (hb : attributeBase e fn X.env (eval e X.env) = eval e X.env := by rfl) : IE X T W (.Attribute e fn pos) (mFld cs k me) := ie_fld cs k D.nm D.ok he hb
theorem is_fldD {cs : List Nat} (D : FldOk X.K T cs k fn) (ho : IE X T W o mo) (he : IE X T W e me) (hs : swapsWith e (some (.Attribute o fn p')) pos.line X.env = pure false := by rfl) : IS X T W (.Assign [.Attribute o fn p'] e pos) (sFldSet cs k mo me) := is_fld cs k D.nm D.ok ho he hs
theorem ie_const {d : Dt} (D : ConstOk X.K X.mg x d) (hg : Gl X x := by rfl) (hdb : (x == ("__debug__" : Str)) = false := by decide) : IE X T W (.Name x pos) (mC d) := by
  obtain ⟨u, v, h1, h2, h3⟩ := D.ex
  exact PEw (pe_glob hg h1 h2 hdb) fun σ H Q ⟨f, env, st, re, rh, p⟩ => p.now rh (h3 H f)
theorem pe_ty {n : String} (hm : X.mg x = none) (hv : bootBuiltins x = some (.type n) := by decide +kernel) (hg : Gl X x := by rfl) (h1 : x ≠ "__name__" := by decide) (hdb : (x == ("__debug__" : Str)) = false := by decide) : PE X (.Name x pos) (tC (.ty n)) := pe_bltn hg hm hv rfl h1 hdb
theorem pe_own {C : Addr} (hm : X.mg x = some (.ref C)) (hg : Gl X x := by rfl) (hdb : (x == ("__debug__" : Str)) = false := by decide) : PE X (.Name x pos) (tC (.ref C)) := pe_glob hg hm rfl hdb
end
section
variable {P : Program} {w : World} {K : PySem.W.Frag} {mg : Str → Option Value} {base : Heap} {T : Tb}
theorem fn_okD {x qual : Str} {params : Arguments} {body : List Stmt} {scope : Scope} {dvs : List V} {kws : List (Str × V)} {f : Addr} {fd : FuncData} {N ps : List Str} {k : Nat} {m : MS} (F : FunD K x qual params body scope dvs kws f fd) (S : FnScope N ps scope)
    (hb : ∀ (cdv : Value) (A : Around) (outer : List Env) (s : Shared) (H : Hp) (E : XK), Room k (A.deeper (envOfC qual scope s.heap.objs.size f cdv)) →
      ISs (cxOf (L2.CX P w) P w K mg base N qual scope f cdv A outer s H E) T (fun cls d _ H => E cls d H) body m) : FnOk P w K mg base (L2.CX P w) (k + 1) f fd ps (spF K T ps.length (runF N.length m)) := by
  refine F.ok S (fun vs H Q E h => h.1) fun cdv A outer s H vs Q E hr h => ?_
  obtain ⟨_, f0, ds, st0, rvs, rh, p⟩ := h
  refine ⟨_, hb cdv A outer s H E hr, f0, startE N.length ds, st0, REn.start rvs, rh, ?_⟩
  unfold runF at p
  show PostS K T (fun cls d _ H => E cls d H) f0 H (m (startE N.length ds) st0) _
  cases hm : m (startE N.length ds) st0 with
  | nx e1 s1 => rw [hm] at p; exact fun f' H' σ' hp s rh' _ => p f' H' .non hp s rh' .non
  | rt d s1 => rw [hm] at p; exact p
  | ex e1 c fs s1 => rw [hm] at p; exact fun f' H' σ' cls d hp s rh' _ xr => p f' H' cls d hp s rh' xr
  | bk e1 s1 => rw [hm] at p; exact p.elim
  | ct e1 s1 => rw [hm] at p; exact p.elim
  | stuck => rw [hm] at p; exact p.elim
theorem fn_stuck {f : Addr} {fd : FuncData} {ps : List Str} {k n : Nat} (hn : ps.length = n) : FnOk P w K mg base (L2.CX P w) k f fd ps (spF K T n (fun _ _ => .stuck)) :=
  ⟨fun vs H Q E h => h.1.trans hn.symm, fun A outer s H args us vs Q E hr e0 hb r h => by
    obtain ⟨_, _, _, _, _, _, p⟩ := h
    exact p.elim⟩
end
/-! ### fields by number -/
def mkFld (tbl : List Str) (i : Nat) : Str := match tbl[i]? with
  | some x => x
  | none => ⟨#[0, i]⟩
def tblOk (tbl : List Str) : Bool := decide tbl.Nodup && tbl.all fun x => decide (x.cps[0]? ≠ some 0)
theorem mkFld_inj {tbl : List Str} (h : tblOk tbl = true) (i j : Nat) (e : mkFld tbl i = mkFld tbl j) : i = j := by
  unfold tblOk at h
  rw [Bool.and_eq_true] at h
  have nd := of_decide_eq_true h.1
  have al := List.all_eq_true.mp h.2
  unfold mkFld at e
  cases hi : tbl[i]? with
  | some x =>
    rw [hi] at e
    cases hj : tbl[j]? with
    | some y =>
      rw [hj] at e
      have e' : x = y := e
      subst e'
      exact (List.getElem?_inj (List.getElem?_eq_some_iff.mp hi).1 nd).mp (hi.trans hj.symm)
    | none =>
      rw [hj] at e
      have e' : x = ⟨#[0, j]⟩ := e
      have := of_decide_eq_true (al x (List.mem_iff_getElem?.mpr ⟨i, hi⟩))
      rw [e'] at this
      exact absurd rfl this
  | none =>
    rw [hi] at e
    cases hj : tbl[j]? with
    | some y =>
      rw [hj] at e
      have e' : (⟨#[0, i]⟩ : Str) = y := e
      have := of_decide_eq_true (al y (List.mem_iff_getElem?.mpr ⟨j, hj⟩))
      rw [← e'] at this
      exact absurd rfl this
    | none =>
      rw [hj] at e
      have e' : (⟨#[0, i]⟩ : Str) = ⟨#[0, j]⟩ := e
      have e2 : #[0, i] = #[0, j] := Str.mk.inj e'
      simpa using e2
end LT
set_option Elab.async false
set_option linter.all false
set_option maxRecDepth 100000
namespace LT
open PySem PySem.Spec PyProof.Rows L2
/-! ### isinstance by names -/
def qB (g : Tk → Bool) (cs : List Nat) : Tk → Option Bool
  | .ins c => if cs.contains c then some false else none
  | t => some (g t)
def tStr : Tk → Bool
  | .str => true
  | _ => false
def tInt : Tk → Bool
  | .int => true
  | .bl => true
  | _ => false
def tBool : Tk → Bool
  | .bl => true
  | _ => false
def tTup : Tk → Bool
  | .tup => true
  | _ => false
def tSeqs : Tk → Bool
  | .tup => true
  | .lst => true
  | _ => false
def tNo : Tk → Bool := fun _ => false
structure IsB (K : PySem.W.Frag) (T : Tb) (us : List Value) (cs : List Nat) : Prop where
  ok : ∀ c, cs.contains c = true → InsT K (T.cls c) ∧ PySem.W.kitAny K (.ref (T.cls c)) us = some false
theorem kitAny1 {K : PySem.W.Frag} {t c : Value} {b : Bool} (h : PySem.W.kitAny K t [c] = some b) : PySem.W.kitOne K t c = some b := by
  unfold PySem.W.kitAny at h
  cases hk : PySem.W.kitOne K t c with
  | none => rw [hk] at h; cases h
  | some v =>
    rw [hk] at h
    cases v with
    | true => exact h
    | false => exact h
/-- the answers for what is built in -/
def KitOk (us : List Value) (g : Tk → Bool) : Prop := ∀ (K : PySem.W.Frag) (T : Tb) (t : Tk), (∀ c, t ≠ .ins c) → PySem.W.kitAny K (tkV T t) us = some (g t)
theorem kit_one_any {K : PySem.W.Frag} {t u : Value} {b : Bool} (h : PySem.W.kitOne K t u = some b) : PySem.W.kitAny K t [u] = some b := by
  unfold PySem.W.kitAny
  rw [h]
  cases b <;> rfl
theorem kitok_str : KitOk [.type "str"] tStr := fun K T t h => by
  cases t <;> first | exact kit_one_any (kit_ty (by decide +kernel)) | exact absurd rfl (h _)
theorem kitok_int : KitOk [.type "int"] tInt := fun K T t h => by
  cases t <;> first | exact kit_one_any (kit_ty (by decide +kernel)) | exact absurd rfl (h _)
theorem kitok_bool : KitOk [.type "bool"] tBool := fun K T t h => by
  cases t <;> first | exact kit_one_any (kit_ty (by decide +kernel)) | exact absurd rfl (h _)
theorem kitok_tuple : KitOk [.type "tuple"] tTup := fun K T t h => by
  cases t <;> first | exact kit_one_any (kit_ty (by decide +kernel)) | exact absurd rfl (h _)
theorem kit_two_any {K : PySem.W.Frag} {t u v : Value} {a b : Bool} (h : PySem.W.kitOne K t u = some a) (h2 : PySem.W.kitOne K t v = some b) : PySem.W.kitAny K t [u, v] = some (a || b) := by
  unfold PySem.W.kitAny
  rw [h]
  cases a with
  | true => rfl
  | false => exact kit_one_any h2
theorem kitok_seq : KitOk [.type "list", .type "tuple"] tSeqs := fun K T t h => by
  cases t <;> first
    | exact kit_two_any (a := false) (b := false) (kit_ty (by decide +kernel)) (kit_ty (by decide +kernel))
    | exact kit_two_any (a := true) (b := false) (kit_ty (by decide +kernel)) (kit_ty (by decide +kernel))
    | exact kit_two_any (a := false) (b := true) (kit_ty (by decide +kernel)) (kit_ty (by decide +kernel))
    | exact absurd rfl (h _)
section
variable {X : Cx} {T : Tb} {W : WX} {e : Expr} {me : ME} {pos p : Pos}
theorem qB_ins {g : Tk → Bool} {cs : List Nat} {c : Nat} {b : Bool} (h : qB g cs (.ins c) = some b) : cs.contains c = true ∧ b = false := by
  have h' : (if cs.contains c then some false else none) = some b := h
  split at h'
  · rename_i q; cases h'; exact ⟨q, rfl⟩
  · cases h'
theorem qB_any {K : PySem.W.Frag} {us : List Value} {g : Tk → Bool} {cs : List Nat} (B : IsB K T us cs) (ko : KitOk us g) (t : Tk) (b : Bool) (h : qB g cs t = some b) : PySem.W.kitAny K (tkV T t) us = some b := by
  cases t with
  | ins c => obtain ⟨q, rfl⟩ := qB_ins h; exact (B.ok c q).2
  | _ =>
    cases h
    exact ko K T _ fun c z => Tk.noConfusion z
theorem ie_isB {n : String} {x : Str} {pc : Pos} {g : Tk → Bool} {cs : List Nat} (ko : KitOk [.type n] g) (B : IsB X.K T [.type n] cs) (hm : X.mg "isinstance" = none) (hc : PE X (.Name x pc) (tC (.ty n))) (he : IE X T W e me)
    (hg : Gl X "isinstance" := by rfl) (h1 : starEach [e, .Name x pc] X.env = (false, eval e X.env) :: starEach [.Name x pc] X.env := by rfl) (h2 : starEach [.Name x pc] X.env = (false, eval (.Name x pc) X.env) :: starEach [] X.env := by rfl) (hpl : (backTo pos (starEach [.Name x pc] X.env)).any (·.1) = false := by rfl) :
    IE X T W (.Call (.Name "isinstance" p) [e, .Name x pc] [] pos) (mIsI (qB g cs) me) :=
  ie_isi _ hm (fun c b h => (B.ok c (qB_ins h).1).1) (fun t b h => kitAny1 (qB_any B ko t b h)) (.ty n) hc he hg h1 h2 hpl
theorem ie_isB2 {n1 n2 : String} {c1 c2 : Expr} {kt : Nat} {pt : Pos} {g : Tk → Bool} {cs : List Nat} (ko : KitOk [.type n1, .type n2] g) (B : IsB X.K T [.type n1, .type n2] cs) (hm : X.mg "isinstance" = none) (hc1 : PE X c1 (tC (.ty n1))) (hc2 : PE X c2 (tC (.ty n2))) (he : IE X T W e me)
    (hg : Gl X "isinstance" := by rfl) (h1 : starEach [e, .Tuple [c1, c2] kt pt] X.env = (false, eval e X.env) :: starEach [.Tuple [c1, c2] kt pt] X.env := by rfl) (h2 : starEach [.Tuple [c1, c2] kt pt] X.env = (false, eval (.Tuple [c1, c2] kt pt) X.env) :: starEach [] X.env := by rfl)
    (h3 : starEach [c1, c2] X.env = (false, eval c1 X.env) :: starEach [c2] X.env := by rfl) (h4 : starEach [c2] X.env = (false, eval c2 X.env) :: starEach [] X.env := by rfl) (hpl : (backTo pos (starEach [.Tuple [c1, c2] kt pt] X.env)).any (·.1) = false := by rfl) :
    IE X T W (.Call (.Name "isinstance" p) [e, .Tuple [c1, c2] kt pt] [] pos) (mIsI (qB g cs) me) :=
  ie_isi2 _ hm (fun c b h => (B.ok c (qB_ins h).1).1) (qB_any B ko) (.ty n1) (.ty n2) hc1 hc2 he hg h1 h2 h3 h4 hpl
/-- own classes: c0 the one asked for -/
def qO (c0 : Nat) (cs : List Nat) : Tk → Option Bool
  | .ins c => if c = c0 then some true else if cs.contains c then some false else none
  | _ => some false
structure IsO (K : PySem.W.Frag) (mg : Str → Option Value) (T : Tb) (x : Str) (c0 : Nat) (cs : List Nat) : Prop where
  mgC : mg x = some (.ref (T.cls c0))
  me : InsT K (T.cls c0) ∧ PySem.W.kitOne K (.ref (T.cls c0)) (.ref (T.cls c0)) = some true
  ok : ∀ c, c ≠ c0 → cs.contains c = true → InsT K (T.cls c) ∧ PySem.W.kitOne K (.ref (T.cls c)) (.ref (T.cls c0)) = some false
  bt : ∀ t : Tk, (∀ c, t ≠ .ins c) → PySem.W.kitOne K (tkV T t) (.ref (T.cls c0)) = some false
theorem ie_isO {x : Str} {pc : Pos} {c0 : Nat} {cs : List Nat} (B : IsO X.K X.mg T x c0 cs) (hm : X.mg "isinstance" = none) (he : IE X T W e me)
    (hgx : Gl X x := by rfl) (hdb : (x == ("__debug__" : Str)) = false := by decide) (hg : Gl X "isinstance" := by rfl) (h1 : starEach [e, .Name x pc] X.env = (false, eval e X.env) :: starEach [.Name x pc] X.env := by rfl) (h2 : starEach [.Name x pc] X.env = (false, eval (.Name x pc) X.env) :: starEach [] X.env := by rfl) (hpl : (backTo pos (starEach [.Name x pc] X.env)).any (·.1) = false := by rfl) :
    IE X T W (.Call (.Name "isinstance" p) [e, .Name x pc] [] pos) (mIsI (qO c0 cs) me) := by
  have ins : ∀ c b, qO c0 cs (.ins c) = some b → InsT X.K (T.cls c) ∧ PySem.W.kitOne X.K (.ref (T.cls c)) (.ref (T.cls c0)) = some b := fun c b h => by
    have h' : (if c = c0 then some true else if cs.contains c then some false else none) = some b := h
    split at h'
    · rename_i q; subst q; cases h'; exact B.me
    · rename_i q0
      split at h'
      · rename_i q; cases h'; exact B.ok c q0 q
      · cases h'
  exact ie_isi _ hm (fun c b h => (ins c b h).1) (fun t b h => by
    cases t with
    | ins c => exact (ins c b h).2
    | _ => cases h; exact B.bt _ fun c z => Tk.noConfusion z) (.own _) (pe_own (pos := pc) B.mgC hgx hdb) he hg h1 h2 hpl
end
end LT
set_option Elab.async false
set_option linter.all false
set_option maxRecDepth 100000
namespace LT
open PySem PySem.Spec PyProof.Rows L2
/-- what the suite «found = e.F if isinstance(e, A) and not isinstance(e, B) else z» leans on -/
structure SuOk (K : PySem.W.Frag) (mg : Str → Option Value) (T : Tb) (x xA xB fn : Str) (k : Nat) (m : Nat → Option Bool) (isA isB : Nat → Bool) : Prop where
  nm : T.fld k = fn
  ex : ∃ Cx CA CB, mg x = some (.ref Cx) ∧ mg xA = some (.ref CA) ∧ mg xB = some (.ref CB) ∧ (∀ c, m c = some false → PySem.W.exmOne K (.ref (T.cls c)) (.ref Cx) = some false) ∧
    ∀ c, m c = some true → PySem.W.exmOne K (.ref (T.cls c)) (.ref Cx) = some true ∧ ExcC K (T.cls c) ∧ XfC K (T.cls c) ∧ PySem.W.findIn K (.ref (T.cls c)) fn = some none ∧ PySem.W.kitOne K (.ref (T.cls c)) (.ref CA) = some (isA c) ∧ PySem.W.kitOne K (.ref (T.cls c)) (.ref CB) = some (isB c)
section
variable {X : Cx} {T : Tb} {W : WX}
theorem is_tryA {m : Nat → Option Bool} {isA isB : Nat → Bool} {k : Nat} {z : List Nat} {zs n fn y x xA xB : Str} {pA pB p1 p2 p3 p4 p5 p6 p7 p8 p9 p10 p11 p12 p13 p14 np pos pos' : Pos} {jj : Nat} {body : List Stmt} {mb : MS}
    (S : SuOk X.K X.mg T x xA xB fn k m isA isB) (j i : Nat) (hij : j ≠ i) (hN : X.N.Nodup) (hm : X.mg "isinstance" = none) (tk : Takes X W) (hz : zs.cps.toList = z)
    (hb : ∀ (W' : WX) (pn : List (Addr × Obj)) (xe : Value → Shared → Prop), Takes (X.tr pn xe) W' → ISs (X.tr pn xe) T W' body mb)
    (hi : X.N[i]? = some n := by rfl) (hj : X.N[j]? = some y := by rfl) (hvi : X.env.scope.names.lookup n = some .local := by rfl) (hvj : X.env.scope.names.lookup y = some .local := by rfl) (hg : Gl X "isinstance" := by rfl) (hgA : Gl X xA := by rfl) (hgB : Gl X xB := by rfl) (hgx : Gl X x := by rfl)
    (d1 : (n == ("__debug__" : Str)) = false := by decide) (d2 : (n == ("__classdict__" : Str)) = false := by decide) (d3 : (xA == ("__debug__" : Str)) = false := by decide) (d4 : (xB == ("__debug__" : Str)) = false := by decide) (d5 : (x == ("__debug__" : Str)) = false := by decide)
    (ha : attributeBase (.Name n p9) fn X.env (eval (.Name n p9) X.env) = eval (.Name n p9) X.env := by rfl)
    (hs : swapsWith (.IfExp (.BoolOp .And [.Call (.Name "isinstance" p1) [.Name n p2, .Name xA p3] [] p4, .UnaryOp .Not (.Call (.Name "isinstance" p5) [.Name n p6, .Name xB p7] [] p8) p13] p14) (.Attribute (.Name n p9) fn p10) (.Constant (.str zs) jj p11) p12) (some (.Name y pA)) pB.line X.env = pure false := by rfl)
    (h1 : ∀ (q r : Pos) (xx : Str), starEach [.Name n q, .Name xx r] X.env = (false, eval (.Name n q) X.env) :: starEach [.Name xx r] X.env := by intro _ _ _; rfl) (h2 : ∀ (r : Pos) (xx : Str), starEach [.Name xx r] X.env = (false, eval (.Name xx r) X.env) :: starEach [] X.env := by intro _ _; rfl)
    (h3 : ∀ (r q : Pos) (xx : Str), (backTo q (starEach [.Name xx r] X.env)).any (·.1) = false := by intro _ _ _; rfl)
    (h4 : ∀ whole, isTrue (.Call (.Name "isinstance" p1) [.Name n p2, .Name xA p3] [] p4) X.env whole = (do let v ← whole; standAt (Expr.Call (.Name "isinstance" p1) [.Name n p2, .Name xA p3] [] p4).pos; holding [v] (truthy v)) := by intro _; rfl)
    (h5 : ∀ whole, isTrue (.Call (.Name "isinstance" p5) [.Name n p6, .Name xB p7] [] p8) X.env whole = (do let v ← whole; standAt (Expr.Call (.Name "isinstance" p5) [.Name n p6, .Name xB p7] [] p8).pos; holding [v] (truthy v)) := by intro _; rfl)
    (hst : X.stack = X.env :: X.outer := by rfl) (hf : X.env.frame = some X.env.locals := by rfl) :
    IS X T W (.Try body [.ExceptHandler (some (.Name x np)) (some n) [.Assign [.Name y pA] (.IfExp (.BoolOp .And [.Call (.Name "isinstance" p1) [.Name n p2, .Name xA p3] [] p4, .UnaryOp .Not (.Call (.Name "isinstance" p5) [.Name n p6, .Name xB p7] [] p8) p13] p14) (.Attribute (.Name n p9) fn p10) (.Constant (.str zs) jj p11) p12) pB] pos'] [] [] pos)
      (sTry mb (hA m isA isB k z) j i) := by
  obtain ⟨Cx, CA, CB, e1, e2, e3, hno, hyes⟩ := S.ex
  have mtrue : ∀ c fs d, hA m isA isB k z c fs = some (some d) → m c = some true := fun c fs d h => by
    unfold hA at h
    cases h0 : m c with
    | none => rw [h0] at h; cases h
    | some b =>
      cases b with
      | true => rfl
      | false => rw [h0] at h; cases h
  have mfalse : ∀ c fs, hA m isA isB k z c fs = some none → m c = some false := fun c fs h => by
    unfold hA at h
    cases h0 : m c with
    | none => rw [h0] at h; cases h
    | some b =>
      cases b with
      | false => rfl
      | true =>
        rw [h0] at h
        simp only at h
        split at h
        · split at h <;> cases h
        · cases h
  exact is_try j i hij hN ⟨hgx, d5, .inl e1⟩ tk (fun c fs h => hno c (mfalse c fs h)) (fun c fs d h => (hyes c (mtrue c fs d h)).1) hb
    (fun a oe cls d pn zc fl => su_A S.nm hz hN hm e2 e3 (fun c h => (hyes c h).2) hi hj (.inl hvi) hvj hg hgA hgB d1 d2 d3 d4 ha a oe cls d pn zc fl hs h1 h2 h3 h4 h5) hi hvi hst hf
end
end LT
set_option Elab.async false
set_option linter.all false
set_option maxRecDepth 100000
namespace LT
open PySem PySem.Spec PyProof.Rows L2
/-! ### stores that grow: all stands but what M names -/
structure Xm (M : List Nat) (st st' : Sto) : Prop where
  len : st.length ≤ st'.length
  get : ∀ i, i < st.length → i ∉ M → st'[i]? = st[i]?
theorem Xm.refl {M : List Nat} {st : Sto} : Xm M st st := ⟨Nat.le_refl _, fun _ _ _ => rfl⟩
theorem Xm.trans {M : List Nat} {a b c : Sto} (h : Xm M a b) (k : Xm M b c) : Xm M a c := ⟨Nat.le_trans h.len k.len, fun i hi hm => (k.get i (Nat.lt_of_lt_of_le hi h.len) hm).trans (h.get i hi hm)⟩
theorem Xm.app {M : List Nat} {st g : Sto} : Xm M st (st ++ g) := ⟨by rw [List.length_append]; omega, fun i hi _ => List.getElem?_append_left hi⟩
theorem Xm.mono {M N : List Nat} {a b : Sto} (h : Xm M a b) (hs : ∀ i ∈ M, i ∈ N) : Xm N a b := ⟨h.len, fun i hi hm => h.get i hi fun z => hm (hs i z)⟩
theorem Xm.set {M : List Nat} {st : Sto} {i : Nat} {o : Ob} (h : i ∈ M) : Xm M st (st.set i o) := ⟨by rw [List.length_set]; exact Nat.le_refl _, fun j hj hm => List.getElem?_set_ne fun e => hm (by rw [← e]; exact h)⟩
theorem Xm.setN {M : List Nat} {a b : Sto} {i : Nat} {o : Ob} (h : Xm M a b) (hi : a.length ≤ i) : Xm M a (b.set i o) := ⟨by rw [List.length_set]; exact h.len, fun j hj hm => by rw [List.getElem?_set_ne (by omega)]; exact h.get j hj hm⟩
theorem Xm.at {M : List Nat} {a b : Sto} {i : Nat} {o : Ob} (h : Xm M a b) (ho : a[i]? = some o) (hm : i ∉ M) : b[i]? = some o := by
  rw [h.get i (List.getElem?_eq_some_iff.mp ho).1 hm]
  exact ho
/-- alone but the new -/
theorem Xm.pure {M : List Nat} {a b : Sto} (h : Xm [] a b) : Xm M a b := h.mono fun i hi => by cases hi
def outF : Rs → Re Dt
  | .nx _ st' => .ok .non st'
  | .rt d st' => .ok d st'
  | .ex _ c fs st' => .exc c fs st'
  | _ => .stuck
theorem runF_out (n : Nat) (m : MS) (ds : List Dt) (st : Sto) : runF n m ds st = outF (m (startE n ds) st) := by
  unfold runF outF
  cases m (startE n ds) st <;> rfl
/-! ### loops -/
/-- a for loop by an invariant: every turn goes on -/
theorem forL_go {w : Wk} {g : MG} {body : MS} (n : Nat) (J : Nat → Lo → Sto → Prop)
    (hstop : ∀ env st, J n env st → w.turn n st = .stop)
    (hgo : ∀ i env st, i < n → J i env st → ∃ d, w.turn i st = .item d ∧ ∃ env1 st1, g d env st = .nx env1 st1 ∧ ∃ env2 st2, (body env1 st1 = .nx env2 st2 ∨ body env1 st1 = .ct env2 st2) ∧ J (i + 1) env2 st2) :
    ∀ (m i : Nat) (env : Lo) (st : Sto), i + m = n → J i env st → ∃ env' st', forL w g body (m + 1) i env st = .nx env' st' ∧ J n env' st'
  | 0, i, env, st, e, h => by
    have e' : i = n := by omega
    subst e'
    exact ⟨env, st, by unfold forL; rw [hstop env st h], h⟩
  | m + 1, i, env, st, e, h => by
    obtain ⟨d, ht, env1, st1, hg, env2, st2, hb, hJ⟩ := hgo i env st (by omega) h
    obtain ⟨env', st', h1, h2⟩ := forL_go n J hstop hgo m (i + 1) env2 st2 (by omega) hJ
    refine ⟨env', st', ?_, h2⟩
    rw [← h1]
    conv => lhs; unfold forL
    rw [ht]
    simp only
    rw [hg]
    simp only
    rcases hb with hb | hb <;> rw [hb]
/-- a comprehension without a test, its items told one by one -/
theorem lcL_go {w : Wk} {g : MG} {te : ME} {env : Lo} {d : Nat} (n : Nat) (I : Sto → Prop) (P : Nat → Dt → Sto → Prop) (M : List Nat) (hd : d ∉ M) (hn : n < lim)
    (hI : ∀ st o, I st → I (st.set d o)) (hP : ∀ i y st o, P i y st → P i y (st.set d o)) (hPm : ∀ i y st st', P i y st → Xm M st st' → P i y st')
    (hstop : ∀ st, I st → w.turn n st = .stop)
    (hgo : ∀ i st, i < n → I st → d < st.length → ∃ x, w.turn i st = .item x ∧ ∃ env1, g x env st = .nx env1 st ∧ ∃ y st2, te env1 st = .ok y st2 ∧ Xm M st st2 ∧ I st2 ∧ P i y st2) :
    ∀ (m i : Nat) (st : Sto) (acc : List Dt), i + m = n → I st → st[d]? = some (.lst acc) → acc.length = i → (∀ j y, acc[j]? = some y → P j y st) →
      ∃ ys st', lcL w g mYes te env d (m + 1) i st = .ok (.ref d) st' ∧ Xm (d :: M) st st' ∧ I st' ∧ st'[d]? = some (.lst ys) ∧ ys.length = n ∧ ∀ j y, ys[j]? = some y → P j y st'
  | 0, i, st, acc, e, h, hacc, hl, hp => by
    have e' : i = n := by omega
    subst e'
    exact ⟨acc, st, by unfold lcL; rw [hstop st h], Xm.refl, h, hacc, hl, hp⟩
  | m + 1, i, st, acc, e, h, hacc, hl, hp => by
    have hdl : d < st.length := (List.getElem?_eq_some_iff.mp hacc).1
    obtain ⟨x, ht, env1, hg, y, st2, he, hx, hI2, hP2⟩ := hgo i st (by omega) h hdl
    have hacc2 : st2[d]? = some (.lst acc) := hx.at hacc hd
    have hdl2 : d < st2.length := (List.getElem?_eq_some_iff.mp hacc2).1
    obtain ⟨ys, st', h1, h2, h3, h4, h5, h6⟩ := lcL_go n I P M hd hn hI hP hPm hstop hgo m (i + 1) (st2.set d (.lst (acc ++ [y]))) (acc ++ [y]) (by omega) (hI _ _ hI2) (List.getElem?_set_self hdl2) (by rw [List.length_append, hl]; rfl) (fun j z hz => by
      refine hP _ _ _ _ ?_
      rcases Nat.lt_or_ge j acc.length with q | q
      · rw [List.getElem?_append_left q] at hz
        exact hPm _ _ _ _ (hp j z hz) hx
      · rw [List.getElem?_append_right q] at hz
        have : j - acc.length = 0 := by
          rcases Nat.eq_zero_or_pos (j - acc.length) with r | r
          · exact r
          · rw [List.getElem?_eq_none (by rw [List.length_singleton]; exact r)] at hz; cases hz
        rw [this] at hz
        have e1 : y = z := by simpa using hz
        subst e1
        have e2 : j = i := by omega
        subst e2
        exact hP2)
    refine ⟨ys, st', ?_, ((hx.mono fun i hi => List.mem_cons_of_mem _ hi).trans (Xm.set List.mem_cons_self)).trans h2, h3, h4, h5, h6⟩
    rw [← h1]
    conv => lhs; unfold lcL
    rw [ht]
    simp only
    rw [hg]
    simp only [mYes, if_true]
    rw [he]
    simp only
    rw [hacc2]
    simp only
    rw [if_pos (by omega)]
theorem wTup_item {ds : List Dt} {i : Nat} {d : Dt} {st : Sto} (h : ds[i]? = some d) : (wTup ds).turn i st = .item d := by
  show (match ds[i]? with | some d => Tn.item d | none => Tn.stop) = _
  rw [h]
theorem wTup_stop {ds : List Dt} {st : Sto} : (wTup ds).turn ds.length st = .stop := by
  show (match ds[ds.length]? with | some d => Tn.item d | none => Tn.stop) = _
  rw [List.getElem?_eq_none (Nat.le_refl _)]
theorem wLst_item {a n i : Nat} {xs : List Dt} {d : Dt} {st : Sto} (ha : st[a]? = some (.lst xs)) (h : xs[i]? = some d) : (wLst a n).turn i st = .item d := by
  show (match st[a]? with | some (.lst xs) => (match xs[i]? with | some d => Tn.item d | none => Tn.stop) | _ => Tn.stuck) = _
  rw [ha]
  simp only
  rw [h]
theorem wLst_stop {a n : Nat} {xs : List Dt} {st : Sto} (ha : st[a]? = some (.lst xs)) : (wLst a n).turn xs.length st = .stop := by
  show (match st[a]? with | some (.lst ys) => (match ys[xs.length]? with | some d => Tn.item d | none => Tn.stop) | _ => Tn.stuck) = _
  rw [ha]
  simp only
  rw [List.getElem?_eq_none (Nat.le_refl _)]
theorem wRng_item {lo : Int} {n i : Nat} {st : Sto} (h : i < n) : (wRng lo n).turn i st = .item (.int (lo + i)) := if_pos h
theorem wRng_stop {lo : Int} {n : Nat} {st : Sto} : (wRng lo n).turn n st = .stop := if_neg (Nat.lt_irrefl n)
/-- a comprehension over n turns, the list at the next place -/
theorem mLc_go {mw : MW} {g : MG} {te : ME} {vs : List Nat} {env : Lo} {st st1 : Sto} {w : Wk} (n : Nat) (I : Sto → Prop) (P : Nat → Dt → Sto → Prop) (M : List Nat) (hw : mw env st = .ok w st1) (hf : w.fuel = n + 1) (hM : ∀ i ∈ M, i < st1.length) (hn : n < lim)
    (hI : ∀ st o, I st → I (st.set st1.length o)) (hP : ∀ i y st o, P i y st → P i y (st.set st1.length o)) (hPm : ∀ i y st st', P i y st → Xm M st st' → P i y st') (h0 : I (st1 ++ [.lst []]))
    (hstop : ∀ st, I st → w.turn n st = .stop)
    (hgo : ∀ i st, i < n → I st → st1.length < st.length → ∃ x, w.turn i st = .item x ∧ ∃ env1, g x (wipeE env vs) st = .nx env1 st ∧ ∃ y st2, te env1 st = .ok y st2 ∧ Xm M st st2 ∧ I st2 ∧ P i y st2) :
    ∃ ys st', mLc mw g mYes te vs env st = .ok (.ref st1.length) st' ∧ Xm M st1 st' ∧ I st' ∧ st'[st1.length]? = some (.lst ys) ∧ ys.length = n ∧ ∀ j y, ys[j]? = some y → P j y st' := by
  have hd : st1.length ∉ M := fun z => Nat.lt_irrefl _ (hM _ z)
  obtain ⟨ys, st', h1, h2, h3, h4, h5, h6⟩ := lcL_go (env := wipeE env vs) n I P M hd hn hI hP hPm hstop hgo n 0 (st1 ++ [.lst []]) [] (by omega) h0 (by rw [List.getElem?_append_right (Nat.le_refl _), Nat.sub_self]; rfl) rfl (fun j y h => by simp at h)
  refine ⟨ys, st', ?_, ⟨Nat.le_trans (by rw [List.length_append]; omega) h2.len, fun i hi hm => ?_⟩, h3, h4, h5, h6⟩
  · unfold mLc
    rw [hw, Re.bind_ok, hf]
    exact h1
  · rw [h2.get i (by rw [List.length_append]; omega) (fun z => (List.mem_cons.mp z).elim (fun q => by omega) hm)]
    exact List.getElem?_append_left hi
/-- what a comprehension tells, turn by turn -/
def told (n : Nat) (p : Nat → Bool) (h : Nat → Dt) : List Dt := ((List.range n).filter p).map h
theorem told_yes {n : Nat} {p : Nat → Bool} {h : Nat → Dt} (e : p n = true) : told (n + 1) p h = told n p h ++ [h n] := by
  unfold told
  rw [List.range_succ, List.filter_append, List.map_append, List.filter_cons, if_pos e]
  rfl
theorem told_no {n : Nat} {p : Nat → Bool} {h : Nat → Dt} (e : p n = false) : told (n + 1) p h = told n p h := by
  unfold told
  rw [List.range_succ, List.filter_append, List.map_append, List.filter_cons, if_neg (by rw [e]; decide)]
  exact List.append_nil _
theorem told_len (n : Nat) (p : Nat → Bool) (h : Nat → Dt) : (told n p h).length ≤ n := by
  unfold told
  rw [List.length_map]
  exact Nat.le_trans (List.length_filter_le _ _) (by rw [List.length_range]; exact Nat.le_refl _)
theorem lcL_told {w : Wk} {g : MG} {tt : MT} {te : ME} {env : Lo} {d : Nat} (n : Nat) (I : Sto → Prop) (p : Nat → Bool) (h : Nat → Dt) (hn : n < lim)
    (hI : ∀ st o, I st → I (st.set d o)) (hstop : ∀ st, I st → w.turn n st = .stop)
    (hgo : ∀ i st, i < n → I st → d < st.length → ∃ x, w.turn i st = .item x ∧ ∃ env1, g x env st = .nx env1 st ∧ ∃ st2, tt env1 st = .ok (p i) st2 ∧ Xm [] st st2 ∧ I st2 ∧ (p i = true → ∃ st3, te env1 st2 = .ok (h i) st3 ∧ Xm [] st2 st3 ∧ I st3)) :
    ∀ (m i : Nat) (st : Sto), i + m = n → I st → st[d]? = some (.lst (told i p h)) →
      ∃ st', lcL w g tt te env d (m + 1) i st = .ok (.ref d) st' ∧ Xm [d] st st' ∧ I st' ∧ st'[d]? = some (.lst (told n p h))
  | 0, i, st, e, hi, hacc => by
    have e' : i = n := by omega
    subst e'
    exact ⟨st, by unfold lcL; rw [hstop st hi], Xm.refl, hi, hacc⟩
  | m + 1, i, st, e, hi, hacc => by
    have hdl : d < st.length := (List.getElem?_eq_some_iff.mp hacc).1
    obtain ⟨x, ht, env1, hg, st2, htt, hx2, hI2, hyes⟩ := hgo i st (by omega) hi hdl
    have hacc2 : st2[d]? = some (.lst (told i p h)) := hx2.at hacc (by simp)
    cases hp : p i with
    | false =>
      obtain ⟨st', h1, h2, h3, h4⟩ := lcL_told n I p h hn hI hstop hgo m (i + 1) st2 (by omega) hI2 (by rw [told_no hp]; exact hacc2)
      refine ⟨st', ?_, hx2.pure.trans h2, h3, h4⟩
      rw [← h1]
      conv => lhs; unfold lcL
      rw [ht]
      simp only
      rw [hg]
      simp only
      rw [htt, hp]
      rfl
    | true =>
      obtain ⟨st3, he, hx3, hI3⟩ := hyes hp
      have hacc3 : st3[d]? = some (.lst (told i p h)) := hx3.at hacc2 (by simp)
      have hdl3 : d < st3.length := (List.getElem?_eq_some_iff.mp hacc3).1
      obtain ⟨st', h1, h2, h3, h4⟩ := lcL_told n I p h hn hI hstop hgo m (i + 1) (st3.set d (.lst (told i p h ++ [h i]))) (by omega) (hI _ _ hI3) (by rw [told_yes hp]; exact List.getElem?_set_self hdl3)
      refine ⟨st', ?_, ((hx2.pure.trans hx3.pure).trans (Xm.set List.mem_cons_self)).trans h2, h3, h4⟩
      rw [← h1]
      conv => lhs; unfold lcL
      rw [ht]
      simp only
      rw [hg]
      simp only
      rw [htt, hp]
      simp only [if_true]
      rw [he]
      simp only
      rw [hacc3]
      simp only
      rw [if_pos (Nat.lt_of_le_of_lt (told_len i p h) (by omega))]
theorem mLc_told {mw : MW} {g : MG} {tt : MT} {te : ME} {vs : List Nat} {env : Lo} {st st1 : Sto} {w : Wk} (n : Nat) (I : Sto → Prop) (p : Nat → Bool) (h : Nat → Dt) (hw : mw env st = .ok w st1) (hf : w.fuel = n + 1) (hn : n < lim)
    (hI : ∀ st o, I st → I (st.set st1.length o)) (h0 : I (st1 ++ [.lst []])) (hstop : ∀ st, I st → w.turn n st = .stop)
    (hgo : ∀ i st, i < n → I st → st1.length < st.length → ∃ x, w.turn i st = .item x ∧ ∃ env1, g x (wipeE env vs) st = .nx env1 st ∧ ∃ st2, tt env1 st = .ok (p i) st2 ∧ Xm [] st st2 ∧ I st2 ∧ (p i = true → ∃ st3, te env1 st2 = .ok (h i) st3 ∧ Xm [] st2 st3 ∧ I st3)) :
    ∃ st', mLc mw g tt te vs env st = .ok (.ref st1.length) st' ∧ Xm [] st1 st' ∧ I st' ∧ st'[st1.length]? = some (.lst (told n p h)) := by
  obtain ⟨st', h1, h2, h3, h4⟩ := lcL_told (env := wipeE env vs) n I p h hn hI hstop hgo n 0 (st1 ++ [.lst []]) (by omega) h0 (by rw [List.getElem?_append_right (Nat.le_refl _), Nat.sub_self]; rfl)
  refine ⟨st', ?_, ⟨Nat.le_trans (by rw [List.length_append]; omega) h2.len, fun i hi hm => ?_⟩, h3, h4⟩
  · unfold mLc
    rw [hw, Re.bind_ok, hf]
    exact h1
  · rw [h2.get i (by rw [List.length_append]; omega) (fun z => Nat.ne_of_lt hi (List.mem_singleton.mp z))]
    exact List.getElem?_append_left hi
/-- over a list of known items: map and filter -/
theorem told_map {α : Type} (xs : List α) (f : α → Dt) (q : α → Bool) (p : Nat → Bool) (h : Nat → Dt) (hp : ∀ i x, xs[i]? = some x → p i = q x ∧ (q x = true → h i = f x)) : told xs.length p h = (xs.filter q).map f := by
  have gen : ∀ n, n ≤ xs.length → told n p h = ((xs.take n).filter q).map f := by
    intro n
    induction n with
    | zero => intro _; rfl
    | succ n ih =>
      intro hn
      have hx : xs[n]? = some xs[n] := List.getElem?_eq_getElem (by omega)
      obtain ⟨h1, h2⟩ := hp n _ hx
      have ht : xs.take (n + 1) = xs.take n ++ [xs[n]] := by rw [List.take_add_one, hx]; rfl
      rw [ht, List.filter_append, List.map_append, ← ih (by omega)]
      cases hq : q xs[n] with
      | true =>
        rw [told_yes (by rw [h1, hq]), List.filter_cons, if_pos hq, h2 hq]
        rfl
      | false =>
        rw [told_no (by rw [h1, hq]), List.filter_cons, if_neg (by rw [hq]; decide)]
        exact (List.append_nil _).symm
  rw [gen xs.length (Nat.le_refl _), List.take_length]
end LT
set_option Elab.async false
set_option linter.all false
set_option maxRecDepth 100000
namespace LT
open PySem PySem.Spec PyProof.Rows L2
/-! ### plain laws of the words -/
theorem eqB_nil {st : Sto} {g n : Nat} {xs : List Dt} (hg : st[g]? = some (.lst xs)) (hn : st[n]? = some (.lst [])) : eqB (.ref g) (.ref n) st = some xs.isEmpty := by
  unfold eqB
  simp only [lenL, hg, hn, List.length_nil]
  cases xs with
  | nil =>
    simp only [List.length_nil, if_true]
    unfold eqB.eqP
    simp only [toP, hg, hn, List.mapM_nil]
    rfl
  | cons x r => rfl
theorem neD_nil {st : Sto} {g n : Nat} {xs : List Dt} (hg : st[g]? = some (.lst xs)) (hn : st[n]? = some (.lst [])) : neD (.ref g) (.ref n) st = .ok (.bl (!xs.isEmpty)) st := by
  unfold neD
  rw [eqB_nil hg hn]
theorem eqD_nil {st : Sto} {g n : Nat} {xs : List Dt} (hg : st[g]? = some (.lst xs)) (hn : st[n]? = some (.lst [])) : eqD (.ref g) (.ref n) st = .ok (.bl xs.isEmpty) st := by
  unfold eqD
  rw [eqB_nil hg hn]
theorem eqD_int (i j : Int) (st : Sto) : eqD (.int i) (.int j) st = .ok (.bl (decide (i = j))) st := rfl
theorem eqD_str (a b : List Nat) (st : Sto) : eqD (.str a) (.str b) st = .ok (.bl (decide (a = b))) st := rfl
theorem neD_str (a b : List Nat) (st : Sto) : neD (.str a) (.str b) st = .ok (.bl (!decide (a = b))) st := rfl
theorem neD_int (i j : Int) (st : Sto) : neD (.int i) (.int j) st = .ok (.bl (!decide (i = j))) st := rfl
theorem app_last {st : Sto} {o : Ob} : (st ++ [o])[st.length]? = some o := by
  rw [List.getElem?_append_right (Nat.le_refl _), Nat.sub_self]
  rfl
theorem app_old {st g : Sto} {i : Nat} {o : Ob} (h : st[i]? = some o) : (st ++ g)[i]? = some o := by
  rw [List.getElem?_append_left (List.getElem?_eq_some_iff.mp h).1]
  exact h
theorem atI_neg1 {α : Type} (xs : List α) (x : α) : atI (xs ++ [x]) (-1) = some x := by
  unfold atI ixN
  rw [if_neg (by omega), if_pos (by rw [List.length_append, List.length_singleton]; omega)]
  have e : ((-1 : Int) + ((xs ++ [x]).length : Int)).toNat = xs.length := by
    rw [List.length_append, List.length_singleton]
    omega
  show (xs ++ [x])[((-1 : Int) + ((xs ++ [x]).length : Int)).toNat]? = some x
  rw [e, List.getElem?_append_right (Nat.le_refl _), Nat.sub_self]
  rfl
theorem atI_natC {α : Type} {xs : List α} {j : Nat} {x : α} (h : xs[j]? = some x) : atI xs (j : Int) = some x := by
  have hl := (List.getElem?_eq_some_iff.mp h).1
  unfold atI ixN
  rw [if_pos (by omega), if_pos (by omega)]
  simpa using h
theorem dropLast_concat' {α : Type} (xs : List α) (x : α) : (xs ++ [x]).dropLast = xs := List.dropLast_concat
end LT
set_option Elab.async false
set_option linter.all false
set_option maxRecDepth 100000
namespace LT
open PySem PySem.Spec PyProof.Rows L2
theorem seqD_keep {M : List Nat} {st st' : Sto} {d : Dt} {xs : List Dt} (h : seqD d st = some xs) (x : Xm M st st') (hm : ∀ i, d = .ref i → i ∉ M) : seqD d st' = some xs := by
  cases d with
  | ref i =>
    simp only [seqD] at h ⊢
    cases ho : st[i]? with
    | none => rw [ho] at h; cases h
    | some o => rw [ho] at h; rw [x.at ho (hm i rfl)]; exact h
  | _ => exact h
/-- a sequence is walked -/
theorem it_seq {d : Dt} {st : Sto} {xs : List Dt} (h : seqD d st = some xs) : ∃ w, itD d st = .ok w st ∧ w.fuel = xs.length + 1 ∧ (∀ st', seqD d st' = some xs → w.turn xs.length st' = .stop ∧ ∀ i x, xs[i]? = some x → w.turn i st' = .item x) := by
  cases d with
  | tup ys => cases h; exact ⟨wTup xs, rfl, rfl, fun st' _ => ⟨wTup_stop, fun i x hx => wTup_item hx⟩⟩
  | rl ys => cases h; exact ⟨wTup xs, rfl, rfl, fun st' _ => ⟨wTup_stop, fun i x hx => wTup_item hx⟩⟩
  | ref i =>
    simp only [seqD] at h
    split at h
    · rename_i ys ho
      cases h
      refine ⟨wLst i xs.length, by simp only [itD, ho], rfl, fun st' h' => ?_⟩
      simp only [seqD] at h'
      split at h'
      · rename_i zs ho'
        cases h'
        exact ⟨wLst_stop ho', fun j x hx => wLst_item ho' hx⟩
      · cases h'
    · cases h
  | _ => cases h
/-- a comprehension over a sequence, its items told by the walked ones -/
theorem mLc_seq {me : ME} {g : MG} {tt : MT} {te : ME} {vs : List Nat} {env : Lo} {st st1 : Sto} {d : Dt} {xs : List Dt} (he : me env st = .ok d st1) (hs : seqD d st1 = some xs) (hn : xs.length < lim) (p : Dt → Bool) (h : Dt → Dt)
    (hgo : ∀ x ∈ xs, ∀ s, Xm [] st1 s → ∃ env1, g x (wipeE env vs) s = .nx env1 s ∧ ∃ s2, tt env1 s = .ok (p x) s2 ∧ Xm [] s s2 ∧ (p x = true → ∃ s3, te env1 s2 = .ok (h x) s3 ∧ Xm [] s2 s3)) :
    ∃ st', mLc (mIt me) g tt te vs env st = .ok (.ref st1.length) st' ∧ Xm [] st1 st' ∧ st'[st1.length]? = some (.lst ((xs.filter p).map h)) := by
  obtain ⟨w, e1, e2, e3⟩ := it_seq hs
  have hw : mIt me env st = .ok w st1 := by
    unfold mIt
    rw [he]
    exact e1
  have ks : ∀ s, Xm [] st1 s → seqD d s = some xs := fun s x => seqD_keep hs x fun _ _ => by simp
  obtain ⟨st', r1, r2, r3, r4⟩ := mLc_told (g := g) (tt := tt) (te := te) (vs := vs) xs.length (fun s => Xm [] st1 s) (fun i => match xs[i]? with | some x => p x | none => false) (fun i => match xs[i]? with | some x => h x | none => .non)
    hw e2 hn (fun s o hx => hx.setN (Nat.le_refl _)) Xm.app (fun s hx => (e3 s (ks s hx)).1) (fun i s hi hx hd => by
      have hc : xs[i]? = some xs[i] := List.getElem?_eq_getElem hi
      obtain ⟨env1, g1, s2, g2, g3, g4⟩ := hgo xs[i] (List.getElem_mem hi) s hx
      refine ⟨xs[i], (e3 s (ks s hx)).2 i _ hc, env1, g1, s2, ?_, g3, hx.trans g3, fun hp => ?_⟩
      · rw [hc]
        exact g2
      · rw [hc] at hp ⊢
        obtain ⟨s3, g5, g6⟩ := g4 hp
        exact ⟨s3, g5, g6, (hx.trans g3).trans g6⟩)
  rw [told_map xs h p _ _ (fun i x hx => ⟨by rw [hx], fun _ => by rw [hx]⟩)] at r4
  exact ⟨st', r1, r2, r4⟩
theorem inB_seq {s : List Nat} {d : Dt} {st : Sto} {ys : List Dt} (h : seqD d st = some ys) (hf : ys.all flatD = true) : inB (.str s) d st = some (ys.any fun z => eqFl z (.str s)) := by
  have e : inB (.str s) d st = (match seqD d st with | some ys => if flatD (.str s) && ys.all flatD then some (ys.any fun z => eqFl z (.str s)) else none | none => none) := by
    unfold inB
    split
    · cases h
    · rfl
  rw [e, h]
  simp only [flatD, hf, Bool.and_self, if_true]
theorem any_strs (s : List Nat) : ∀ (ys : List (List Nat)), ((ys.map Dt.str).any fun z => eqFl z (.str s)) = decide (s ∈ ys)
  | [] => by simp
  | y :: ys => by
    rw [List.map_cons, List.any_cons, any_strs s ys]
    by_cases h : y = s
    · subst h
      simp [eqFl]
    · have h' : ¬ s = y := fun e => h e.symm
      simp [eqFl, h, h']
theorem flat_strs : ∀ (ys : List (List Nat)), (ys.map Dt.str).all flatD = true
  | [] => rfl
  | y :: ys => by rw [List.map_cons, List.all_cons, flat_strs ys]; rfl
theorem in_strs {s : List Nat} {d : Dt} {st : Sto} {ys : List (List Nat)} (h : seqD d st = some (ys.map Dt.str)) : inB (.str s) d st = some (decide (s ∈ ys)) := by
  rw [inB_seq h (flat_strs ys), any_strs]
theorem bools_map {α : Type} (f : α → Bool) : ∀ xs : List α, boolsD (xs.map fun x => Dt.bl (f x)) = some (xs.map f)
  | [] => rfl
  | x :: xs => by
    have := bools_map f xs
    simp only [List.map_cons, boolsD, this]
    rfl
/-- isinstance where the answer stands -/
theorem isI_ok {q : Tk → Option Bool} {a : ME} {env : Lo} {st st1 : Sto} {x : Dt} {t : Tk} {b : Bool} (ha : a env st = .ok x st1) (ht : tkD x st1 = some t) (hq : q t = some b) : mIsI q a env st = .ok (.bl b) st1 := by
  unfold mIsI
  rw [ha]
  simp only [Re.bind, ht, hq]
theorem Re.bind_exc {α β : Type} {c : Nat} {fs : List (Nat × Dt)} {st : Sto} {g : α → Sto → Re β} : (Re.exc c fs st : Re α).bind g = .exc c fs st := rfl
end LT
set_option Elab.async false
set_option linter.all false
set_option maxRecDepth 100000
namespace LT
open PySem PySem.Spec PyProof.Rows L2
/-! ### the head -/
/-- what the law answers -/
def spLaw (K : PySem.W.Frag) : Sp := fun vs H Q _ => ∃ (a : Addr) (ns : List Int), vs = [.ref a] ∧ SqL K H a (ns.map V.int) ∧ ns.length ≤ 63 ∧ Only H ∧ ∀ H', Q (.bl true) H'
theorem rvs_ints {K : PySem.W.Frag} {H : Hp} {f : List Addr} : ∀ ns : List Int, RVs K H f (ns.map Dt.int) (ns.map V.int)
  | [] => .nil
  | n :: ns => .cons (.int n) (rvs_ints ns)
theorem law_imp {K : PySem.W.Frag} {T : Tb} {F : MF} (h : ∀ ns : List Int, ns.length ≤ 63 → ∃ st', F [.rl (ns.map Dt.int)] [] = .ok (.bl true) st') : ∀ vs H Q E, spLaw K vs H Q E → spF K T 1 F vs H Q E := fun vs H Q E hs => by
  obtain ⟨a, ns, rfl, hS, hl, hO, k⟩ := hs
  obtain ⟨st', e⟩ := h ns hl
  have hF : SqF K H a (ns.map V.int) := by
    rcases hS with (z | z) | z
    · rcases hO a with q | ⟨o, xs, q⟩
      · rw [z] at q; cases q
      · rw [z] at q; cases q
    · exact .inl z
    · exact .inr z
  refine ⟨rfl, [], [.rl (ns.map Dt.int)], [], .cons (.rl hF (rvs_ints ns)) .nil, ⟨rfl, List.nodup_nil, fun i o a hi => by cases hi⟩, ?_⟩
  rw [e]
  exact fun f' H' v hp s rh r => by
    cases r
    exact k _
theorem CX_no (w : World) (P : Program) (H : Hp) (s : Shared) (e : Value) (s' : Shared) (h : L2.CX P w [] H s (fun _ _ _ => False) e s') : False := by
  unfold L2.CX at h
  obtain ⟨_, _, _, _, _, _, _, _, _, _, _, _, h⟩ := h
  exact h
theorem walk_lt {l : PySem.W.OpenLaw} {q : Program} {loose : List Str} {XP : (Str → Option Value) → Heap → Prop} {YP : World → Heap → Prop} {d : DefRec} {K : Params → PySem.W.Frag} {k : Nat} {x : Str} (hn : l.most = some 63) (hdf : d.params.defaults = []) (hr : Room k callerA)
    (hY : ∀ (w : World) (h : Heap), YP w h → (K w.params).In h)
    (hF : ∀ (w : World) (mg : Str → Option Value) (fa : Addr) (h : Heap), (K w.params).In h → h.Ns mainGlobals mg → mg d.name = some (.ref fa) →
      ∃ fd : FuncData, (∀ (s : Shared) (u : Value), BindsTo s fd ⟨[u], []⟩ [(x, u)]) ∧ ∀ base : Heap, (K w.params).In base → base.Ns mainGlobals mg → FnOk l.prog w (K w.params) mg base (L2.CX l.prog w) k fa fd [x] (spLaw (K w.params))) :
    PySem.W.WalkO q loose XP YP l.row.toRowW d [] (fun f vs => PySem.call f vs) :=
  L2.walk_of (CX := fun w => L2.CX l.prog w) (sp := fun w => spLaw (K w.params)) hn (by decide) hdf hr hY hF (fun _ _ a ns hl hO hS => ⟨a, ns, rfl, hS, hl, hO, fun _ => rfl⟩) fun w H s e s2 z => CX_no w _ H s e s2 z
/-! constants -/
def strVs : List Value → Option (List Str)
  | [] => some []
  | .str x _ :: us => (strVs us).map (x :: ·)
  | _ :: _ => none
theorem strVs_ok : ∀ (us : List Value) (ss : List Str), strVs us = some ss → Vals (ss.map V.str) us
  | [], ss, h => by cases h; exact .nil
  | u :: us, ss, h => by
    cases u with
    | str x t =>
      simp only [strVs] at h
      cases hh : strVs us with
      | none => rw [hh] at h; cases h
      | some rs =>
        rw [hh] at h
        cases h
        exact .cons ⟨t, rfl⟩ (strVs_ok us rs hh)
    | _ => cases h
theorem rvs_strs {K : PySem.W.Frag} {H : Hp} {f : List Addr} : ∀ ss : List Str, RVs K H f (ss.map fun x => Dt.str x.cps.toList) (ss.map V.str)
  | [] => .nil
  | s :: ss => .cons (.str s) (rvs_strs ss)
theorem const_strs {K : PySem.W.Frag} {mg : Str → Option Value} {x : Str} {a : Addr} {od : Option Addr} {its : Array Value} {n : Nat} {sl : Array (Option Value)} {ss : List Str} {d : Dt} (hm : mg x = some (.ref a)) (l : K.lookup a = some ⟨.type "tuple", od, .seq its n, sl⟩) (hs : its.size ≤ sizeLine) (hv : strVs its.toList = some ss) (hd : d = .tup (ss.map fun x => Dt.str x.cps.toList)) : ConstOk K mg x d :=
  ⟨⟨.ref a, .ref a, hm, rfl, fun H f => by
    rw [hd]
    exact .tup (.inr ⟨_, its, n, l, rfl, rfl, hs, strVs_ok _ _ hv⟩) (rvs_strs ss)⟩⟩
theorem const_str {K : PySem.W.Frag} {mg : Str → Option Value} {x s : Str} {t : Tok} {d : Dt} (hm : mg x = some (.str s t)) (hd : d = .str s.cps.toList) : ConstOk K mg x d :=
  ⟨⟨_, .str s, hm, ⟨_, rfl⟩, fun H f => by rw [hd]; exact .str s⟩⟩
/-! isinstance and except: what the written part tells -/
theorem kitCls_own {K : PySem.W.Frag} {t C : Addr} (i : PySem.W.isClsIn K C = true) (ty : PySem.W.typeIn K (.ref C) = some (.type "type")) : PySem.W.kitCls K (.ref t) (.ref C) = PySem.W.subIn K (.ref t) (.ref C) := by
  have i' : (PySem.W.clsIn K C).isSome = true := i
  show (if ((PySem.W.clsIn K C).isSome && PySem.W.typeIn K (.ref C) == some (.type "type")) = true then PySem.W.subIn K (.ref t) (.ref C) else none) = _
  rw [i', ty]
  rfl
theorem kit_own {K : PySem.W.Frag} {t C : Addr} {b : Bool} (i : PySem.W.isClsIn K C = true) (ty : PySem.W.typeIn K (.ref C) = some (.type "type")) (s : PySem.W.subIn K (.ref t) (.ref C) = some b) (hb : t = C → b = true) : PySem.W.kitOne K (.ref t) (.ref C) = some b := by
  unfold PySem.W.kitOne
  split
  · rename_i e
    have e' : Value.ref t = Value.ref C := beq_iff_eq.mp e
    cases e'
    rw [hb rfl]
  · rw [kitCls_own i ty]
    exact s
theorem kit_bt {K : PySem.W.Frag} {t : Addr} {T : String} {b : Bool} (hm : PySem.W.kitMeta T = true) (s : PySem.W.subIn K (.ref t) (.type T) = some b) : PySem.W.kitOne K (.ref t) (.type T) = some b := by
  unfold PySem.W.kitOne
  split
  · rename_i e
    have e' : Value.ref t = Value.type T := beq_iff_eq.mp e
    cases e'
  · unfold PySem.W.kitCls
    simp only [hm, if_true]
    exact s
theorem kit_no {K : PySem.W.Frag} {t c : Value} {r : List Value} (h : PySem.W.kitOne K t c = some false) (h2 : PySem.W.kitAny K t r = some false) : PySem.W.kitAny K t (c :: r) = some false := by
  unfold PySem.W.kitAny
  rw [h]
  exact h2
theorem exm_own {K : PySem.W.Frag} {t C : Addr} {b : Bool} (h : PySem.W.subIn K (.ref C) (.type "BaseException") = some true) (i : PySem.W.isClsIn K C = true) (ty : PySem.W.typeIn K (.ref C) = some (.type "type")) (s : PySem.W.subIn K (.ref t) (.ref C) = some b) : PySem.W.exmOne K (.ref t) (.ref C) = some b := by
  unfold PySem.W.exmOne
  rw [h, kitCls_own i ty]
  exact s
theorem kit_bown {K : PySem.W.Frag} {n : String} {C : Addr} {b : Bool} (i : PySem.W.isClsIn K C = true) (ty : PySem.W.typeIn K (.ref C) = some (.type "type")) (s : PySem.W.subIn K (.type n) (.ref C) = some b) : PySem.W.kitOne K (.type n) (.ref C) = some b := by
  have i' : (PySem.W.clsIn K C).isSome = true := i
  unfold PySem.W.kitOne
  split
  · rename_i e
    have e' : Value.type n = Value.ref C := beq_iff_eq.mp e
    cases e'
  · show (if ((PySem.W.clsIn K C).isSome && PySem.W.typeIn K (.ref C) == some (.type "type")) = true then PySem.W.subIn K (.type n) (.ref C) else none) = _
    rw [i', ty]
    exact s
theorem kit_bts {K : PySem.W.Frag} {T : Tb} {C : Addr} (i : PySem.W.isClsIn K C = true) (ty : PySem.W.typeIn K (.ref C) = some (.type "type")) (h1 : PySem.W.subIn K (.type "NoneType") (.ref C) = some false) (h2 : PySem.W.subIn K (.type "bool") (.ref C) = some false) (h3 : PySem.W.subIn K (.type "int") (.ref C) = some false) (h4 : PySem.W.subIn K (.type "str") (.ref C) = some false)
    (h5 : PySem.W.subIn K (.type "tuple") (.ref C) = some false) (h6 : PySem.W.subIn K (.type "list") (.ref C) = some false) (h7 : PySem.W.subIn K (.type "dict") (.ref C) = some false) (t : Tk) (ht : ∀ c, t ≠ .ins c) : PySem.W.kitOne K (tkV T t) (.ref C) = some false := by
  cases t with
  | ins c => exact absurd rfl (ht c)
  | non => exact kit_bown i ty h1
  | bl => exact kit_bown i ty h2
  | int => exact kit_bown i ty h3
  | str => exact kit_bown i ty h4
  | tup => exact kit_bown i ty h5
  | lst => exact kit_bown i ty h6
  | dk => exact kit_bown i ty h7
theorem rv_nil {K : PySem.W.Frag} {H : Hp} {f : List Addr} {a : Addr} {od : Option Addr} {n : Nat} {sl : Array (Option Value)} (l : K.lookup a = some ⟨.type "tuple", od, .seq #[] n, sl⟩) : RV K H f (.tup []) (.ref a) := .tup (.inr ⟨_, #[], n, l, rfl, rfl, by decide, .nil⟩) .nil
theorem mem_of_contains {cs : List Nat} {c : Nat} (h : cs.contains c = true) : c ∈ cs := by
  simpa using h
/-! single classes by number -/
theorem contains_one {c k : Nat} (h : [k].contains c = true) : c = k := by
  simpa using h
end LT
set_option Elab.async false
set_option linter.all false
set_option maxRecDepth 100000
set_option maxHeartbeats 4000000
namespace Law
open PySem PySem.Spec PyProof.Rows L2 LT
def topS (i : Nat) : Stmt := PySem.Challenge.pw_laytwice_k14_tools_refused.main.body.getD i (.Pass ⟨0, 0, 0, 0⟩)
section
variable {P : Program} {w : World} {K : PySem.W.Frag} {mg : Str → Option Value} {base : Heap} {T : Tb}
def c_TESTS : Dt := .tup [.str [98, 114, 111, 107, 101, 110], .str [109, 97, 114, 107, 101, 100], .str [108, 101, 102, 116], .str [97, 104, 101, 97, 100], .str [98, 101, 104, 105, 110, 100], .str [98, 108, 97, 110, 107], .str [108, 111, 110, 103], .str [102, 105, 114, 115, 116], .str [97, 102, 116, 101, 114, 98, 114, 111, 107, 101, 110], .str [97, 102, 116, 101, 114, 98, 101, 104, 105, 110, 100]]
def c_DEEDS : Dt := .tup [.str [98, 114, 101, 97, 107], .str [106, 111, 105, 110], .str [109, 97, 114, 107], .str [117, 110, 109, 97, 114, 107], .str [108, 105, 102, 116], .str [108, 111, 119, 101, 114], .str [115, 112, 97, 99, 101], .str [99, 108, 111, 115, 101]]
def c_NOT : Dt := .str [110, 111, 116, 32]
/-! is_sequence -/
abbrev st_is_sequence : Stmt := topS 10
theorem sc_is_sequence : FnScope ["value"] ["value"] (defScope st_is_sequence) := ⟨rfl, rfl, rfl, by decide +kernel, rfl, by decide +kernel, by decide +kernel⟩
def m_is_sequence : MS := (sRet (mIsI (qB tSeqs [3, 4]) (mVar 0)))
def F_is_sequence : MF := runF 1 m_is_sequence
theorem run_is_sequence (x0 : Dt) (st : Sto) : F_is_sequence [x0] st = outF (m_is_sequence [some x0] st) := runF_out 1 _ [x0] st
theorem ok_is_sequence {f : Addr} {fd : FuncData} (F : Fun K "is_sequence" "is_sequence" st_is_sequence f fd) (b_isinstance : mg "isinstance" = none) (I_seq : IsB K T [.type "list", .type "tuple"] [3, 4]) (b_list : mg "list" = none) (b_tuple : mg "tuple" = none) : FnOk P w K mg base (L2.CX P w) 1 f fd ["value"] (spF K T 1 F_is_sequence) := fn_ok (k := 0) F sc_is_sequence fun cdv A outer s H E hr => (iss_one (is_ret (ie_isB2 kitok_seq I_seq b_isinstance (pe_ty b_list) (pe_ty b_tuple) (ie_var 0))))
/-! is_word -/
abbrev st_is_word : Stmt := topS 11
theorem sc_is_word : FnScope ["value", "some"] ["value", "some"] (defScope st_is_word) := ⟨rfl, rfl, rfl, by decide +kernel, rfl, by decide +kernel, by decide +kernel⟩
def m_is_word : MS := (sRet (mAndV (mIsI (qB tStr [3, 4]) (mVar 0)) (mBin inD (mVar 0) (mVar 1))))
def F_is_word : MF := runF 2 m_is_word
theorem run_is_word (x0 x1 : Dt) (st : Sto) : F_is_word [x0, x1] st = outF (m_is_word [some x0, some x1] st) := runF_out 2 _ [x0, x1] st
theorem ok_is_word {f : Addr} {fd : FuncData} (F : Fun K "is_word" "is_word" st_is_word f fd) (b_isinstance : mg "isinstance" = none) (I_str : IsB K T [.type "str"] [3, 4]) (b_str : mg "str" = none) : FnOk P w K mg base (L2.CX P w) 1 f fd ["value", "some"] (spF K T 2 F_is_word) := fn_ok (k := 0) F sc_is_word fun cdv A outer s H E hr => (iss_one (is_ret (ie_and (ie_isB kitok_str I_str b_isinstance (pe_ty b_str) (ie_var 0)) (ie_one (ie_cmp op_inA snd_in (ie_var 0) (ie_var 1) (by rfl))))))
/-! is_test -/
abbrev st_is_test : Stmt := topS 12
theorem sc_is_test : FnScope ["value"] ["value"] (defScope st_is_test) := ⟨rfl, rfl, rfl, by decide +kernel, rfl, by decide +kernel, by decide +kernel⟩
def m_is_test : MS := (sSeq (sIf (mNot (mB (mIsI (qB tStr [3, 4]) (mVar 0)))) (sRet (mC (.bl false))) sNx) (sRet (mBin inD (mIf (mB (mBin eqD (mSl slD (mVar 0) mNoPart (mPart (mCB lenD (mCons (mC c_NOT) mNil)))) (mC c_NOT))) (mSl slD (mVar 0) (mPart (mCB lenD (mCons (mC c_NOT) mNil))) mNoPart) (mVar 0)) (mC c_TESTS))))
def F_is_test : MF := runF 1 m_is_test
theorem run_is_test (x0 : Dt) (st : Sto) : F_is_test [x0] st = outF (m_is_test [some x0] st) := runF_out 1 _ [x0] st
theorem ok_is_test {f : Addr} {fd : FuncData} (F : Fun K "is_test" "is_test" st_is_test f fd) (b_isinstance : mg "isinstance" = none) (I_str : IsB K T [.type "str"] [3, 4]) (b_str : mg "str" = none) (C_NOT : ConstOk K mg "NOT" c_NOT) (b_len : mg "len" = none) (C_TESTS : ConstOk K mg "TESTS" c_TESTS) : FnOk P w K mg base (L2.CX P w) 1 f fd ["value"] (spF K T 1 F_is_test) := fn_ok (k := 0) F sc_is_test fun cdv A outer s H E hr => (iss_cons (is_if (it_not (it_val (ie_isB kitok_str I_str b_isinstance (pe_ty b_str) (ie_var 0)))) (iss_one (is_ret ie_bl)) iss_nil) (iss_one (is_ret (ie_cmp op_inA snd_in (ie_if (it_cmp (op_eqA hr.units) snd_eq (ie_slice (ie_var 0) io_none (io_some (ie_callB call_lenA snd_len (by rfl) b_len PySem.boot_len (ia_cons (ie_const C_NOT) ia_nil)))) (ie_const C_NOT) (nomark _)) (ie_slice (ie_var 0) (io_some (ie_callB call_lenA snd_len (by rfl) b_len PySem.boot_len (ia_cons (ie_const C_NOT) ia_nil))) io_none) (ie_var 0)) (ie_const C_TESTS) (by rfl)))))
/-! Row.__init__ -/
abbrev st_RowD_initD : Stmt := inClass (topS 14) 0
theorem sc_RowD_initD : FnScope ["self", "tests", "deeds", "test", "deed"] ["self", "tests", "deeds"] (defScope st_RowD_initD) := ⟨rfl, rfl, rfl, by decide +kernel, rfl, by decide +kernel, by decide +kernel⟩
def m_RowD_initD : MS := (sSeq (sIf (mOr (mNot (mB (mCall 1 F_is_sequence (mCons (mVar 1) mNil) []))) (mNot (mB (mCB allD (mCons (mLc (mIt (mVar 1)) (gNm 3) mYes (mCall 1 F_is_test (mCons (mVar 3) mNil) []) [3]) mNil))))) (sRaise 1 0 (mC (.str [116, 101, 115, 116, 115]))) sNx) (sSeq (sIf (mOr (mNot (mB (mCall 1 F_is_sequence (mCons (mVar 2) mNil) []))) (mOr (mB (mBin eqD (mCB lenD (mCons (mVar 2) mNil)) (mC (.int 0)))) (mNot (mB (mCB allD (mCons (mLc (mIt (mVar 2)) (gNm 4) mYes (mCall 2 F_is_word (mCons (mVar 4) (mCons (mC c_DEEDS) mNil)) []) [4]) mNil)))))) (sRaise 1 0 (mC (.str [100, 101, 101, 100, 115]))) sNx) (sSeq (sFldSet [3] 2 (mVar 0) (mCB tupleD (mCons (mVar 1) mNil))) (sFldSet [3] 3 (mVar 0) (mCB tupleD (mCons (mVar 2) mNil))))))
def F_RowD_initD : MF := runF 5 m_RowD_initD
theorem run_RowD_initD (x0 x1 x2 : Dt) (st : Sto) : F_RowD_initD [x0, x1, x2] st = outF (m_RowD_initD [some x0, some x1, some x2, none, none] st) := runF_out 5 _ [x0, x1, x2] st
theorem ok_RowD_initD {dvs : List V} {kws : List (Str × V)} {f : Addr} {fd : FuncData} (F : FunD K "__init__" "Row.__init__" (defArgs st_RowD_initD) (defBody st_RowD_initD) (defScope st_RowD_initD) dvs kws f fd) (D_is_sequence : DefOk P w K mg base T "is_sequence" 1 1 F_is_sequence []) (D_is_test : DefOk P w K mg base T "is_test" 1 1 F_is_test []) (b_all : mg "all" = none) (E_InvalidRow : ErrOk P w K mg base T "InvalidRow" "part" 1 0 1) (b_len : mg "len" = none) (C_DEEDS : ConstOk K mg "DEEDS" c_DEEDS) (D_is_word : DefOk P w K mg base T "is_word" 1 2 F_is_word []) (b_tuple : mg "tuple" = none) (Fl_tests : FldOk K T [3] 2 "tests") (Fl_deeds : FldOk K T [3] 3 "deeds") : FnOk P w K mg base (L2.CX P w) 3 f fd ["self", "tests", "deeds"] (spF K T 3 F_RowD_initD) := fn_okD (k := 2) F sc_RowD_initD fun cdv A outer s H E hr => (iss_cons (is_if (it_w (iw_or (it_not (it_val (ie_callD D_is_sequence (hr.mono (by decide)) (takes_of rfl rfl rfl rfl) (ia_cons (ie_var 1) ia_nil)))) (iw_or1 (it_not (it_val (ie_callB (cr_all rfl) snd_all (by rfl) b_all (by decide +kernel) (ia_cons (ie_lc rfl sc_RowD_initD.nd [3] (own := [("test", 3)]) rfl (gok_name 3) (ii_any (ie_var 1)) (blkOk_by (N := ["self", "tests", "deeds", "test", "deed"]) (sc := defScope st_RowD_initD) (by decide +kernel)) (fun _ _ _ _ _ => pg_name (i := 3) sc_RowD_initD.nd rfl (by first | exact Or.inl rfl | exact Or.inr rfl)) (fun _ _ _ _ _ => its_nil) (fun _ _ _ _ _ => (ie_callD D_is_test (hr.mono (by decide)) takes0 (ia_cons (ie_var 3) ia_nil)))) ia_nil))))))) (iss_one (is_raiseD E_InvalidRow (hr.mono (by decide)) rfl (takes_of rfl rfl rfl rfl) (ie_str (by decide +kernel)))) iss_nil) (iss_cons (is_if (it_w (iw_or (it_not (it_val (ie_callD D_is_sequence (hr.mono (by decide)) (takes_of rfl rfl rfl rfl) (ia_cons (ie_var 2) ia_nil)))) (iw_or (it_cmp (op_eqA hr.units) snd_eq (ie_callB call_lenA snd_len (by rfl) b_len PySem.boot_len (ia_cons (ie_var 2) ia_nil)) ie_int (nomark _)) (iw_or1 (it_not (it_val (ie_callB (cr_all rfl) snd_all (by rfl) b_all (by decide +kernel) (ia_cons (ie_lc rfl sc_RowD_initD.nd [4] (own := [("deed", 4)]) rfl (gok_name 4) (ii_any (ie_var 2)) (blkOk_by (N := ["self", "tests", "deeds", "test", "deed"]) (sc := defScope st_RowD_initD) (by decide +kernel)) (fun _ _ _ _ _ => pg_name (i := 4) sc_RowD_initD.nd rfl (by first | exact Or.inl rfl | exact Or.inr rfl)) (fun _ _ _ _ _ => its_nil) (fun _ _ _ _ _ => (ie_callD D_is_word (hr.mono (by decide)) takes0 (ia_cons (ie_var 4) (ia_cons (ie_const C_DEEDS) ia_nil))))) ia_nil)))))))) (iss_one (is_raiseD E_InvalidRow (hr.mono (by decide)) rfl (takes_of rfl rfl rfl rfl) (ie_str (by decide +kernel)))) iss_nil) (iss_cons (is_fldD Fl_tests (ie_var 0) (ie_callTy call_tuple_of snd_tuple (by rfl) b_tuple (by decide +kernel) (ia_cons (ie_var 1) ia_nil))) (iss_one (is_fldD Fl_deeds (ie_var 0) (ie_callTy call_tuple_of snd_tuple (by rfl) b_tuple (by decide +kernel) (ia_cons (ie_var 2) ia_nil)))))))
/-! Tool.__init__ -/
abbrev st_ToolD_initD : Stmt := inClass (topS 16) 0
theorem sc_ToolD_initD : FnScope ["self", "rows", "sorts", "row"] ["self", "rows", "sorts"] (defScope st_ToolD_initD) := ⟨rfl, rfl, rfl, by decide +kernel, rfl, by decide +kernel, by decide +kernel⟩
def m_ToolD_initD : MS := (sSeq (sIf (mOr (mNot (mB (mCall 1 F_is_sequence (mCons (mVar 1) mNil) []))) (mNot (mB (mCB allD (mCons (mLc (mIt (mVar 1)) (gNm 3) mYes (mIsI (qO 3 [3, 4]) (mVar 3)) [3]) mNil))))) (sRaise 1 0 (mC (.str [114, 111, 119, 115]))) sNx) (sSeq (sIf (mNot (mB (mIsI (qB tBool [3, 4]) (mVar 2)))) (sRaise 1 0 (mC (.str [115, 111, 114, 116, 115]))) sNx) (sSeq (sFldSet [4] 4 (mVar 0) (mCB tupleD (mCons (mVar 1) mNil))) (sFldSet [4] 5 (mVar 0) (mVar 2)))))
def F_ToolD_initD : MF := runF 4 m_ToolD_initD
theorem run_ToolD_initD (x0 x1 x2 : Dt) (st : Sto) : F_ToolD_initD [x0, x1, x2] st = outF (m_ToolD_initD [some x0, some x1, some x2, none] st) := runF_out 4 _ [x0, x1, x2] st
theorem ok_ToolD_initD {dvs : List V} {kws : List (Str × V)} {f : Addr} {fd : FuncData} (F : FunD K "__init__" "Tool.__init__" (defArgs st_ToolD_initD) (defBody st_ToolD_initD) (defScope st_ToolD_initD) dvs kws f fd) (D_is_sequence : DefOk P w K mg base T "is_sequence" 1 1 F_is_sequence []) (b_isinstance : mg "isinstance" = none) (O_Row : IsO K mg T "Row" 3 [3, 4]) (b_all : mg "all" = none) (E_InvalidRow : ErrOk P w K mg base T "InvalidRow" "part" 1 0 1) (I_bool : IsB K T [.type "bool"] [3, 4]) (b_bool : mg "bool" = none) (b_tuple : mg "tuple" = none) (Fl_rows : FldOk K T [4] 4 "rows") (Fl_sorts : FldOk K T [4] 5 "sorts") : FnOk P w K mg base (L2.CX P w) 3 f fd ["self", "rows", "sorts"] (spF K T 3 F_ToolD_initD) := fn_okD (k := 2) F sc_ToolD_initD fun cdv A outer s H E hr => (iss_cons (is_if (it_w (iw_or (it_not (it_val (ie_callD D_is_sequence (hr.mono (by decide)) (takes_of rfl rfl rfl rfl) (ia_cons (ie_var 1) ia_nil)))) (iw_or1 (it_not (it_val (ie_callB (cr_all rfl) snd_all (by rfl) b_all (by decide +kernel) (ia_cons (ie_lc rfl sc_ToolD_initD.nd [3] (own := [("row", 3)]) rfl (gok_name 3) (ii_any (ie_var 1)) (blkOk_by (N := ["self", "rows", "sorts", "row"]) (sc := defScope st_ToolD_initD) (by decide +kernel)) (fun _ _ _ _ _ => pg_name (i := 3) sc_ToolD_initD.nd rfl (by first | exact Or.inl rfl | exact Or.inr rfl)) (fun _ _ _ _ _ => its_nil) (fun _ _ _ _ _ => (ie_isO O_Row b_isinstance (ie_var 3)))) ia_nil))))))) (iss_one (is_raiseD E_InvalidRow (hr.mono (by decide)) rfl (takes_of rfl rfl rfl rfl) (ie_str (by decide +kernel)))) iss_nil) (iss_cons (is_if (it_not (it_val (ie_isB kitok_bool I_bool b_isinstance (pe_ty b_bool) (ie_var 2)))) (iss_one (is_raiseD E_InvalidRow (hr.mono (by decide)) rfl (takes_of rfl rfl rfl rfl) (ie_str (by decide +kernel)))) iss_nil) (iss_cons (is_fldD Fl_rows (ie_var 0) (ie_callTy call_tuple_of snd_tuple (by rfl) b_tuple (by decide +kernel) (ia_cons (ie_var 1) ia_nil))) (iss_one (is_fldD Fl_sorts (ie_var 0) (ie_var 2))))))
/-! _law_feed -/
abbrev st_law_feed : Stmt := topS 18
theorem sc_law_feed : FnScope ["_law_script", "_law_base", "_law_cells", "_law_mixed_here", "_law_cell"] ["_law_script", "_law_base"] (defScope st_law_feed) := ⟨rfl, rfl, rfl, by decide +kernel, rfl, by decide +kernel, by decide +kernel⟩
def m_law_feed : MS := (sSeq (sSet 2 (mLc (mIt (mSl slD (mVar 0) (mPart (mVar 1)) (mPart (mBin addD (mVar 1) (mC (.int 60)))))) (gNm 4) mYes (mCB absD (mCons (mCB cintD (mCons (mVar 4) mNil)) mNil)) [4])) (sSeq (sSet 3 (mBin addD (mC (.int 40213)) (mBin mulD (mC (.int 19)) (mVar 1)))) (sSeq (sFor (mIt (mVar 2)) (gNm 4) (sSet 3 (mBin modD (mCB cintD (mCons (mBin addD (mBin addD (mCB cintD (mCons (mBin mulD (mVar 3) (mC (.int 48271))) mNil)) (mBin modD (mCB cintD (mCons (mVar 4) mNil)) (mC (.int 2147483587)))) (mC (.int 5))) mNil)) (mC (.int 2147483647))))) (sRet (mDisp (((mC (.str [103, 114, 101, 97, 116])), (mRev (mLc (mIt (mVar 2)) (gNm 4) (mB (mBin geD (mVar 4) (mBin powD (mC (.int 10)) (mC (.int 18))))) (mVar 4) [4]))) :: (((mC (.str [109, 105, 120, 101, 100])), (mVar 3)) :: [])))))))
def F_law_feed : MF := runF 5 m_law_feed
theorem run_law_feed (x0 x1 : Dt) (st : Sto) : F_law_feed [x0, x1] st = outF (m_law_feed [some x0, some x1, none, none, none] st) := runF_out 5 _ [x0, x1] st
theorem ok_law_feed {f : Addr} {fd : FuncData} (F : Fun K "_law_feed" "_law_feed" st_law_feed f fd) (b_int : mg "int" = none) (b_abs : mg "abs" = none) : FnOk P w K mg base (L2.CX P w) 1 f fd ["_law_script", "_law_base"] (spF K T 2 F_law_feed) := fn_ok (k := 0) F sc_law_feed fun cdv A outer s H E hr => (iss_cons (is_setLc 2 rfl sc_law_feed.nd [4] (own := [("_law_cell", 4)]) rfl (gok_name 4) (ii_any (ie_slice (ie_var 0) (io_some (ie_var 1)) (io_some (ie_bin op_addD snd_add (ie_var 1) ie_int)))) (blkOk_by (N := ["_law_script", "_law_base", "_law_cells", "_law_mixed_here", "_law_cell"]) (sc := defScope st_law_feed) (by decide +kernel)) (fun _ _ _ _ _ => pg_name (i := 4) sc_law_feed.nd rfl (by first | exact Or.inl rfl | exact Or.inr rfl)) (fun _ _ _ _ _ => its_nil) (fun _ _ _ _ _ => (ie_callB call_abs snd_abs (by rfl) b_abs (by decide +kernel) (ia_cons (ie_callTy call_int1 snd_int (by rfl) b_int (by decide +kernel) (ia_cons (ie_var 4) ia_nil)) ia_nil)))) (iss_cons (is_set 3 sc_law_feed.nd (ie_bin op_addD snd_add ie_int (ie_bin op_mulD snd_mul ie_int (ie_var 1)))) (iss_cons (is_for (passes_of rfl) rfl (ii_any (ie_var 2)) (ig_name 4 sc_law_feed.nd) (iss_one (is_set 3 sc_law_feed.nd (ie_bin op_mod snd_mod (ie_callTy call_int1 snd_int (by rfl) b_int (by decide +kernel) (ia_cons (ie_bin op_addD snd_add (ie_bin op_addD snd_add (ie_callTy call_int1 snd_int (by rfl) b_int (by decide +kernel) (ia_cons (ie_bin op_mulD snd_mul (ie_var 3) ie_int) ia_nil)) (ie_bin op_mod snd_mod (ie_callTy call_int1 snd_int (by rfl) b_int (by decide +kernel) (ia_cons (ie_var 4) ia_nil)) ie_int)) ie_int) ia_nil)) ie_int)))) (iss_one (is_ret (ie_disp (ips_cons (ie_str (by decide +kernel)) (ie_rev (ie_lc rfl sc_law_feed.nd [4] (own := [("_law_cell", 4)]) rfl (gok_name 4) (ii_any (ie_var 2)) (blkOk_by (N := ["_law_script", "_law_base", "_law_cells", "_law_mixed_here", "_law_cell"]) (sc := defScope st_law_feed) (by decide +kernel)) (fun _ _ _ _ _ => pg_name (i := 4) sc_law_feed.nd rfl (by first | exact Or.inl rfl | exact Or.inr rfl)) (fun _ _ _ _ _ => its_one (it_cmp op_ge snd_ge (ie_var 4) (ie_bin op_pow snd_pow ie_int ie_int) (nomark _))) (fun _ _ _ _ _ => (ie_var 4)))) (ips_cons (ie_str (by decide +kernel)) (ie_var 3) ips_nil))))))))
/-! _law_take -/
abbrev st_law_take : Stmt := topS 19
theorem sc_law_take : FnScope ["_law_box", "_law_wide", "_law_great", "_law_cell"] ["_law_box", "_law_wide"] (defScope st_law_take) := ⟨rfl, rfl, rfl, by decide +kernel, rfl, by decide +kernel, by decide +kernel⟩
def m_law_take : MS := (sSeq (sSet 2 (mKey (mVar 0) (mC (.str [103, 114, 101, 97, 116])))) (sSeq (sWhile 70 (mAnd (mB (mBin neD (mVar 2) (mLst mNil))) (mB (mBin eqD (mBin ixD (mVar 2) (mUn negD (mC (.int 1)))) (mC (.int 0))))) (sExpr (mBM0 isL popD (mVar 2)))) (sSeq (sIf (mB (mBin neD (mVar 2) (mLst mNil))) (sSeq (sSet 3 (mBM0 isL popD (mVar 2))) (sSeq (sExpr (mBM isL appendD (mVar 2) (mCons (mBin fdivD (mVar 3) (mVar 1)) mNil))) (sRet (mBin modD (mCB cintD (mCons (mVar 3) mNil)) (mVar 1))))) sNx) (sSeq (sKeySet (mVar 0) (mC (.str [109, 105, 120, 101, 100])) (mBin modD (mCB cintD (mCons (mBin addD (mBin mulD (mKey (mVar 0) (mC (.str [109, 105, 120, 101, 100]))) (mC (.int 48271))) (mC (.int 23))) mNil)) (mC (.int 2147483647)))) (sRet (mBin modD (mCB cintD (mCons (mBin fdivD (mKey (mVar 0) (mC (.str [109, 105, 120, 101, 100]))) (mC (.int 32))) mNil)) (mVar 1)))))))
def F_law_take : MF := runF 4 m_law_take
theorem run_law_take (x0 x1 : Dt) (st : Sto) : F_law_take [x0, x1] st = outF (m_law_take [some x0, some x1, none, none] st) := runF_out 4 _ [x0, x1] st
theorem ok_law_take {f : Addr} {fd : FuncData} (F : Fun K "_law_take" "_law_take" st_law_take f fd) (b_int : mg "int" = none) : FnOk P w K mg base (L2.CX P w) 1 f fd ["_law_box", "_law_wide"] (spF K T 2 F_law_take) := fn_ok (k := 0) F sc_law_take fun cdv A outer s H E hr => (iss_cons (is_set 2 sc_law_take.nd (ie_key (hu_of hr) (ie_var 0) (ie_str (by decide +kernel)))) (iss_cons (is_while 70 (passes_of rfl) (it_w (iw_and (it_cmp (op_neA hr.units) snd_ne (ie_var 2) (ie_lst ia_nil) (nomark _)) (iw_and1 (it_cmp (op_eqA hr.units) snd_eq (ie_ix ix_seq snd_ix (ie_var 2) (ie_un un_neg snd_neg ie_int)) ie_int (nomark _))))) (iss_one (is_expr (ie_bm0 PySem.F.plainAttrs_list PySem.F.slot_list_pop PySem.F.type_list_pop mt_pop chk_list snd_pop (ie_var 2))))) (iss_cons (is_if (it_cmp (op_neA hr.units) snd_ne (ie_var 2) (ie_lst ia_nil) (nomark _)) (iss_cons (is_set 3 sc_law_take.nd (ie_bm0 PySem.F.plainAttrs_list PySem.F.slot_list_pop PySem.F.type_list_pop mt_pop chk_list snd_pop (ie_var 2))) (iss_cons (is_expr (ie_bm PySem.F.plainAttrs_list PySem.F.slot_list_append PySem.F.type_list_append mt_append chk_list snd_append (ie_var 2) (ia_cons (ie_bin op_fdiv snd_fdiv (ie_var 3) (ie_var 1)) ia_nil))) (iss_one (is_ret (ie_bin op_mod snd_mod (ie_callTy call_int1 snd_int (by rfl) b_int (by decide +kernel) (ia_cons (ie_var 3) ia_nil)) (ie_var 1)))))) iss_nil) (iss_cons (is_key (hu_of hr) (ie_var 0) (ie_str (by decide +kernel)) (ie_bin op_mod snd_mod (ie_callTy call_int1 snd_int (by rfl) b_int (by decide +kernel) (ia_cons (ie_bin op_addD snd_add (ie_bin op_mulD snd_mul (ie_key (hu_of hr) (ie_var 0) (ie_str (by decide +kernel))) ie_int) ie_int) ia_nil)) ie_int)) (iss_one (is_ret (ie_bin op_mod snd_mod (ie_callTy call_int1 snd_int (by rfl) b_int (by decide +kernel) (ia_cons (ie_bin op_fdiv snd_fdiv (ie_key (hu_of hr) (ie_var 0) (ie_str (by decide +kernel))) ie_int) ia_nil)) (ie_var 1))))))))
/-! _law_pick -/
abbrev st_law_pick : Stmt := topS 20
theorem sc_law_pick : FnScope ["_law_box", "_law_some"] ["_law_box", "_law_some"] (defScope st_law_pick) := ⟨rfl, rfl, rfl, by decide +kernel, rfl, by decide +kernel, by decide +kernel⟩
def m_law_pick : MS := (sRet (mBin ixD (mVar 1) (mCall 2 F_law_take (mCons (mVar 0) (mCons (mCB lenD (mCons (mVar 1) mNil)) mNil)) [])))
def F_law_pick : MF := runF 2 m_law_pick
theorem run_law_pick (x0 x1 : Dt) (st : Sto) : F_law_pick [x0, x1] st = outF (m_law_pick [some x0, some x1] st) := runF_out 2 _ [x0, x1] st
theorem ok_law_pick {f : Addr} {fd : FuncData} (F : Fun K "_law_pick" "_law_pick" st_law_pick f fd) (b_len : mg "len" = none) (D_law_take : DefOk P w K mg base T "_law_take" 1 2 F_law_take []) : FnOk P w K mg base (L2.CX P w) 2 f fd ["_law_box", "_law_some"] (spF K T 2 F_law_pick) := fn_ok (k := 1) F sc_law_pick fun cdv A outer s H E hr => (iss_one (is_ret (ie_ix ix_seq snd_ix (ie_var 1) (ie_callD D_law_take (hr.mono (by decide)) (takes_of rfl rfl rfl rfl) (ia_cons (ie_var 0) (ia_cons (ie_callB call_lenA snd_len (by rfl) b_len PySem.boot_len (ia_cons (ie_var 1) ia_nil)) ia_nil))))))
/-! _law_mixed -/
abbrev st_law_mixed : Stmt := topS 21
theorem sc_law_mixed : FnScope ["_law_box", "_law_some", "_law_left", "_law_found"] ["_law_box", "_law_some"] (defScope st_law_mixed) := ⟨rfl, rfl, rfl, by decide +kernel, rfl, by decide +kernel, by decide +kernel⟩
def m_law_mixed : MS := (sSeq (sPar 2 3 (mCons (mCB listD (mCons (mVar 1) mNil)) (mCons (mLst mNil) mNil))) (sSeq (sWhile 20 (mB (mBin neD (mVar 2) (mLst mNil))) (sExpr (mBM isL appendD (mVar 3) (mCons (mBM isL popAtD (mVar 2) (mCons (mCall 2 F_law_take (mCons (mVar 0) (mCons (mCB lenD (mCons (mVar 2) mNil)) mNil)) []) mNil)) mNil)))) (sRet (mVar 3))))
def F_law_mixed : MF := runF 4 m_law_mixed
theorem run_law_mixed (x0 x1 : Dt) (st : Sto) : F_law_mixed [x0, x1] st = outF (m_law_mixed [some x0, some x1, none, none] st) := runF_out 4 _ [x0, x1] st
theorem ok_law_mixed {f : Addr} {fd : FuncData} (F : Fun K "_law_mixed" "_law_mixed" st_law_mixed f fd) (b_list : mg "list" = none) (b_len : mg "len" = none) (D_law_take : DefOk P w K mg base T "_law_take" 1 2 F_law_take []) : FnOk P w K mg base (L2.CX P w) 2 f fd ["_law_box", "_law_some"] (spF K T 2 F_law_mixed) := fn_ok (k := 1) F sc_law_mixed fun cdv A outer s H E hr => (iss_cons (is_par 2 3 rfl sc_law_mixed.nd (ia_cons (ie_callTy call_list_of snd_list (by rfl) b_list (by decide +kernel) (ia_cons (ie_var 1) ia_nil)) (ia_cons (ie_lst ia_nil) ia_nil))) (iss_cons (is_while 20 (passes_of rfl) (it_cmp (op_neA hr.units) snd_ne (ie_var 2) (ie_lst ia_nil) (nomark _)) (iss_one (is_expr (ie_bm PySem.F.plainAttrs_list PySem.F.slot_list_append PySem.F.type_list_append mt_append chk_list snd_append (ie_var 3) (ia_cons (ie_bm PySem.F.plainAttrs_list PySem.F.slot_list_pop PySem.F.type_list_pop mt_popAt chk_list snd_popAt (ie_var 2) (ia_cons (ie_callD D_law_take (hr.mono (by decide)) (takes_of rfl rfl rfl rfl) (ia_cons (ie_var 0) (ia_cons (ie_callB call_lenA snd_len (by rfl) b_len PySem.boot_len (ia_cons (ie_var 2) ia_nil)) ia_nil))) ia_nil)) ia_nil))))) (iss_one (is_ret (ie_var 3)))))
/-! _law_tests -/
abbrev st_law_tests : Stmt := topS 22
theorem sc_law_tests : FnScope ["_law_box", "_law_most", "_law_every", "_law_found", "_law_turn", "_law_word"] ["_law_box", "_law_most"] (defScope st_law_tests) := ⟨rfl, rfl, rfl, by decide +kernel, rfl, by decide +kernel, by decide +kernel⟩
def m_law_tests : MS := (sSeq (sSet 2 (mLst (mCons (mC (.str [98, 114, 111, 107, 101, 110])) (mCons (mC (.str [109, 97, 114, 107, 101, 100])) (mCons (mC (.str [108, 101, 102, 116])) (mCons (mC (.str [97, 104, 101, 97, 100])) (mCons (mC (.str [98, 101, 104, 105, 110, 100])) (mCons (mC (.str [98, 108, 97, 110, 107])) (mCons (mC (.str [108, 111, 110, 103])) (mCons (mC (.str [108, 111, 110, 103])) (mCons (mC (.str [102, 105, 114, 115, 116])) (mCons (mC (.str [97, 102, 116, 101, 114, 98, 114, 111, 107, 101, 110])) mNil)))))))))))) (sSeq (sSet 3 (mLst mNil)) (sSeq (sFor (mRng (mCons (mCall 2 F_law_take (mCons (mVar 0) (mCons (mBin addD (mVar 1) (mC (.int 1))) mNil)) []) mNil)) (gNm 4) (sSeq (sSet 5 (mCall 2 F_law_pick (mCons (mVar 0) (mCons (mBin addD (mVar 2) (mLst (mCons (mC (.str [97, 102, 116, 101, 114, 98, 101, 104, 105, 110, 100])) mNil))) mNil)) [])) (sExpr (mBM isL appendD (mVar 3) (mCons (mIf (mB (mBin eqD (mCall 2 F_law_take (mCons (mVar 0) (mCons (mC (.int 3)) mNil)) []) (mC (.int 0)))) (mBin addD (mC (.str [110, 111, 116, 32])) (mVar 5)) (mVar 5)) mNil))))) (sRet (mCB tupleD (mCons (mVar 3) mNil))))))
def F_law_tests : MF := runF 6 m_law_tests
theorem run_law_tests (x0 x1 : Dt) (st : Sto) : F_law_tests [x0, x1] st = outF (m_law_tests [some x0, some x1, none, none, none, none] st) := runF_out 6 _ [x0, x1] st
theorem ok_law_tests {f : Addr} {fd : FuncData} (F : Fun K "_law_tests" "_law_tests" st_law_tests f fd) (D_law_take : DefOk P w K mg base T "_law_take" 1 2 F_law_take []) (b_range : mg "range" = none) (D_law_pick : DefOk P w K mg base T "_law_pick" 2 2 F_law_pick []) (b_tuple : mg "tuple" = none) : FnOk P w K mg base (L2.CX P w) 3 f fd ["_law_box", "_law_most"] (spF K T 2 F_law_tests) := fn_ok (k := 2) F sc_law_tests fun cdv A outer s H E hr => (iss_cons (is_set 2 sc_law_tests.nd (ie_lst (ia_cons (ie_str (by decide +kernel)) (ia_cons (ie_str (by decide +kernel)) (ia_cons (ie_str (by decide +kernel)) (ia_cons (ie_str (by decide +kernel)) (ia_cons (ie_str (by decide +kernel)) (ia_cons (ie_str (by decide +kernel)) (ia_cons (ie_str (by decide +kernel)) (ia_cons (ie_str (by decide +kernel)) (ia_cons (ie_str (by decide +kernel)) (ia_cons (ie_str (by decide +kernel)) ia_nil)))))))))))) (iss_cons (is_set 3 sc_law_tests.nd (ie_lst ia_nil)) (iss_cons (is_for (passes_of rfl) rfl (ii_range (by rfl) b_range (ia_cons (ie_callD D_law_take (hr.mono (by decide)) (takes_of rfl rfl rfl rfl) (ia_cons (ie_var 0) (ia_cons (ie_bin op_addD snd_add (ie_var 1) ie_int) ia_nil))) ia_nil)) (ig_name 4 sc_law_tests.nd) (iss_cons (is_set 5 sc_law_tests.nd (ie_callD D_law_pick (hr.mono (by decide)) (takes_of rfl rfl rfl rfl) (ia_cons (ie_var 0) (ia_cons (ie_bin op_addD snd_add (ie_var 2) (ie_lst (ia_cons (ie_str (by decide +kernel)) ia_nil))) ia_nil)))) (iss_one (is_expr (ie_bm PySem.F.plainAttrs_list PySem.F.slot_list_append PySem.F.type_list_append mt_append chk_list snd_append (ie_var 3) (ia_cons (ie_if (it_cmp (op_eqA hr.units) snd_eq (ie_callD D_law_take (hr.mono (by decide)) (takes_of rfl rfl rfl rfl) (ia_cons (ie_var 0) (ia_cons ie_int ia_nil))) ie_int (nomark _)) (ie_bin op_addD snd_add (ie_str (by decide +kernel)) (ie_var 5)) (ie_var 5)) ia_nil)))))) (iss_one (is_ret (ie_callTy call_tuple_of snd_tuple (by rfl) b_tuple (by decide +kernel) (ia_cons (ie_var 3) ia_nil)))))))
/-! _law_deeds -/
abbrev st_law_deeds : Stmt := topS 23
theorem sc_law_deeds : FnScope ["_law_box", "_law_most", "_law_every", "_law_turn"] ["_law_box", "_law_most"] (defScope st_law_deeds) := ⟨rfl, rfl, rfl, by decide +kernel, rfl, by decide +kernel, by decide +kernel⟩
def m_law_deeds : MS := (sSeq (sSet 2 (mLst (mCons (mC (.str [98, 114, 101, 97, 107])) (mCons (mC (.str [106, 111, 105, 110])) (mCons (mC (.str [109, 97, 114, 107])) (mCons (mC (.str [117, 110, 109, 97, 114, 107])) (mCons (mC (.str [108, 105, 102, 116])) (mCons (mC (.str [108, 111, 119, 101, 114])) (mCons (mC (.str [115, 112, 97, 99, 101])) (mCons (mC (.str [99, 108, 111, 115, 101])) mNil)))))))))) (sRet (mCB tupleD (mCons (mLc (mRng (mCons (mBin addD (mC (.int 1)) (mCall 2 F_law_take (mCons (mVar 0) (mCons (mVar 1) mNil)) [])) mNil)) (gNm 3) mYes (mCall 2 F_law_pick (mCons (mVar 0) (mCons (mVar 2) mNil)) []) [3]) mNil))))
def F_law_deeds : MF := runF 4 m_law_deeds
theorem run_law_deeds (x0 x1 : Dt) (st : Sto) : F_law_deeds [x0, x1] st = outF (m_law_deeds [some x0, some x1, none, none] st) := runF_out 4 _ [x0, x1] st
theorem ok_law_deeds {f : Addr} {fd : FuncData} (F : Fun K "_law_deeds" "_law_deeds" st_law_deeds f fd) (D_law_take : DefOk P w K mg base T "_law_take" 1 2 F_law_take []) (b_range : mg "range" = none) (D_law_pick : DefOk P w K mg base T "_law_pick" 2 2 F_law_pick []) (b_tuple : mg "tuple" = none) : FnOk P w K mg base (L2.CX P w) 3 f fd ["_law_box", "_law_most"] (spF K T 2 F_law_deeds) := fn_ok (k := 2) F sc_law_deeds fun cdv A outer s H E hr => (iss_cons (is_set 2 sc_law_deeds.nd (ie_lst (ia_cons (ie_str (by decide +kernel)) (ia_cons (ie_str (by decide +kernel)) (ia_cons (ie_str (by decide +kernel)) (ia_cons (ie_str (by decide +kernel)) (ia_cons (ie_str (by decide +kernel)) (ia_cons (ie_str (by decide +kernel)) (ia_cons (ie_str (by decide +kernel)) (ia_cons (ie_str (by decide +kernel)) ia_nil)))))))))) (iss_one (is_ret (ie_callTy call_tuple_of snd_tuple (by rfl) b_tuple (by decide +kernel) (ia_cons (ie_lc rfl sc_law_deeds.nd [3] (own := [("_law_turn", 3)]) rfl (gok_name 3) (ii_range (by rfl) b_range (ia_cons (ie_bin op_addD snd_add ie_int (ie_callD D_law_take (hr.mono (by decide)) (takes_of rfl rfl rfl rfl) (ia_cons (ie_var 0) (ia_cons (ie_var 1) ia_nil)))) ia_nil)) (blkOk_by (N := ["_law_box", "_law_most", "_law_every", "_law_turn"]) (sc := defScope st_law_deeds) (by decide +kernel)) (fun _ _ _ _ _ => pg_name (i := 3) sc_law_deeds.nd rfl (by first | exact Or.inl rfl | exact Or.inr rfl)) (fun _ _ _ _ _ => its_nil) (fun _ _ _ _ _ => (ie_callD D_law_pick (hr.mono (by decide)) takes0 (ia_cons (ie_var 0) (ia_cons (ie_var 2) ia_nil))))) ia_nil)))))
/-! _law_usual -/
abbrev st_law_usual : Stmt := topS 24
theorem sc_law_usual : FnScope ["_law_box", "_law_some"] ["_law_box"] (defScope st_law_usual) := ⟨rfl, rfl, rfl, by decide +kernel, rfl, by decide +kernel, by decide +kernel⟩
def m_law_usual : MS := (sSeq (sSet 1 (mLst (mCons (mTup (mCons (mTup (mCons (mC (.str [108, 111, 110, 103])) mNil)) (mCons (mTup (mCons (mC (.str [98, 114, 101, 97, 107])) (mCons (mC (.str [109, 97, 114, 107])) mNil))) mNil))) (mCons (mTup (mCons (mTup (mCons (mC (.str [109, 97, 114, 107, 101, 100])) mNil)) (mCons (mTup (mCons (mC (.str [98, 114, 101, 97, 107])) mNil)) mNil))) (mCons (mTup (mCons (mTup (mCons (mC (.str [110, 111, 116, 32, 108, 111, 110, 103])) (mCons (mC (.str [110, 111, 116, 32, 109, 97, 114, 107, 101, 100])) mNil))) (mCons (mTup (mCons (mC (.str [106, 111, 105, 110])) mNil)) mNil))) mNil))))) (sSeq (sSet 1 (mBin addD (mVar 1) (mLst (mCons (mTup (mCons (mTup (mCons (mC (.str [98, 101, 104, 105, 110, 100])) (mCons (mC (.str [108, 111, 110, 103])) mNil))) (mCons (mTup (mCons (mC (.str [108, 105, 102, 116])) mNil)) mNil))) (mCons (mTup (mCons (mTup (mCons (mC (.str [97, 104, 101, 97, 100])) (mCons (mC (.str [110, 111, 116, 32, 108, 111, 110, 103])) mNil))) (mCons (mTup (mCons (mC (.str [108, 111, 119, 101, 114])) mNil)) mNil))) (mCons (mTup (mCons (mTup (mCons (mC (.str [102, 105, 114, 115, 116])) mNil)) (mCons (mTup (mCons (mC (.str [99, 108, 111, 115, 101])) mNil)) mNil))) mNil)))))) (sSeq (sSet 1 (mBin addD (mVar 1) (mLst (mCons (mTup (mCons (mTup (mCons (mC (.str [97, 102, 116, 101, 114, 98, 114, 111, 107, 101, 110])) mNil)) (mCons (mTup (mCons (mC (.str [115, 112, 97, 99, 101])) mNil)) mNil))) (mCons (mTup (mCons (mTup (mCons (mC (.str [98, 114, 111, 107, 101, 110])) mNil)) (mCons (mTup (mCons (mC (.str [109, 97, 114, 107])) mNil)) mNil))) (mCons (mTup (mCons (mTup (mCons (mC (.str [110, 111, 116, 32, 108, 101, 102, 116])) mNil)) (mCons (mTup (mCons (mC (.str [117, 110, 109, 97, 114, 107])) mNil)) mNil))) mNil)))))) (sRet (mSl slD (mCall 2 F_law_mixed (mCons (mVar 0) (mCons (mVar 1) mNil)) []) mNoPart (mPart (mBin addD (mC (.int 1)) (mCall 2 F_law_take (mCons (mVar 0) (mCons (mC (.int 4)) mNil)) []))))))))
def F_law_usual : MF := runF 2 m_law_usual
theorem run_law_usual (x0 : Dt) (st : Sto) : F_law_usual [x0] st = outF (m_law_usual [some x0, none] st) := runF_out 2 _ [x0] st
theorem ok_law_usual {f : Addr} {fd : FuncData} (F : Fun K "_law_usual" "_law_usual" st_law_usual f fd) (D_law_mixed : DefOk P w K mg base T "_law_mixed" 2 2 F_law_mixed []) (D_law_take : DefOk P w K mg base T "_law_take" 1 2 F_law_take []) : FnOk P w K mg base (L2.CX P w) 3 f fd ["_law_box"] (spF K T 1 F_law_usual) := fn_ok (k := 2) F sc_law_usual fun cdv A outer s H E hr => (iss_cons (is_set 1 sc_law_usual.nd (ie_lst (ia_cons (ie_tup (ia_cons (ie_tup (ia_cons (ie_str (by decide +kernel)) ia_nil)) (ia_cons (ie_tup (ia_cons (ie_str (by decide +kernel)) (ia_cons (ie_str (by decide +kernel)) ia_nil))) ia_nil))) (ia_cons (ie_tup (ia_cons (ie_tup (ia_cons (ie_str (by decide +kernel)) ia_nil)) (ia_cons (ie_tup (ia_cons (ie_str (by decide +kernel)) ia_nil)) ia_nil))) (ia_cons (ie_tup (ia_cons (ie_tup (ia_cons (ie_str (by decide +kernel)) (ia_cons (ie_str (by decide +kernel)) ia_nil))) (ia_cons (ie_tup (ia_cons (ie_str (by decide +kernel)) ia_nil)) ia_nil))) ia_nil))))) (iss_cons (is_set 1 sc_law_usual.nd (ie_bin op_addD snd_add (ie_var 1) (ie_lst (ia_cons (ie_tup (ia_cons (ie_tup (ia_cons (ie_str (by decide +kernel)) (ia_cons (ie_str (by decide +kernel)) ia_nil))) (ia_cons (ie_tup (ia_cons (ie_str (by decide +kernel)) ia_nil)) ia_nil))) (ia_cons (ie_tup (ia_cons (ie_tup (ia_cons (ie_str (by decide +kernel)) (ia_cons (ie_str (by decide +kernel)) ia_nil))) (ia_cons (ie_tup (ia_cons (ie_str (by decide +kernel)) ia_nil)) ia_nil))) (ia_cons (ie_tup (ia_cons (ie_tup (ia_cons (ie_str (by decide +kernel)) ia_nil)) (ia_cons (ie_tup (ia_cons (ie_str (by decide +kernel)) ia_nil)) ia_nil))) ia_nil)))))) (iss_cons (is_set 1 sc_law_usual.nd (ie_bin op_addD snd_add (ie_var 1) (ie_lst (ia_cons (ie_tup (ia_cons (ie_tup (ia_cons (ie_str (by decide +kernel)) ia_nil)) (ia_cons (ie_tup (ia_cons (ie_str (by decide +kernel)) ia_nil)) ia_nil))) (ia_cons (ie_tup (ia_cons (ie_tup (ia_cons (ie_str (by decide +kernel)) ia_nil)) (ia_cons (ie_tup (ia_cons (ie_str (by decide +kernel)) ia_nil)) ia_nil))) (ia_cons (ie_tup (ia_cons (ie_tup (ia_cons (ie_str (by decide +kernel)) ia_nil)) (ia_cons (ie_tup (ia_cons (ie_str (by decide +kernel)) ia_nil)) ia_nil))) ia_nil)))))) (iss_one (is_ret (ie_slice (ie_callD D_law_mixed (hr.mono (by decide)) (takes_of rfl rfl rfl rfl) (ia_cons (ie_var 0) (ia_cons (ie_var 1) ia_nil))) io_none (io_some (ie_bin op_addD snd_add ie_int (ie_callD D_law_take (hr.mono (by decide)) (takes_of rfl rfl rfl rfl) (ia_cons (ie_var 0) (ia_cons ie_int ia_nil)))))))))))
/-! _law_tool -/
abbrev st_law_tool : Stmt := topS 25
theorem sc_law_tool : FnScope ["_law_box", "_law_most", "_law_rows", "_law_turn", "_law_at"] ["_law_box", "_law_most"] (defScope st_law_tool) := ⟨rfl, rfl, rfl, by decide +kernel, rfl, by decide +kernel, by decide +kernel⟩
def m_law_tool : MS := (sSeq (sSet 2 (mIf (mB (mBin eqD (mCall 2 F_law_take (mCons (mVar 0) (mCons (mC (.int 2)) mNil)) []) (mC (.int 0)))) (mSl slD (mCall 1 F_law_usual (mCons (mVar 0) mNil) []) mNoPart (mPart (mVar 1))) (mLst mNil))) (sSeq (sFor (mRng (mCons (mCall 2 F_law_take (mCons (mVar 0) (mCons (mBin subD (mBin addD (mVar 1) (mC (.int 1))) (mCB lenD (mCons (mVar 2) mNil))) mNil)) []) mNil)) (gNm 3) (sSeq (sSet 4 (mCall 2 F_law_take (mCons (mVar 0) (mCons (mBin addD (mCB lenD (mCons (mVar 2) mNil)) (mC (.int 1))) mNil)) [])) (sSet 2 (mBin addD (mBin addD (mSl slD (mVar 2) mNoPart (mPart (mVar 4))) (mLst (mCons (mTup (mCons (mCall 2 F_law_tests (mCons (mVar 0) (mCons (mC (.int 3)) mNil)) []) (mCons (mCall 2 F_law_deeds (mCons (mVar 0) (mCons (mC (.int 2)) mNil)) []) mNil))) mNil))) (mSl slD (mVar 2) (mPart (mVar 4)) mNoPart))))) (sRet (mTup (mCons (mCB tupleD (mCons (mVar 2) mNil)) (mCons (mBin eqD (mCall 2 F_law_take (mCons (mVar 0) (mCons (mC (.int 4)) mNil)) []) (mC (.int 0))) mNil))))))
def F_law_tool : MF := runF 5 m_law_tool
theorem run_law_tool (x0 x1 : Dt) (st : Sto) : F_law_tool [x0, x1] st = outF (m_law_tool [some x0, some x1, none, none, none] st) := runF_out 5 _ [x0, x1] st
theorem ok_law_tool {f : Addr} {fd : FuncData} (F : Fun K "_law_tool" "_law_tool" st_law_tool f fd) (D_law_take : DefOk P w K mg base T "_law_take" 1 2 F_law_take []) (D_law_usual : DefOk P w K mg base T "_law_usual" 3 1 F_law_usual []) (b_len : mg "len" = none) (b_range : mg "range" = none) (D_law_deeds : DefOk P w K mg base T "_law_deeds" 3 2 F_law_deeds []) (D_law_tests : DefOk P w K mg base T "_law_tests" 3 2 F_law_tests []) (b_tuple : mg "tuple" = none) : FnOk P w K mg base (L2.CX P w) 4 f fd ["_law_box", "_law_most"] (spF K T 2 F_law_tool) := fn_ok (k := 3) F sc_law_tool fun cdv A outer s H E hr => (iss_cons (is_set 2 sc_law_tool.nd (ie_if (it_cmp (op_eqA hr.units) snd_eq (ie_callD D_law_take (hr.mono (by decide)) (takes_of rfl rfl rfl rfl) (ia_cons (ie_var 0) (ia_cons ie_int ia_nil))) ie_int (nomark _)) (ie_slice (ie_callD D_law_usual (hr.mono (by decide)) (takes_of rfl rfl rfl rfl) (ia_cons (ie_var 0) ia_nil)) io_none (io_some (ie_var 1))) (ie_lst ia_nil))) (iss_cons (is_for (passes_of rfl) rfl (ii_range (by rfl) b_range (ia_cons (ie_callD D_law_take (hr.mono (by decide)) (takes_of rfl rfl rfl rfl) (ia_cons (ie_var 0) (ia_cons (ie_bin op_sub snd_sub (ie_bin op_addD snd_add (ie_var 1) ie_int) (ie_callB call_lenA snd_len (by rfl) b_len PySem.boot_len (ia_cons (ie_var 2) ia_nil))) ia_nil))) ia_nil)) (ig_name 3 sc_law_tool.nd) (iss_cons (is_set 4 sc_law_tool.nd (ie_callD D_law_take (hr.mono (by decide)) (takes_of rfl rfl rfl rfl) (ia_cons (ie_var 0) (ia_cons (ie_bin op_addD snd_add (ie_callB call_lenA snd_len (by rfl) b_len PySem.boot_len (ia_cons (ie_var 2) ia_nil)) ie_int) ia_nil)))) (iss_one (is_set 2 sc_law_tool.nd (ie_bin op_addD snd_add (ie_bin op_addD snd_add (ie_slice (ie_var 2) io_none (io_some (ie_var 4))) (ie_lst (ia_cons (ie_tup (ia_cons (ie_callD D_law_tests (hr.mono (by decide)) (takes_of rfl rfl rfl rfl) (ia_cons (ie_var 0) (ia_cons ie_int ia_nil))) (ia_cons (ie_callD D_law_deeds (hr.mono (by decide)) (takes_of rfl rfl rfl rfl) (ia_cons (ie_var 0) (ia_cons ie_int ia_nil))) ia_nil))) ia_nil))) (ie_slice (ie_var 2) (io_some (ie_var 4)) io_none)))))) (iss_one (is_ret (ie_tup (ia_cons (ie_callTy call_tuple_of snd_tuple (by rfl) b_tuple (by decide +kernel) (ia_cons (ie_var 2) ia_nil)) (ia_cons (ie_cmp (op_eqA hr.units) snd_eq (ie_callD D_law_take (hr.mono (by decide)) (takes_of rfl rfl rfl rfl) (ia_cons (ie_var 0) (ia_cons ie_int ia_nil))) ie_int (nomark _)) ia_nil)))))))
def mc_law_part : Nat → Option Bool := fun c => if c = 1 then some true else none
def isA_law_part : Nat → Bool := fun c => decide (c = 1)
def isB_law_part : Nat → Bool := fun c => false
/-! _law_part -/
abbrev st_law_part : Stmt := topS 26
theorem sc_law_part : FnScope ["_law_rows", "_law_sorts", "_law_found", "e"] ["_law_rows", "_law_sorts"] (defScope st_law_part) := ⟨rfl, rfl, rfl, by decide +kernel, rfl, by decide +kernel, by decide +kernel⟩
def m_law_part : MS := (sSeq (sSet 2 (mC (.str [111, 116, 104, 101, 114]))) (sSeq (sTry (sSet 2 (mIf (mB (mBin eqD (mFld [4] 5 (mMake 4 3 F_ToolD_initD (mCons (mVar 0) (mCons (mVar 1) mNil)) [])) (mVar 1))) (mC (.str [109, 97, 100, 101])) (mC (.str [111, 116, 104, 101, 114])))) (hA mc_law_part isA_law_part isB_law_part 0 [111, 116, 104, 101, 114]) 2 3) (sRet (mVar 2))))
def F_law_part : MF := runF 4 m_law_part
theorem run_law_part (x0 x1 : Dt) (st : Sto) : F_law_part [x0, x1] st = outF (m_law_part [some x0, some x1, none, none] st) := runF_out 4 _ [x0, x1] st
theorem ok_law_part {f : Addr} {fd : FuncData} (F : Fun K "_law_part" "_law_part" st_law_part f fd) (K_Tool : MakeOk P w K mg base T "Tool" 4 3 3 F_ToolD_initD []) (Fl_sorts : FldOk K T [4] 5 "sorts") (b_isinstance : mg "isinstance" = none) (Su_law_part : SuOk K mg T "InvalidRow" "LayError" "InvalidTool" "part" 0 mc_law_part isA_law_part isB_law_part) : FnOk P w K mg base (L2.CX P w) 5 f fd ["_law_rows", "_law_sorts"] (spF K T 2 F_law_part) := fn_ok (k := 4) F sc_law_part fun cdv A outer s H E hr => (iss_cons (is_set 2 sc_law_part.nd (ie_str (by decide +kernel))) (iss_cons (is_tryA Su_law_part 2 3 (by decide) sc_law_part.nd b_isinstance (takes_of rfl rfl rfl rfl) (by decide +kernel) fun W' pn xe tk' => (iss_one (is_set 2 sc_law_part.nd (ie_if (it_cmp (op_eqA hr.units) snd_eq (ie_fldD Fl_sorts (ie_makeD K_Tool (hr.mono (by decide)) tk' (ia_cons (ie_var 0) (ia_cons (ie_var 1) ia_nil)))) (ie_var 1) (nomark _)) (ie_str (by decide +kernel)) (ie_str (by decide +kernel)))))) (iss_one (is_ret (ie_var 2)))))
/-! _law_are_rows -/
abbrev st_law_are_rows : Stmt := topS 27
theorem sc_law_are_rows : FnScope ["_law_value", "_law_one"] ["_law_value"] (defScope st_law_are_rows) := ⟨rfl, rfl, rfl, by decide +kernel, rfl, by decide +kernel, by decide +kernel⟩
def m_law_are_rows : MS := (sRet (mAndV (mIsI (qB tSeqs [3, 4]) (mVar 0)) (mBin eqD (mLc (mIt (mVar 0)) (gNm 1) (mNot (mB (mIsI (qO 3 [3, 4]) (mVar 1)))) (mVar 1) [1]) (mLst mNil))))
def F_law_are_rows : MF := runF 2 m_law_are_rows
theorem run_law_are_rows (x0 : Dt) (st : Sto) : F_law_are_rows [x0] st = outF (m_law_are_rows [some x0, none] st) := runF_out 2 _ [x0] st
theorem ok_law_are_rows {f : Addr} {fd : FuncData} (F : Fun K "_law_are_rows" "_law_are_rows" st_law_are_rows f fd) (b_isinstance : mg "isinstance" = none) (I_seq : IsB K T [.type "list", .type "tuple"] [3, 4]) (b_list : mg "list" = none) (b_tuple : mg "tuple" = none) (O_Row : IsO K mg T "Row" 3 [3, 4]) : FnOk P w K mg base (L2.CX P w) 1 f fd ["_law_value"] (spF K T 1 F_law_are_rows) := fn_ok (k := 0) F sc_law_are_rows fun cdv A outer s H E hr => (iss_one (is_ret (ie_and (ie_isB2 kitok_seq I_seq b_isinstance (pe_ty b_list) (pe_ty b_tuple) (ie_var 0)) (ie_one (ie_cmp (op_eqA hr.units) snd_eq (ie_lc rfl sc_law_are_rows.nd [1] (own := [("_law_one", 1)]) rfl (gok_name 1) (ii_any (ie_var 0)) (blkOk_by (N := ["_law_value", "_law_one"]) (sc := defScope st_law_are_rows) (by decide +kernel)) (fun _ _ _ _ _ => pg_name (i := 1) sc_law_are_rows.nd rfl (by first | exact Or.inl rfl | exact Or.inr rfl)) (fun _ _ _ _ _ => its_one (it_not (it_val (ie_isO O_Row b_isinstance (ie_var 1))))) (fun _ _ _ _ _ => (ie_var 1))) (ie_lst ia_nil) (nomark _))))))
/-! law -/
abbrev st_law : Stmt := topS 28
theorem sc_law : FnScope ["_law_script", "_law_base", "_law_box", "_law_rows", "_law_odd", "_law_turn", "_law_sorts", "_law_some", "_law_at", "_law_value", "_law_due", "_law_tests_here", "_law_deeds_here"] ["_law_script"] (defScope st_law) := ⟨rfl, rfl, rfl, by decide +kernel, rfl, by decide +kernel, by decide +kernel⟩
def m_law : MS := (sSeq (sFor (mRng (mCons (mCB maxD (mCons (mC (.int 1)) (mCons (mCB minD (mCons (mC (.int 3)) (mCons (mCB lenD (mCons (mVar 0) mNil)) mNil))) mNil))) mNil)) (gNm 1) (sSeq (sSet 2 (mCall 2 F_law_feed (mCons (mVar 0) (mCons (mVar 1) mNil)) [])) (sSeq (sSet 3 (mLc (mIt (mBin ixD (mCall 2 F_law_tool (mCons (mVar 2) (mCons (mC (.int 6)) mNil)) []) (mC (.int 0)))) (gTp [11, 12]) mYes (mMake 3 3 F_RowD_initD (mCons (mVar 11) (mCons (mVar 12) mNil)) []) [11, 12])) (sSeq (sSet 4 (mLst (mCons (mC .non) (mCons (mC (.int 0)) (mCons (mC (.bl true)) (mCons (mC (.str [100, 111, 32, 106, 111, 105, 110])) (mCons (mC (.str [])) (mCons (mLst mNil) (mCons (mTup mNil) (mCons (mTup (mCons (mC (.str [108, 111, 110, 103])) mNil)) (mCons (mLst (mCons (mMake 3 3 F_RowD_initD (mCons (mTup mNil) (mCons (mLst (mCons (mC (.str [106, 111, 105, 110])) mNil)) mNil)) []) mNil)) (mCons (mMake 4 3 F_ToolD_initD (mCons (mVar 3) mNil) [.bl false]) (mCons (mBin powD (mC (.int 10)) (mC (.int 20))) (mCons (mLst (mCons (mLst mNil) mNil)) mNil)))))))))))))) (sFor (mRng (mCons (mC (.int 8)) mNil)) (gNm 5) (sSeq (sPar 8 9 (mCons (mCall 2 F_law_take (mCons (mVar 2) (mCons (mBin addD (mCB lenD (mCons (mVar 3) mNil)) (mC (.int 1))) mNil)) []) (mCons (mCall 2 F_law_pick (mCons (mVar 2) (mCons (mVar 4) mNil)) []) mNil))) (sSeq (sSet 6 (mCall 2 F_law_pick (mCons (mVar 2) (mCons (mLst (mCons (mC (.bl true)) (mCons (mC (.bl false)) (mCons (mC (.bl true)) (mCons (mC (.bl false)) (mCons (mC (.int 0)) (mCons (mC (.int 1)) (mCons (mC .non) (mCons (mC (.str [])) (mCons (mC (.str [115, 111, 114, 116, 115])) (mCons (mTup mNil) (mCons (mLst (mCons (mC (.bl true)) mNil)) (mCons (mMake 4 3 F_ToolD_initD mNil [.tup [], .bl false]) mNil))))))))))))) mNil)) [])) (sFor (mIt (mTup (mCons (mVar 3) (mCons (mCB tupleD (mCons (mVar 3) mNil)) (mCons (mBin addD (mBin addD (mSl slD (mVar 3) mNoPart (mPart (mVar 8))) (mLst (mCons (mVar 9) mNil))) (mSl slD (mVar 3) (mPart (mVar 8)) mNoPart)) (mCons (mVar 9) (mCons (mTup (mCons (mVar 9) mNil)) mNil))))))) (gNm 7) (sSeq (sSet 10 (mIf (mB (mIsI (qB tBool [3, 4]) (mVar 6))) (mC (.str [109, 97, 100, 101])) (mC (.str [115, 111, 114, 116, 115])))) (sSeq (sSet 10 (mIf (mB (mCall 1 F_law_are_rows (mCons (mVar 7) mNil) [])) (mVar 10) (mC (.str [114, 111, 119, 115])))) (sIf (mB (mBin neD (mCall 2 F_law_part (mCons (mVar 7) (mCons (mVar 6) mNil)) []) (mVar 10))) (sRet (mC (.bl false))) sNx))))))))))) (sRet (mAndV (mBin eqD (mCall 2 F_law_part (mCons (mC .non) (mCons (mC .non) mNil)) []) (mC (.str [114, 111, 119, 115]))) (mAndV (mBin eqD (mCall 2 F_law_part (mCons (mLst mNil) (mCons (mC (.int 0)) mNil)) []) (mC (.str [115, 111, 114, 116, 115]))) (mBin eqD (mCall 2 F_law_part (mCons (mTup mNil) (mCons (mC (.bl true)) mNil)) []) (mC (.str [109, 97, 100, 101])))))))
def F_law : MF := runF 13 m_law
theorem run_law (x0 : Dt) (st : Sto) : F_law [x0] st = outF (m_law [some x0, none, none, none, none, none, none, none, none, none, none, none, none] st) := runF_out 13 _ [x0] st
theorem ok_law {f : Addr} {fd : FuncData} (F : Fun K "law" "law" st_law f fd) (b_len : mg "len" = none) (b_min : mg "min" = none) (b_max : mg "max" = none) (b_range : mg "range" = none) (D_law_feed : DefOk P w K mg base T "_law_feed" 1 2 F_law_feed []) (D_law_tool : DefOk P w K mg base T "_law_tool" 4 2 F_law_tool []) (K_Row : MakeOk P w K mg base T "Row" 3 3 3 F_RowD_initD []) (K_Tool_1 : MakeOk P w K mg base T "Tool" 4 3 3 F_ToolD_initD [.bl false]) (D_law_pick : DefOk P w K mg base T "_law_pick" 2 2 F_law_pick []) (D_law_take : DefOk P w K mg base T "_law_take" 1 2 F_law_take []) (K_Tool_2 : MakeOk P w K mg base T "Tool" 4 3 3 F_ToolD_initD [.tup [], .bl false]) (b_tuple : mg "tuple" = none) (b_isinstance : mg "isinstance" = none) (I_bool : IsB K T [.type "bool"] [3, 4]) (b_bool : mg "bool" = none) (D_law_are_rows : DefOk P w K mg base T "_law_are_rows" 1 1 F_law_are_rows []) (D_law_part : DefOk P w K mg base T "_law_part" 5 2 F_law_part []) : FnOk P w K mg base (L2.CX P w) 6 f fd ["_law_script"] (spF K T 1 F_law) := fn_ok (k := 5) F sc_law fun cdv A outer s H E hr => (iss_cons (is_for (passes_of rfl) rfl (ii_range (by rfl) b_range (ia_cons (ie_callB (call_max2 rfl) snd_max (by rfl) b_max (by decide +kernel) (ia_cons ie_int (ia_cons (ie_callB (call_min2 rfl) snd_min (by rfl) b_min (by decide +kernel) (ia_cons ie_int (ia_cons (ie_callB call_lenA snd_len (by rfl) b_len PySem.boot_len (ia_cons (ie_var 0) ia_nil)) ia_nil))) ia_nil))) ia_nil)) (ig_name 1 sc_law.nd) (iss_cons (is_set 2 sc_law.nd (ie_callD D_law_feed (hr.mono (by decide)) (takes_of rfl rfl rfl rfl) (ia_cons (ie_var 0) (ia_cons (ie_var 1) ia_nil)))) (iss_cons (is_setLc 3 rfl sc_law.nd [11, 12] (own := [("_law_tests_here", 11), ("_law_deeds_here", 12)]) rfl (gok_tup [11, 12] 2 rfl) (ii_any (ie_ix ix_seq snd_ix (ie_callD D_law_tool (hr.mono (by decide)) (takes_of rfl rfl rfl rfl) (ia_cons (ie_var 2) (ia_cons ie_int ia_nil))) ie_int)) (blkOk_by (N := ["_law_script", "_law_base", "_law_box", "_law_rows", "_law_odd", "_law_turn", "_law_sorts", "_law_some", "_law_at", "_law_value", "_law_due", "_law_tests_here", "_law_deeds_here"]) (sc := defScope st_law) (by decide +kernel)) (fun _ _ _ _ _ => pg_tup rfl (pgs_names sc_law.nd (nts 11 (nts 12 .nil)))) (fun _ _ _ _ _ => its_nil) (fun _ _ _ _ _ => (ie_makeD K_Row (hr.mono (by decide)) takes0 (ia_cons (ie_var 11) (ia_cons (ie_var 12) ia_nil))))) (iss_cons (is_set 4 sc_law.nd (ie_lst (ia_cons ie_non (ia_cons ie_int (ia_cons ie_bl (ia_cons (ie_str (by decide +kernel)) (ia_cons (ie_str (by decide +kernel)) (ia_cons (ie_lst ia_nil) (ia_cons (ie_tup ia_nil) (ia_cons (ie_tup (ia_cons (ie_str (by decide +kernel)) ia_nil)) (ia_cons (ie_lst (ia_cons (ie_makeD K_Row (hr.mono (by decide)) (takes_of rfl rfl rfl rfl) (ia_cons (ie_tup ia_nil) (ia_cons (ie_lst (ia_cons (ie_str (by decide +kernel)) ia_nil)) ia_nil))) ia_nil)) (ia_cons (ie_makeD K_Tool_1 (hr.mono (by decide)) (takes_of rfl rfl rfl rfl) (ia_cons (ie_var 3) ia_nil)) (ia_cons (ie_bin op_pow snd_pow ie_int ie_int) (ia_cons (ie_lst (ia_cons (ie_lst ia_nil) ia_nil)) ia_nil)))))))))))))) (iss_one (is_for (passes_of rfl) rfl (ii_range (by rfl) b_range (ia_cons ie_int ia_nil)) (ig_name 5 sc_law.nd) (iss_cons (is_par 8 9 rfl sc_law.nd (ia_cons (ie_callD D_law_take (hr.mono (by decide)) (takes_of rfl rfl rfl rfl) (ia_cons (ie_var 2) (ia_cons (ie_bin op_addD snd_add (ie_callB call_lenA snd_len (by rfl) b_len PySem.boot_len (ia_cons (ie_var 3) ia_nil)) ie_int) ia_nil))) (ia_cons (ie_callD D_law_pick (hr.mono (by decide)) (takes_of rfl rfl rfl rfl) (ia_cons (ie_var 2) (ia_cons (ie_var 4) ia_nil))) ia_nil))) (iss_cons (is_set 6 sc_law.nd (ie_callD D_law_pick (hr.mono (by decide)) (takes_of rfl rfl rfl rfl) (ia_cons (ie_var 2) (ia_cons (ie_lst (ia_cons ie_bl (ia_cons ie_bl (ia_cons ie_bl (ia_cons ie_bl (ia_cons ie_int (ia_cons ie_int (ia_cons ie_non (ia_cons (ie_str (by decide +kernel)) (ia_cons (ie_str (by decide +kernel)) (ia_cons (ie_tup ia_nil) (ia_cons (ie_lst (ia_cons ie_bl ia_nil)) (ia_cons (ie_makeD0 K_Tool_2 (hr.mono (by decide)) (takes_of rfl rfl rfl rfl)) ia_nil))))))))))))) ia_nil)))) (iss_one (is_for (passes_of rfl) rfl (ii_any (ie_tup (ia_cons (ie_var 3) (ia_cons (ie_callTy call_tuple_of snd_tuple (by rfl) b_tuple (by decide +kernel) (ia_cons (ie_var 3) ia_nil)) (ia_cons (ie_bin op_addD snd_add (ie_bin op_addD snd_add (ie_slice (ie_var 3) io_none (io_some (ie_var 8))) (ie_lst (ia_cons (ie_var 9) ia_nil))) (ie_slice (ie_var 3) (io_some (ie_var 8)) io_none)) (ia_cons (ie_var 9) (ia_cons (ie_tup (ia_cons (ie_var 9) ia_nil)) ia_nil))))))) (ig_name 7 sc_law.nd) (iss_cons (is_set 10 sc_law.nd (ie_if (it_val (ie_isB kitok_bool I_bool b_isinstance (pe_ty b_bool) (ie_var 6))) (ie_str (by decide +kernel)) (ie_str (by decide +kernel)))) (iss_cons (is_set 10 sc_law.nd (ie_if (it_val (ie_callD D_law_are_rows (hr.mono (by decide)) (takes_of rfl rfl rfl rfl) (ia_cons (ie_var 7) ia_nil))) (ie_var 10) (ie_str (by decide +kernel)))) (iss_one (is_if (it_cmp (op_neA hr.units) snd_ne (ie_callD D_law_part (hr.mono (by decide)) (takes_of rfl rfl rfl rfl) (ia_cons (ie_var 7) (ia_cons (ie_var 6) ia_nil))) (ie_var 10) (nomark _)) (iss_one (is_ret ie_bl)) iss_nil)))))))))))))) (iss_one (is_ret (ie_and (ie_cmp (op_eqA hr.units) snd_eq (ie_callD D_law_part (hr.mono (by decide)) (takes_of rfl rfl rfl rfl) (ia_cons ie_non (ia_cons ie_non ia_nil))) (ie_str (by decide +kernel)) (nomark _)) (ie_and (ie_cmp (op_eqA hr.units) snd_eq (ie_callD D_law_part (hr.mono (by decide)) (takes_of rfl rfl rfl rfl) (ia_cons (ie_lst ia_nil) (ia_cons ie_int ia_nil))) (ie_str (by decide +kernel)) (nomark _)) (ie_one (ie_cmp (op_eqA hr.units) snd_eq (ie_callD D_law_part (hr.mono (by decide)) (takes_of rfl rfl rfl rfl) (ia_cons (ie_tup ia_nil) (ia_cons ie_bl ia_nil))) (ie_str (by decide +kernel)) (nomark _))))))))
end
end Law
set_option Elab.async false
set_option linter.all false
set_option maxRecDepth 100000
set_option maxHeartbeats 1000000
namespace Law
open PySem PySem.Spec PyProof.Rows L2 LT
local macro_rules | `(tactic| walk_at "lt") => `(tactic| simp only [sSeq, sIf, sRet, sSet, sAsg, gNm, sExpr, mVar, mC, mBin, mUn, mCons, mNil, mCB, mB, isB, mAnd, mOr, mNot, mAndV, mOrV, mNotV, mIf, mTup, mLst, mCall, mKey, mBM, mBM0, Re.bind, Re.on, List.set, List.getElem?_cons_zero, List.getElem?_cons_succ, if_true, if_false, Bool.false_eq_true, reduceIte, Bool.not_true, Bool.not_false, List.length_nil, List.length_cons])
/-- the box -/
structure Bx (b g : Nat) (st : Sto) : Prop where
  ne : b ≠ g
  ex : ∃ (m : Int) (ns : List Int), st[b]? = some (.dk [(.str [103, 114, 101, 97, 116], .ref g), (.str [109, 105, 120, 101, 100], .int m)]) ∧ st[g]? = some (.lst (ns.map Dt.int)) ∧ ns.length ≤ 63 ∧ (∀ n ∈ ns, 0 ≤ n) ∧ 0 ≤ m ∧ m < 2147483647
theorem concat_or {α : Type} (l : List α) : l = [] ∨ ∃ r x, l = r ++ [x] := by
  rcases l.eq_nil_or_concat with h | ⟨r, x, h⟩
  · exact .inl h
  · exact .inr ⟨r, x, by rw [h, List.concat_eq_append]⟩
theorem zle_lim : (0 : Nat) ≤ lim := by decide
theorem take_while {b g : Nat} {wd : Dt} {x : Option Dt} : ∀ (fuel : Nat) (ns : List Int) (st : Sto), ns.length < fuel → st[g]? = some (.lst (ns.map Dt.int)) →
    ∃ (ns' : List Int) (st' : Sto), whileL (mAnd (mB (mBin neD (mVar 2) (mLst mNil))) (mB (mBin eqD (mBin ixD (mVar 2) (mUn negD (mC (.int 1)))) (mC (.int 0))))) (sExpr (mBM0 isL popD (mVar 2))) fuel [some (.ref b), some wd, some (.ref g), x] st = .nx [some (.ref b), some wd, some (.ref g), x] st' ∧
      Xm [g] st st' ∧ st'[g]? = some (.lst (ns'.map Dt.int)) ∧ ns'.length ≤ ns.length ∧ (∀ n ∈ ns', n ∈ ns)
  | 0, ns, st, h, _ => by omega
  | fuel + 1, ns, st, h, hg => by
    have hg1 := app_old (g := [Ob.lst []]) hg
    have hl := app_last (st := st) (o := .lst [])
    unfold whileL
    rcases concat_or ns with rfl | ⟨r, n, rfl⟩
    · refine ⟨[], st ++ [Ob.lst []], ?_, Xm.app, hg1, Nat.le_refl _, fun n h => h⟩
      walk_at "lt"
      rw [if_pos zle_lim]
      simp only
      rw [neD_nil hg1 hl]
      rfl
    · rw [List.map_append] at hg hg1
      have hix : ixD (.ref g) (.int (-1)) (st ++ [Ob.lst []]) = .ok (.int n) (st ++ [Ob.lst []]) := by
        simp only [ixD, seqD, hg1]
        rw [show List.map Dt.int [n] = [Dt.int n] from rfl, atI_neg1]
      have hne : (!(List.map Dt.int r ++ List.map Dt.int [n]).isEmpty) = true := by cases r <;> rfl
      by_cases hz : n = 0
      · have hpop : popD (.ref g) [] (st ++ [Ob.lst []]) = .ok (.int n) ((st ++ [Ob.lst []]).set g (.lst (r.map Dt.int))) := by
          simp only [popD, hg1]
          rw [show List.map Dt.int [n] = [Dt.int n] from rfl, List.length_append, List.length_singleton, Nat.add_sub_cancel, List.getElem?_append_right (Nat.le_refl _), Nat.sub_self]
          simp only [List.getElem?_cons_zero, List.dropLast_concat]
        have hg2 : ((st ++ [Ob.lst []]).set g (.lst (r.map Dt.int)))[g]? = some (.lst (r.map Dt.int)) := List.getElem?_set_self (List.getElem?_eq_some_iff.mp hg1).1
        obtain ⟨ns', st', h1, h2, h3, h4, h5⟩ := take_while fuel r _ (by rw [List.length_append, List.length_singleton] at h; omega) hg2
        refine ⟨ns', st', ?_, (Xm.app.trans (Xm.set List.mem_cons_self)).trans h2, h3, by rw [List.length_append]; omega, fun m hm => List.mem_append_left _ (h5 m hm)⟩
        have hL : isL (.ref g) (st ++ [Ob.lst []]) = true := by simp only [isL, lstD, hg1]; rfl
        walk_at "lt"
        rw [if_pos zle_lim]
        simp only
        rw [neD_nil hg1 hl, hne]
        simp only [negD, if_true, hix]
        rw [eqD_int, hz, decide_eq_true rfl]
        simp only [if_true, hL, hpop]
        exact h1
      · refine ⟨r ++ [n], st ++ [Ob.lst []], ?_, Xm.app, by rw [List.map_append]; exact hg1, Nat.le_refl _, fun n h => h⟩
        walk_at "lt"
        rw [if_pos zle_lim]
        simp only
        rw [neD_nil hg1 hl, hne]
        simp only [negD, if_true, hix]
        rw [eqD_int, decide_eq_false hz]
        rfl
theorem take_ok {b g : Nat} {st : Sto} {wide : Int} (h : Bx b g st) (h1 : 0 < wide) (h2 : wide < 1073741824) :
    ∃ (r : Int) (st' : Sto), F_law_take [.ref b, .int wide] st = .ok (.int r) st' ∧ 0 ≤ r ∧ r < wide ∧ Xm [b, g] st st' ∧ Bx b g st' := by
  obtain ⟨ne, m, ns, hb, hg, hl, hp, m0, m1⟩ := h
  rw [run_law_take]
  unfold m_law_take
  have hk : mKey (mVar 0) (mC (.str [103, 114, 101, 97, 116])) [some (.ref b), some (.int wide), none, none] st = .ok (.ref g) st := by
    walk_at "lt"
    rw [hb]
    rfl
  obtain ⟨ns', st1, w1, w2, w3, w4, w5⟩ := take_while (b := b) (g := g) (wd := .int wide) (x := none) 70 ns st (by omega) hg
  have hb1 : st1[b]? = some (.dk [(.str [103, 114, 101, 97, 116], .ref g), (.str [109, 105, 120, 101, 100], .int m)]) := w2.at hb (by simp [ne])
  have hg1 := app_old (g := [Ob.lst []]) w3
  have hbb := app_old (g := [Ob.lst []]) hb1
  have hl1 := app_last (st := st1) (o := .lst [])
  have x01 : Xm [b, g] st (st1 ++ [Ob.lst []]) := (w2.mono (by simp)).trans Xm.app
  rw [sSeq, sSet, sAsg, hk]
  simp only [Re.on, gNm, List.set]
  rw [sSeq, sWhile, w1]
  simp only
  have t1 : mB (mBin neD (mVar 2) (mLst mNil)) [some (.ref b), some (.int wide), some (.ref g), none] st1 = .ok (!(ns'.map Dt.int).isEmpty) (st1 ++ [Ob.lst []]) := by
    walk_at "lt"
    rw [if_pos zle_lim]
    simp only
    rw [neD_nil hg1 hl1]
  rcases concat_or ns' with rfl | ⟨r, n, rfl⟩
  · -- the mixed number
    have t2 : sIf (mB (mBin neD (mVar 2) (mLst mNil))) (sSeq (sSet 3 (mBM0 isL popD (mVar 2))) (sSeq (sExpr (mBM isL appendD (mVar 2) (mCons (mBin fdivD (mVar 3) (mVar 1)) mNil))) (sRet (mBin modD (mCB cintD (mCons (mVar 3) mNil)) (mVar 1))))) sNx [some (.ref b), some (.int wide), some (.ref g), none] st1 = .nx [some (.ref b), some (.int wide), some (.ref g), none] (st1 ++ [Ob.lst []]) := by
      rw [sIf, t1]
      rfl
    rw [sSeq, t2]
    simp only
    have hm2 : (0 : Int) ≤ (m * 48271 + 23) % 2147483647 := Int.emod_nonneg _ (by decide)
    have hm3 : (m * 48271 + 23) % 2147483647 < 2147483647 := Int.emod_lt_of_pos _ (by decide)
    have t3 : sKeySet (mVar 0) (mC (.str [109, 105, 120, 101, 100])) (mBin modD (mCB cintD (mCons (mBin addD (mBin mulD (mKey (mVar 0) (mC (.str [109, 105, 120, 101, 100]))) (mC (.int 48271))) (mC (.int 23))) mNil)) (mC (.int 2147483647))) [some (.ref b), some (.int wide), some (.ref g), none] (st1 ++ [Ob.lst []]) =
        .nx [some (.ref b), some (.int wide), some (.ref g), none] ((st1 ++ [Ob.lst []]).set b (.dk [(.str [103, 114, 101, 97, 116], .ref g), (.str [109, 105, 120, 101, 100], .int ((m * 48271 + 23) % 2147483647))])) := by
      unfold sKeySet
      walk_at "lt"
      rw [hbb]
      simp only [lookD, keyEq]
      rw [if_neg (by decide), if_pos (by decide)]
      simp only [mulD]
      rw [if_pos (by simp [cMul])]
      simp only [addD, cintD, modD, i2c]
      rw [if_pos (by decide)]
      simp only [hbb]
      rw [if_pos (by rfl)]
      rfl
    rw [sSeq, t3]
    simp only
    have hlt : b < (st1 ++ [Ob.lst []]).length := (List.getElem?_eq_some_iff.mp hbb).1
    have hset := List.getElem?_set_self (a := Ob.dk [(.str [103, 114, 101, 97, 116], .ref g), (.str [109, 105, 120, 101, 100], .int ((m * 48271 + 23) % 2147483647))]) hlt
    refine ⟨(m * 48271 + 23) % 2147483647 / 32 % wide, _, ?_, Int.emod_nonneg _ (by omega), Int.emod_lt_of_pos _ h1, x01.trans (Xm.set List.mem_cons_self), ne, _, [], hset, ?_, by simp, by simp, hm2, hm3⟩
    · walk_at "lt"
      rw [hset]
      simp only [lookD, keyEq]
      rw [if_neg (by decide), if_pos (by decide)]
      simp only [fdivD, i2c]
      rw [if_pos (by decide)]
      simp only [cintD, modD, i2c]
      rw [if_pos (by simpa using h1)]
      rfl
    · rw [List.getElem?_set_ne ne]
      exact hg1
  · -- a great cell
    have hg2 := hg1
    rw [List.map_append, show List.map Dt.int [n] = [Dt.int n] from rfl] at hg2
    have hL : isL (.ref g) (st1 ++ [Ob.lst []]) = true := by simp only [isL, lstD, hg1]; rfl
    have hpop : popD (.ref g) [] (st1 ++ [Ob.lst []]) = .ok (.int n) ((st1 ++ [Ob.lst []]).set g (.lst (r.map Dt.int))) := by
      simp only [popD, hg2]
      rw [List.length_append, List.length_singleton, Nat.add_sub_cancel, List.getElem?_append_right (Nat.le_refl _), Nat.sub_self]
      simp only [List.getElem?_cons_zero, List.dropLast_concat]
    have hlt : g < (st1 ++ [Ob.lst []]).length := (List.getElem?_eq_some_iff.mp hg1).1
    have hg3 : ((st1 ++ [Ob.lst []]).set g (.lst (r.map Dt.int)))[g]? = some (.lst (r.map Dt.int)) := List.getElem?_set_self hlt
    have hL3 : isL (.ref g) ((st1 ++ [Ob.lst []]).set g (.lst (r.map Dt.int))) = true := by simp only [isL, lstD, hg3]; rfl
    have hlen : (List.map Dt.int r).length < lim := by
      rw [List.length_map]
      rw [List.length_append, List.length_singleton] at w4
      exact Nat.lt_of_lt_of_le (by omega : r.length < 64) (by decide)
    have happ : appendD (.ref g) [.int (n / wide)] ((st1 ++ [Ob.lst []]).set g (.lst (r.map Dt.int))) = .ok .non (((st1 ++ [Ob.lst []]).set g (.lst (r.map Dt.int))).set g (.lst (r.map Dt.int ++ [.int (n / wide)]))) := by
      simp only [appendD, hg3]
      rw [if_pos hlen]
    have hn0 : 0 ≤ n := hp n (w5 n (List.mem_append_right _ List.mem_cons_self))
    refine ⟨n % wide, ((st1 ++ [Ob.lst []]).set g (.lst (r.map Dt.int))).set g (.lst (r.map Dt.int ++ [.int (n / wide)])), ?_, Int.emod_nonneg _ (by omega), Int.emod_lt_of_pos _ h1, (x01.trans (Xm.set (by simp))).trans (Xm.set (by simp)), ne, m, r ++ [n / wide], ?_, ?_, ?_, ?_, m0, m1⟩
    · rw [sSeq]
      have t2 : sIf (mB (mBin neD (mVar 2) (mLst mNil))) (sSeq (sSet 3 (mBM0 isL popD (mVar 2))) (sSeq (sExpr (mBM isL appendD (mVar 2) (mCons (mBin fdivD (mVar 3) (mVar 1)) mNil))) (sRet (mBin modD (mCB cintD (mCons (mVar 3) mNil)) (mVar 1))))) sNx [some (.ref b), some (.int wide), some (.ref g), none] st1 =
          .rt (.int (n % wide)) (((st1 ++ [Ob.lst []]).set g (.lst (r.map Dt.int))).set g (.lst (r.map Dt.int ++ [.int (n / wide)]))) := by
        rw [sIf, t1, show (!(List.map Dt.int (r ++ [n])).isEmpty) = true by cases r <;> rfl]
        simp only [Re.on, if_true]
        walk_at "lt"
        simp only [hL, if_true, hpop]
        walk_at "lt"
        simp only [hL3, if_true, fdivD, i2c]
        rw [if_pos (by simp [h1, h2])]
        simp only
        rw [happ]
        walk_at "lt"
        simp only [cintD, modD, i2c]
        rw [if_pos (by simpa using h1)]
      rw [t2]
      rfl
    · rw [List.getElem?_set_ne (Ne.symm ne), List.getElem?_set_ne (Ne.symm ne)]
      exact hbb
    · rw [List.getElem?_set_self (by rw [List.length_set]; exact hlt), List.map_append]
      rfl
    · rw [List.length_append, List.length_singleton] at w4 ⊢
      omega
    · intro q hq
      rcases List.mem_append.mp hq with z | z
      · exact hp q (w5 q (List.mem_append_left _ z))
      · have : q = n / wide := by simpa using z
        rw [this]
        exact Int.ediv_nonneg hn0 (by omega)
end Law
set_option Elab.async false
set_option linter.all false
set_option maxRecDepth 100000
set_option maxHeartbeats 1000000
namespace Law
open PySem PySem.Spec PyProof.Rows L2 LT
local macro_rules | `(tactic| walk_at "lt") => `(tactic| simp only [sSeq, sIf, sRet, sSet, sAsg, gNm, sExpr, mVar, mC, mBin, mUn, mCons, mNil, mCB, mB, isB, mAnd, mOr, mNot, mAndV, mOrV, mNotV, mIf, mTup, mLst, mCall, mKey, mBM, mBM0, Re.bind, Re.on, List.set, List.getElem?_cons_zero, List.getElem?_cons_succ, if_true, if_false, Bool.false_eq_true, reduceIte, Bool.not_true, Bool.not_false, List.length_nil, List.length_cons])
theorem cutD_map {α β : Type} (f : α → β) (xs : List α) (lo hi : Option Int) : cutL (xs.map f) lo hi = (cutL xs lo hi).map f := by
  unfold cutL
  rw [List.length_map, List.map_take, List.map_drop]
theorem cutD_len {α : Type} (xs : List α) (lo hi : Option Int) : (cutL xs lo hi).length ≤ xs.length := by
  unfold cutL
  rw [List.length_take, List.length_drop]
  omega
abbrev absI (c : Int) : Int := if c < 0 then -c else c
theorem absI_nn (c : Int) : 0 ≤ absI c := by
  show 0 ≤ (if c < 0 then -c else c)
  split <;> omega
theorem map_map_int (xs : List Int) (f : Int → Int) : (xs.filter fun _ => true).map (fun c => Dt.int (f c)) = (xs.map f).map Dt.int := by
  rw [List.filter_eq_self.mpr (fun _ _ => rfl), List.map_map]
  rfl
theorem small_lim {n : Nat} (h : n ≤ 63) : n < lim := Nat.lt_of_le_of_lt h (by decide)
theorem feed_ok {ns : List Int} {base : Int} {st : Sto} (hn : ns.length ≤ 63) (h0 : 0 ≤ base) (h1 : base ≤ 100) :
    ∃ (b g : Nat) (st' : Sto), F_law_feed [.rl (ns.map Dt.int), .int base] st = .ok (.ref b) st' ∧ Xm [] st st' ∧ Bx b g st' ∧ st.length ≤ b ∧ st.length ≤ g := by
  rw [run_law_feed]
  unfold m_law_feed
  -- the cells
  generalize hcs : cutL ns (some base) (some (base + 60)) = cs
  have hcl : cs.length ≤ 63 := by rw [← hcs]; exact Nat.le_trans (cutD_len _ _ _) hn
  have hw1 : mIt (mSl slD (mVar 0) (mPart (mVar 1)) (mPart (mBin addD (mVar 1) (mC (.int 60))))) [some (.rl (ns.map Dt.int)), some (.int base), none, none, none] st = .ok (wLst st.length cs.length) (st ++ [Ob.lst (cs.map Dt.int)]) := by
    unfold mIt mSl mPart
    walk_at "lt"
    simp only [addD, slD]
    rw [cutD_map, hcs]
    simp only [itD, app_last, List.length_map]
  have hl1 : (st ++ [Ob.lst (cs.map Dt.int)]).length = st.length + 1 := by rw [List.length_append]; rfl
  obtain ⟨s1, e1, x1, i1, l1⟩ := mLc_told (g := gNm 4) (tt := mYes) (te := mCB absD (mCons (mCB cintD (mCons (mVar 4) mNil)) mNil)) (vs := [4]) cs.length (fun s => s[st.length]? = some (Ob.lst (cs.map Dt.int))) (fun _ => true) (fun i => match cs[i]? with | some c => .int (absI c) | none => .non)
    hw1 rfl (small_lim hcl) (fun s o h => by rw [List.getElem?_set_ne (by rw [hl1]; omega)]; exact h) (app_old app_last) (fun s h => by
      have := wLst_stop (n := cs.length) h
      rwa [List.length_map] at this) (fun i s hi h hd => by
      have hc : cs[i]? = some cs[i] := List.getElem?_eq_getElem hi
      refine ⟨.int cs[i], wLst_item h (by rw [List.getElem?_map, hc]; rfl), _, rfl, s, rfl, Xm.refl, h, fun _ => ⟨s, ?_, Xm.refl, h⟩⟩
      rw [hc]
      rfl)
  rw [told_map cs (fun c => Dt.int (absI c)) (fun _ => true) _ _ (fun i x hx => ⟨rfl, fun _ => by rw [hx]⟩), map_map_int] at l1
  generalize has : cs.map absI = as at l1
  have hal : as.length ≤ 63 := by rw [← has, List.length_map]; exact hcl
  have hap : ∀ a ∈ as, 0 ≤ a := by
    intro a ha
    rw [← has] at ha
    obtain ⟨c, _, rfl⟩ := List.mem_map.mp ha
    exact absI_nn c
  generalize hd1 : (st ++ [Ob.lst (cs.map Dt.int)]).length = d1 at e1 l1
  have x01 : Xm [] st s1 := Xm.app.trans x1
  rw [sSeq, sSet, sAsg, e1]
  simp only [Re.on, gNm, List.set]
  have e2 : sSet 3 (mBin addD (mC (.int 40213)) (mBin mulD (mC (.int 19)) (mVar 1))) [some (.rl (ns.map Dt.int)), some (.int base), some (.ref d1), none, none] s1 = .nx [some (.rl (ns.map Dt.int)), some (.int base), some (.ref d1), some (.int (40213 + 19 * base)), none] s1 := by
    walk_at "lt"
    simp only [mulD]
    rw [if_pos (by simp [cMul])]
    rfl
  rw [sSeq, e2]
  simp only
  -- the loop
  have hw2 : mIt (mVar 2) [some (.rl (ns.map Dt.int)), some (.int base), some (.ref d1), some (.int (40213 + 19 * base)), none] s1 = .ok (wLst d1 as.length) s1 := by
    unfold mIt
    walk_at "lt"
    simp only [itD, l1, List.length_map]
  obtain ⟨env', s2, f1, m, x4, rfl, rfl, m0, m1⟩ := forL_go (w := wLst d1 as.length) (g := gNm 4) (body := sSet 3 (mBin modD (mCB cintD (mCons (mBin addD (mBin addD (mCB cintD (mCons (mBin mulD (mVar 3) (mC (.int 48271))) mNil)) (mBin modD (mCB cintD (mCons (mVar 4) mNil)) (mC (.int 2147483587)))) (mC (.int 5))) mNil)) (mC (.int 2147483647)))) as.length
    (fun i env s => ∃ (m : Int) (x4 : Option Dt), env = [some (.rl (ns.map Dt.int)), some (.int base), some (.ref d1), some (.int m), x4] ∧ s = s1 ∧ 0 ≤ m ∧ m < 2147483647)
    (fun env s h => by
      obtain ⟨m, x4, _, rfl, _⟩ := h
      have := wLst_stop (n := as.length) l1
      rwa [List.length_map] at this)
    (fun i env s hi h => by
      obtain ⟨m, x4, rfl, rfl, m0, m1⟩ := h
      have hc : as[i]? = some as[i] := List.getElem?_eq_getElem hi
      refine ⟨.int as[i], wLst_item l1 (by rw [List.getElem?_map, hc]; rfl), _, s, rfl, _, s, .inl ?_, (m * 48271 + as[i] % 2147483587 + 5) % 2147483647, some (.int as[i]), rfl, rfl, Int.emod_nonneg _ (by decide), Int.emod_lt_of_pos _ (by decide)⟩
      simp only [List.set]
      walk_at "lt"
      simp only [mulD]
      rw [if_pos (by simp [cMul])]
      simp only [cintD, modD, i2c]
      rw [if_pos (by decide)]
      simp only [addD]
      rw [if_pos (by decide)])
    as.length 0 _ s1 (by omega) ⟨40213 + 19 * base, none, rfl, rfl, by omega, by omega⟩
  have f2 : sFor (mIt (mVar 2)) (gNm 4) (sSet 3 (mBin modD (mCB cintD (mCons (mBin addD (mBin addD (mCB cintD (mCons (mBin mulD (mVar 3) (mC (.int 48271))) mNil)) (mBin modD (mCB cintD (mCons (mVar 4) mNil)) (mC (.int 2147483587)))) (mC (.int 5))) mNil)) (mC (.int 2147483647)))) [some (.rl (ns.map Dt.int)), some (.int base), some (.ref d1), some (.int (40213 + 19 * base)), none] s2 = .nx [some (.rl (ns.map Dt.int)), some (.int base), some (.ref d1), some (.int m), x4] s2 := by
    rw [sFor, hw2]
    exact f1
  rw [sSeq, f2]
  simp only
  -- the dict
  have hw3 : mIt (mVar 2) [some (.rl (ns.map Dt.int)), some (.int base), some (.ref d1), some (.int m), x4] (s2 ++ [Ob.dk []]) = .ok (wLst d1 as.length) (s2 ++ [Ob.dk []]) := by
    unfold mIt
    walk_at "lt"
    simp only [itD, app_old l1, List.length_map]
  have hl2 : (s2 ++ [Ob.dk []]).length = s2.length + 1 := by rw [List.length_append]; rfl
  have hd2 : d1 < s2.length := (List.getElem?_eq_some_iff.mp l1).1
  obtain ⟨s3, e3, x3, i3, l3⟩ := mLc_told (g := gNm 4) (tt := mB (mBin geD (mVar 4) (mBin powD (mC (.int 10)) (mC (.int 18))))) (te := mVar 4) (vs := [4]) as.length (fun s => s[d1]? = some (Ob.lst (as.map Dt.int)) ∧ s[s2.length]? = some (Ob.dk [])) (fun i => match as[i]? with | some c => decide (1000000000000000000 ≤ c) | none => false) (fun i => match as[i]? with | some c => .int c | none => .non)
    hw3 rfl (small_lim hal) (fun s o h => ⟨by rw [List.getElem?_set_ne (by rw [hl2]; omega)]; exact h.1, by rw [List.getElem?_set_ne (by rw [hl2]; omega)]; exact h.2⟩) ⟨app_old (app_old l1), app_old app_last⟩ (fun s h => by
      have := wLst_stop (n := as.length) h.1
      rwa [List.length_map] at this) (fun i s hi h hd => by
      have hc : as[i]? = some as[i] := List.getElem?_eq_getElem hi
      refine ⟨.int as[i], wLst_item h.1 (by rw [List.getElem?_map, hc]; rfl), _, rfl, s, ?_, Xm.refl, h, fun _ => ⟨s, ?_, Xm.refl, h⟩⟩
      · rw [hc]
        rfl
      · rw [hc]
        rfl)
  rw [told_map as (fun c => Dt.int c) (fun c => decide (1000000000000000000 ≤ c)) _ _ (fun i x hx => ⟨by rw [hx], fun _ => by rw [hx]⟩)] at l3
  rw [hl2] at e3 l3
  generalize hgs : as.filter (fun c => decide (1000000000000000000 ≤ c)) = gs at l3
  have hgl : gs.length ≤ 63 := by rw [← hgs]; exact Nat.le_trans (List.length_filter_le _ _) hal
  have hgp : ∀ a ∈ gs, 0 ≤ a := fun a ha => by
    rw [← hgs] at ha
    exact hap a (List.mem_filter.mp ha).1
  have e4 : mRev (mLc (mIt (mVar 2)) (gNm 4) (mB (mBin geD (mVar 4) (mBin powD (mC (.int 10)) (mC (.int 18))))) (mVar 4) [4]) [some (.rl (ns.map Dt.int)), some (.int base), some (.ref d1), some (.int m), x4] (s2 ++ [Ob.dk []]) = .ok (.ref s3.length) (s3 ++ [Ob.lst (gs.reverse.map Dt.int)]) := by
    unfold mRev
    rw [e3]
    simp only [Re.bind, l3, List.map_reverse]
  have hb3 : (s3 ++ [Ob.lst (gs.reverse.map Dt.int)])[s2.length]? = some (Ob.dk []) := app_old i3.2
  have hlt : s2.length < (s3 ++ [Ob.lst (gs.reverse.map Dt.int)]).length := (List.getElem?_eq_some_iff.mp hb3).1
  have hne : s2.length ≠ s3.length := Nat.ne_of_lt (List.getElem?_eq_some_iff.mp i3.2).1
  refine ⟨s2.length, s3.length, (s3 ++ [Ob.lst (gs.reverse.map Dt.int)]).set s2.length (.dk [(.str [103, 114, 101, 97, 116], .ref s3.length), (.str [109, 105, 120, 101, 100], .int m)]), ?_, ?_, ⟨hne, m, gs.reverse, List.getElem?_set_self hlt, ?_, by rw [List.length_reverse]; exact hgl, fun a ha => hgp a (List.mem_reverse.mp ha), m0, m1⟩, x01.len, Nat.le_trans x01.len (Nat.le_of_lt (List.getElem?_eq_some_iff.mp i3.2).1)⟩
  · unfold sRet mDisp mPairs mPairs mPairs
    simp only [mC, Re.bind, e4, mVar, List.getElem?_cons_zero, List.getElem?_cons_succ, hb3]
    rfl
  · have xa : Xm [] s2 ((s3 ++ [Ob.lst (gs.reverse.map Dt.int)]).set s2.length (.dk [(.str [103, 114, 101, 97, 116], .ref s3.length), (.str [109, 105, 120, 101, 100], .int m)])) := ((Xm.app.trans x3).trans Xm.app).setN (Nat.le_refl _)
    exact x01.trans xa
  · rw [List.getElem?_set_ne hne]
    exact app_last
end Law
set_option Elab.async false
set_option linter.all false
set_option maxRecDepth 100000
set_option maxHeartbeats 1000000
namespace Law
open PySem PySem.Spec PyProof.Rows L2 LT
local macro_rules | `(tactic| walk_at "lt") => `(tactic| simp only [sSeq, sIf, sRet, sSet, sAsg, gNm, sExpr, mVar, mC, mBin, mUn, mCons, mNil, mCB, mB, isB, mAnd, mOr, mNot, mAndV, mOrV, mNotV, mIf, mTup, mLst, mCall, mKey, mBM, mBM0, Re.bind, Re.on, List.set, List.getElem?_cons_zero, List.getElem?_cons_succ, if_true, if_false, Bool.false_eq_true, reduceIte, Bool.not_true, Bool.not_false, List.length_nil, List.length_cons])
theorem Bx.lt {b g : Nat} {st : Sto} (h : Bx b g st) : b < st.length ∧ g < st.length := by
  obtain ⟨_, m, ns, h1, h2, _⟩ := h
  exact ⟨(List.getElem?_eq_some_iff.mp h1).1, (List.getElem?_eq_some_iff.mp h2).1⟩
/-- the box stays where it is not touched -/
theorem Bx.keep {b g : Nat} {st st' : Sto} (h : Bx b g st) (x : Xm [] st st') : Bx b g st' := by
  obtain ⟨ne, m, ns, h1, h2, r⟩ := h
  exact ⟨ne, m, ns, x.at h1 (by simp), x.at h2 (by simp), r⟩
theorem Bx.set {b g d : Nat} {st : Sto} {o : Ob} (h : Bx b g st) (hb : d ≠ b) (hg : d ≠ g) : Bx b g (st.set d o) := by
  obtain ⟨ne, m, ns, h1, h2, r⟩ := h
  exact ⟨ne, m, ns, by rw [List.getElem?_set_ne hb]; exact h1, by rw [List.getElem?_set_ne hg]; exact h2, r⟩
theorem Bx.app {b g : Nat} {st q : Sto} (h : Bx b g st) : Bx b g (st ++ q) := h.keep Xm.app
theorem pick_ok {b g l : Nat} {st : Sto} {xs : List Dt} (h : Bx b g st) (hl : st[l]? = some (.lst xs)) (n1 : l ≠ b) (n2 : l ≠ g) (h0 : 0 < xs.length) (h1 : xs.length < 1073741824) :
    ∃ (d : Dt) (st' : Sto), F_law_pick [.ref b, .ref l] st = .ok d st' ∧ d ∈ xs ∧ Xm [b, g] st st' ∧ Bx b g st' := by
  obtain ⟨r, st', e, r0, r1, x, hb⟩ := take_ok (wide := (xs.length : Int)) h (by omega) (by omega)
  have hr : r.toNat < xs.length := by omega
  have hd : xs[r.toNat]? = some xs[r.toNat] := List.getElem?_eq_getElem hr
  refine ⟨xs[r.toNat], st', ?_, List.getElem_mem hr, x, hb⟩
  rw [run_law_pick]
  unfold m_law_pick
  have hl' : st'[l]? = some (.lst xs) := x.at hl (by simp [n1, n2])
  have hat : atI xs r = some xs[r.toNat] := by
    have := atI_natC hd
    rwa [show ((r.toNat : Nat) : Int) = r by omega] at this
  walk_at "lt"
  simp only [lenD, seqD, hl, List.append_nil]
  rw [if_pos (by rfl), e]
  simp only [ixD, seqD, hl', hat]
  rfl
/-! words -/
def TW : List (List Nat) := [[98, 114, 111, 107, 101, 110], [109, 97, 114, 107, 101, 100], [108, 101, 102, 116], [97, 104, 101, 97, 100], [98, 101, 104, 105, 110, 100], [98, 108, 97, 110, 107], [108, 111, 110, 103], [102, 105, 114, 115, 116], [97, 102, 116, 101, 114, 98, 114, 111, 107, 101, 110], [97, 102, 116, 101, 114, 98, 101, 104, 105, 110, 100]]
def DW : List (List Nat) := [[98, 114, 101, 97, 107], [106, 111, 105, 110], [109, 97, 114, 107], [117, 110, 109, 97, 114, 107], [108, 105, 102, 116], [108, 111, 119, 101, 114], [115, 112, 97, 99, 101], [99, 108, 111, 115, 101]]
def NT : List Nat := [110, 111, 116, 32]
def isTestS (s : List Nat) : Bool := decide (s ∈ TW) || decide (s ∈ TW.map (NT ++ ·))
def isDeedS (s : List Nat) : Bool := decide (s ∈ DW)
theorem tests_ok {b g : Nat} {st : Sto} {most : Int} (h : Bx b g st) (h0 : 0 ≤ most) (h1 : most ≤ 100) :
    ∃ (ts : List (List Nat)) (st' : Sto), F_law_tests [.ref b, .int most] st = .ok (.tup (ts.map Dt.str)) st' ∧ (∀ t ∈ ts, isTestS t = true) ∧ (ts.length : Int) ≤ most ∧ Xm [b, g] st st' ∧ Bx b g st' := by
  rw [run_law_tests]
  unfold m_law_tests
  generalize hE : ([[98, 114, 111, 107, 101, 110], [109, 97, 114, 107, 101, 100], [108, 101, 102, 116], [97, 104, 101, 97, 100], [98, 101, 104, 105, 110, 100], [98, 108, 97, 110, 107], [108, 111, 110, 103], [108, 111, 110, 103], [102, 105, 114, 115, 116], [97, 102, 116, 101, 114, 98, 114, 111, 107, 101, 110]] : List (List Nat)) = ev
  have hev : ∀ t ∈ ev ++ [[97, 102, 116, 101, 114, 98, 101, 104, 105, 110, 100]], t ∈ TW := by rw [← hE]; decide
  have hevl : ev.length = 10 := by rw [← hE]; rfl
  have e1 : sSet 2 (mLst (mCons (mC (.str [98, 114, 111, 107, 101, 110])) (mCons (mC (.str [109, 97, 114, 107, 101, 100])) (mCons (mC (.str [108, 101, 102, 116])) (mCons (mC (.str [97, 104, 101, 97, 100])) (mCons (mC (.str [98, 101, 104, 105, 110, 100])) (mCons (mC (.str [98, 108, 97, 110, 107])) (mCons (mC (.str [108, 111, 110, 103])) (mCons (mC (.str [108, 111, 110, 103])) (mCons (mC (.str [102, 105, 114, 115, 116])) (mCons (mC (.str [97, 102, 116, 101, 114, 98, 114, 111, 107, 101, 110])) mNil))))))))))) [some (.ref b), some (.int most), none, none, none, none] st =
      .nx [some (.ref b), some (.int most), some (.ref st.length), none, none, none] (st ++ [Ob.lst (ev.map Dt.str)]) := by
    rw [← hE]
    rfl
  rw [sSeq, e1]
  simp only
  generalize hs1 : st ++ [Ob.lst (ev.map Dt.str)] = s1
  have hl1 : s1.length = st.length + 1 := by rw [← hs1, List.length_append]; rfl
  have x1 : Xm [] st s1 := by rw [← hs1]; exact Xm.app
  have le : s1[st.length]? = some (Ob.lst (ev.map Dt.str)) := by rw [← hs1]; exact app_last
  have e2 : sSet 3 (mLst mNil) [some (.ref b), some (.int most), some (.ref st.length), none, none, none] s1 = .nx [some (.ref b), some (.int most), some (.ref st.length), some (.ref (st.length + 1)), none, none] (s1 ++ [Ob.lst []]) := by
    rw [← hl1]
    rfl
  rw [sSeq, e2]
  simp only
  have hB2 : Bx b g (s1 ++ [Ob.lst []]) := (h.keep x1).app
  obtain ⟨r, s3, e3, r0, r1, x3, hB3⟩ := take_ok (wide := most + 1) hB2 (by omega) (by omega)
  have hlb := h.lt
  have le2 : (s1 ++ [Ob.lst []])[st.length]? = some (Ob.lst (ev.map Dt.str)) := app_old le
  have lf2 : (s1 ++ [Ob.lst []])[st.length + 1]? = some (Ob.lst []) := by rw [← hl1]; exact app_last
  have le3 := x3.at le2 (by simp; omega)
  have lf3 := x3.at lf2 (by simp; omega)
  have hw : mRng (mCons (mCall 2 F_law_take (mCons (mVar 0) (mCons (mBin addD (mVar 1) (mC (.int 1))) mNil)) []) mNil) [some (.ref b), some (.int most), some (.ref st.length), some (.ref (st.length + 1)), none, none] (s1 ++ [Ob.lst []]) = .ok (wRng 0 r.toNat) s3 := by
    unfold mRng
    walk_at "lt"
    simp only [addD, List.append_nil]
    rw [if_pos (by rfl), e3]
    simp only [rngD]
    rw [if_pos (by omega)]
  obtain ⟨env', s4, f1, ts, w4, w5, rfl, x4, hB4, le4, lf4, tl, tt⟩ := forL_go (w := wRng 0 r.toNat) (g := gNm 4)
    (body := sSeq (sSet 5 (mCall 2 F_law_pick (mCons (mVar 0) (mCons (mBin addD (mVar 2) (mLst (mCons (mC (.str [97, 102, 116, 101, 114, 98, 101, 104, 105, 110, 100])) mNil))) mNil)) [])) (sExpr (mBM isL appendD (mVar 3) (mCons (mIf (mB (mBin eqD (mCall 2 F_law_take (mCons (mVar 0) (mCons (mC (.int 3)) mNil)) []) (mC (.int 0)))) (mBin addD (mC (.str [110, 111, 116, 32])) (mVar 5)) (mVar 5)) mNil))))
    r.toNat
    (fun i env s => ∃ (ts : List (List Nat)) (w4 w5 : Option Dt), env = [some (.ref b), some (.int most), some (.ref st.length), some (.ref (st.length + 1)), w4, w5] ∧ Xm [b, g, st.length + 1] s3 s ∧ Bx b g s ∧ s[st.length]? = some (Ob.lst (ev.map Dt.str)) ∧ s[st.length + 1]? = some (Ob.lst (ts.map Dt.str)) ∧ ts.length = i ∧ ∀ t ∈ ts, isTestS t = true)
    (fun env s _ => wRng_stop)
    (fun i env s hi hJ => by
      obtain ⟨ts, w4, w5, rfl, xs, hB, le, lf, tl, tt⟩ := hJ
      refine ⟨_, wRng_item hi, _, s, rfl, ?_⟩
      simp only [List.set]
      -- the word
      have hsl : st.length + 1 < s.length := (List.getElem?_eq_some_iff.mp lf).1
      have a1 : (s ++ [Ob.lst [.str [97, 102, 116, 101, 114, 98, 101, 104, 105, 110, 100]]])[st.length]? = some (Ob.lst (ev.map Dt.str)) := app_old le
      have q1 : (s ++ [Ob.lst [.str [97, 102, 116, 101, 114, 98, 101, 104, 105, 110, 100]]]).length = s.length + 1 := by rw [List.length_append]; rfl
      generalize hs5 : s ++ [Ob.lst [.str [97, 102, 116, 101, 114, 98, 101, 104, 105, 110, 100]]] = s5 at a1 q1
      have x5 : Xm [] s s5 := by rw [← hs5]; exact Xm.app
      have a2 : s5[s.length]? = some (Ob.lst [.str [97, 102, 116, 101, 114, 98, 101, 104, 105, 110, 100]]) := by rw [← hs5]; exact app_last
      have x6 : Xm [] s (s5 ++ [Ob.lst ((ev ++ [[97, 102, 116, 101, 114, 98, 101, 104, 105, 110, 100]]).map Dt.str)]) := x5.trans Xm.app
      have hlb2 := hB.lt
      obtain ⟨d, s6, e6, d6, y6, hB6⟩ := pick_ok (l := s.length + 1) (xs := (ev ++ [[97, 102, 116, 101, 114, 98, 101, 104, 105, 110, 100]]).map Dt.str) (hB.keep x6) (by rw [← q1]; exact app_last) (by omega) (by omega) (by simp) (by simp [hevl])
      obtain ⟨t, ht, rfl⟩ := List.mem_map.mp d6
      have htw := hev t ht
      have e7 : sSet 5 (mCall 2 F_law_pick (mCons (mVar 0) (mCons (mBin addD (mVar 2) (mLst (mCons (mC (.str [97, 102, 116, 101, 114, 98, 101, 104, 105, 110, 100])) mNil))) mNil)) []) [some (.ref b), some (.int most), some (.ref st.length), some (.ref (st.length + 1)), some (.int (0 + (i : Int))), w5] s =
          .nx [some (.ref b), some (.int most), some (.ref st.length), some (.ref (st.length + 1)), some (.int (0 + (i : Int))), some (.str t)] s6 := by
        walk_at "lt"
        rw [if_pos (by decide)]
        simp only [hs5, addD, a1, a2, List.append_nil]
        rw [if_pos (by simp [hevl]; decide), show List.map Dt.str ev ++ [Dt.str [97, 102, 116, 101, 114, 98, 101, 104, 105, 110, 100]] = (ev ++ [[97, 102, 116, 101, 114, 98, 101, 104, 105, 110, 100]]).map Dt.str by rw [List.map_append]; rfl]
        simp only
        rw [if_pos (by rfl), q1, e6]
      obtain ⟨c, s7, e8, c0, c1, y7, hB7⟩ := take_ok (wide := 3) hB6 (by omega) (by omega)
      have y67 : Xm [b, g] s s7 := (x6.pure.trans y6).trans y7
      have le7 := y67.at le (by simp; omega)
      have lf7 := y67.at lf (by simp; omega)
      have hL : isL (.ref (st.length + 1)) s6 = true := by simp only [isL, lstD, (x6.pure.trans y6 : Xm [b, g] s s6).at lf (by simp; omega)]; rfl
      have tn : ts.length < lim := by rw [tl]; exact Nat.lt_of_lt_of_le (by omega : i < 101) (by decide)
      -- the word as it is, or with not
      have hc : mB (mBin eqD (mCall 2 F_law_take (mCons (mVar 0) (mCons (mC (.int 3)) mNil)) []) (mC (.int 0))) [some (.ref b), some (.int most), some (.ref st.length), some (.ref (st.length + 1)), some (.int (0 + (i : Int))), some (.str t)] s6 = .ok (decide (c = 0)) s7 := by
        walk_at "lt"
        rw [List.append_nil, e8]
        rfl
      have fin : ∃ (u : List Nat), isTestS u = true ∧ mIf (mB (mBin eqD (mCall 2 F_law_take (mCons (mVar 0) (mCons (mC (.int 3)) mNil)) []) (mC (.int 0)))) (mBin addD (mC (.str [110, 111, 116, 32])) (mVar 5)) (mVar 5) [some (.ref b), some (.int most), some (.ref st.length), some (.ref (st.length + 1)), some (.int (0 + (i : Int))), some (.str t)] s6 = .ok (.str u) s7 := by
        by_cases hz : c = 0
        · refine ⟨NT ++ t, ?_, ?_⟩
          · unfold isTestS
            rw [decide_eq_true (List.mem_map.mpr ⟨t, htw, rfl⟩), Bool.or_true]
          · rw [mIf, hc, decide_eq_true hz]
            simp only [Re.bind, if_true, mBin, mC, mVar, List.getElem?_cons_zero, List.getElem?_cons_succ, addD]
            rw [if_pos]
            · rfl
            · have : t.length ≤ 11 := by
                have hh : ∀ t ∈ TW, t.length ≤ 11 := by decide
                exact hh t htw
              exact Nat.le_trans (by simp; omega : _ ≤ 20) (by decide)
        · refine ⟨t, ?_, ?_⟩
          · unfold isTestS
            rw [decide_eq_true htw, Bool.true_or]
          · rw [mIf, hc, decide_eq_false hz]
            rfl
      obtain ⟨u, hu, hm⟩ := fin
      refine ⟨[some (.ref b), some (.int most), some (.ref st.length), some (.ref (st.length + 1)), some (.int (0 + (i : Int))), some (.str t)], s7.set (st.length + 1) (.lst ((ts ++ [u]).map Dt.str)), .inl ?_, ts ++ [u], some (.int (0 + (i : Int))), some (.str t), rfl, ?_, hB7.set (by omega) (by omega), ?_, ?_, ?_, ?_⟩
      · rw [sSeq, e7]
        simp only
        unfold sExpr mBM
        rw [show mVar 3 [some (.ref b), some (.int most), some (.ref st.length), some (.ref (st.length + 1)), some (.int (0 + (i : Int))), some (.str t)] s6 = .ok (.ref (st.length + 1)) s6 from rfl]
        simp only [Re.bind, hL, if_true, mCons, hm, mNil]
        simp only [appendD, lf7, List.length_map]
        rw [if_pos tn, List.map_append]
        rfl
      · exact ((xs.trans (y67.mono (by simp))).trans (Xm.set (by simp)))
      · rw [List.getElem?_set_ne (by omega)]
        exact le7
      · exact List.getElem?_set_self (List.getElem?_eq_some_iff.mp lf7).1
      · rw [List.length_append, tl]
        rfl
      · intro q hq
        rcases List.mem_append.mp hq with z | z
        · exact tt q z
        · rw [List.mem_singleton.mp z]
          exact hu)
    r.toNat 0 _ s3 (by omega) ⟨[], none, none, rfl, Xm.refl, hB3, le3, lf3, rfl, by simp⟩
  refine ⟨ts, s4, ?_, tt, by omega, ?_, hB4⟩
  · have f2 : sFor (mRng (mCons (mCall 2 F_law_take (mCons (mVar 0) (mCons (mBin addD (mVar 1) (mC (.int 1))) mNil)) []) mNil)) (gNm 4) (sSeq (sSet 5 (mCall 2 F_law_pick (mCons (mVar 0) (mCons (mBin addD (mVar 2) (mLst (mCons (mC (.str [97, 102, 116, 101, 114, 98, 101, 104, 105, 110, 100])) mNil))) mNil)) [])) (sExpr (mBM isL appendD (mVar 3) (mCons (mIf (mB (mBin eqD (mCall 2 F_law_take (mCons (mVar 0) (mCons (mC (.int 3)) mNil)) []) (mC (.int 0)))) (mBin addD (mC (.str [110, 111, 116, 32])) (mVar 5)) (mVar 5)) mNil)))) [some (.ref b), some (.int most), some (.ref st.length), some (.ref (st.length + 1)), none, none] (s1 ++ [Ob.lst []]) = .nx [some (.ref b), some (.int most), some (.ref st.length), some (.ref (st.length + 1)), w4, w5] s4 := by
      rw [sFor, hw]
      exact f1
    rw [sSeq, f2]
    walk_at "lt"
    simp only [tupleD, seqD, lf4]
    rfl
  · refine ⟨Nat.le_trans (Nat.le_trans x1.len (by rw [List.length_append]; exact Nat.le_add_right _ _)) (Nat.le_trans x3.len x4.len), fun j hj hm => ?_⟩
    have hm' : j ∉ [b, g, st.length + 1] := by
      intro z
      rcases List.mem_cons.mp z with q | z
      · exact hm (by rw [q]; simp)
      · rcases List.mem_cons.mp z with q | z
        · exact hm (by rw [q]; simp)
        · have := List.mem_singleton.mp z
          omega
    have l3 : (s1 ++ [Ob.lst []]).length = st.length + 2 := by rw [List.length_append, hl1]; rfl
    rw [x4.get j (Nat.lt_of_lt_of_le (by omega) x3.len) hm', x3.get j (by omega) hm, List.getElem?_append_left (by omega), x1.get j hj (by simp)]
end Law
set_option Elab.async false
set_option linter.all false
set_option maxRecDepth 100000
set_option maxHeartbeats 1000000
namespace Law
open PySem PySem.Spec PyProof.Rows L2 LT
local macro_rules | `(tactic| walk_at "lt") => `(tactic| simp only [sSeq, sIf, sRet, sSet, sAsg, gNm, sExpr, mVar, mC, mBin, mUn, mCons, mNil, mCB, mB, isB, mAnd, mOr, mNot, mAndV, mOrV, mNotV, mIf, mTup, mLst, mCall, mKey, mBM, mBM0, Re.bind, Re.on, List.set, List.getElem?_cons_zero, List.getElem?_cons_succ, if_true, if_false, Bool.false_eq_true, reduceIte, Bool.not_true, Bool.not_false, List.length_nil, List.length_cons])
/-! values -/
def Ok0 (M : List Nat) (st : Sto) (x : Dt) : Prop := match x with
  | .ref i => i ∉ M ∧ ∃ o, st[i]? = some o ∧ ∀ c fs, o = .ins c fs → c = 3 ∨ c = 4
  | .str s => s.length ≤ 40
  | .rl _ => False
  | _ => True
theorem Ok0.keep {M : List Nat} {st st' : Sto} {x : Dt} (h : Ok0 M st x) (xm : Xm M st st') : Ok0 M st' x := by
  cases x with
  | ref i => obtain ⟨h1, o, h2, h3⟩ := h; exact ⟨h1, o, xm.at h2 h1, h3⟩
  | _ => exact h
def Ok1 (M : List Nat) (st : Sto) (x : Dt) : Prop := Ok0 M st x ∧ ∀ xs, seqD x st = some xs → xs.length ≤ 20 ∧ ∀ y ∈ xs, Ok0 M st y
theorem Ok0.seq {M : List Nat} {st st' : Sto} {x : Dt} (h : Ok0 M st x) (xm : Xm M st st') : seqD x st' = seqD x st := by
  cases x with
  | ref i => obtain ⟨h1, o, h2, h3⟩ := h; simp only [seqD]; rw [h2, xm.at h2 h1]
  | _ => rfl
theorem Ok1.keep {M : List Nat} {st st' : Sto} {x : Dt} (h : Ok1 M st x) (xm : Xm M st st') : Ok1 M st' x :=
  ⟨h.1.keep xm, fun xs hx => by
    rw [h.1.seq xm] at hx
    exact ⟨(h.2 xs hx).1, fun y hy => ((h.2 xs hx).2 y hy).keep xm⟩⟩
def isS : Dt → Bool
  | .str _ => true
  | _ => false
theorem Ok0.kinds {M : List Nat} {st : Sto} {x : Dt} (h : Ok0 M st x) : ∃ t, tkD x st = some t ∧ qB tStr [3, 4] t = some (isS x) ∧ qB tSeqs [3, 4] t = some (seqD x st).isSome := by
  cases x with
  | ref i =>
    obtain ⟨h1, o, h2, h3⟩ := h
    cases o with
    | lst xs => exact ⟨.lst, by simp only [tkD, h2], rfl, by simp only [seqD, h2]; rfl⟩
    | dk xs => exact ⟨.dk, by simp only [tkD, h2], rfl, by simp only [seqD, h2]; rfl⟩
    | ins c fs =>
      rcases h3 c fs rfl with rfl | rfl
      · exact ⟨.ins 3, by simp only [tkD, h2], rfl, by simp only [seqD, h2]; rfl⟩
      · exact ⟨.ins 4, by simp only [tkD, h2], rfl, by simp only [seqD, h2]; rfl⟩
  | rl _ => exact h.elim
  | _ => exact ⟨_, rfl, rfl, rfl⟩
def pW (p : List Nat → Bool) : Dt → Bool
  | .str s => p s
  | _ => false
theorem is_sequence_ok {M : List Nat} {st : Sto} {x : Dt} (h : Ok0 M st x) : F_is_sequence [x] st = .ok (.bl (seqD x st).isSome) st := by
  obtain ⟨t, h1, _, h3⟩ := h.kinds
  rw [run_is_sequence]
  unfold m_is_sequence
  rw [sRet, isI_ok (a := mVar 0) rfl h1 h3]
  rfl
theorem is_word_ok {M : List Nat} {st : Sto} {x : Dt} (h : Ok0 M st x) : F_is_word [x, c_DEEDS] st = .ok (.bl (pW isDeedS x)) st := by
  obtain ⟨t, h1, h2, _⟩ := h.kinds
  rw [run_is_word]
  unfold m_is_word
  rw [sRet, mAndV, isI_ok (a := mVar 0) rfl h1 h2]
  cases x with
  | str s =>
    simp only [isS, Re.bind, mBin, mVar, List.getElem?_cons_zero, List.getElem?_cons_succ]
    rw [inD, in_strs (ys := DW) rfl]
    rfl
  | _ => rfl
theorem not_split (s : List Nat) : (if s.take 4 = NT then decide (s.drop 4 ∈ TW) else decide (s ∈ TW)) = isTestS s := by
  have k1 : ∀ t ∈ TW, t.take 4 ≠ NT := by decide
  unfold isTestS
  by_cases h : s.take 4 = NT
  · rw [if_pos h, decide_eq_false (fun z => k1 s z h), Bool.false_or]
    have e : s = NT ++ s.drop 4 := by rw [← h, List.take_append_drop]
    by_cases h2 : s.drop 4 ∈ TW
    · rw [decide_eq_true h2, decide_eq_true (List.mem_map.mpr ⟨_, h2, e.symm⟩)]
    · rw [decide_eq_false h2, decide_eq_false]
      intro z
      obtain ⟨t, ht, hz⟩ := List.mem_map.mp z
      apply h2
      rw [← hz]
      exact ht
  · rw [if_neg h]
    rw [decide_eq_false (p := s ∈ TW.map (NT ++ ·)), Bool.or_false]
    intro z
    obtain ⟨t, ht, hz⟩ := List.mem_map.mp z
    apply h
    rw [← hz]
    rfl
theorem cut_to4 (s : List Nat) : cutL s none (some 4) = s.take 4 := by
  unfold cutL
  show (s.drop 0).take (HT.sIx s.length s.length (some 4) - 0) = s.take 4
  have : HT.sIx s.length s.length (some 4) = min 4 s.length := by
    simp [HT.sIx]
    try omega
  rw [this, List.drop_zero, Nat.sub_zero, Nat.min_comm, ← List.take_take, List.take_of_length_le (by rw [List.length_take]; omega)]
theorem cut_of4 (s : List Nat) : cutL s (some 4) none = s.drop 4 := by
  unfold cutL
  have : HT.sIx s.length 0 (some 4) = min 4 s.length := by
    simp [HT.sIx]
    try omega
  show (s.drop (HT.sIx s.length 0 (some 4))).take (s.length - HT.sIx s.length 0 (some 4)) = _
  rw [this]
  rcases Nat.le_total 4 s.length with q | q
  · rw [Nat.min_eq_left q, List.take_of_length_le (by rw [List.length_drop]; exact Nat.le_refl _)]
  · rw [Nat.min_eq_right q, List.drop_length, List.drop_eq_nil_of_le q, List.take_nil]
theorem is_test_ok {M : List Nat} {st : Sto} {x : Dt} (h : Ok0 M st x) : F_is_test [x] st = .ok (.bl (pW isTestS x)) st := by
  obtain ⟨t, h1, h2, _⟩ := h.kinds
  rw [run_is_test]
  unfold m_is_test
  cases x with
  | str s =>
    have hl : s.length ≤ lim := Nat.le_trans h (by decide)
    have a1 : mNot (mB (mIsI (qB tStr [3, 4]) (mVar 0))) [some (.str s)] st = .ok false st := by
      rw [mNot, mB, isI_ok (a := mVar 0) rfl h1 h2]
      rfl
    have a2 : mB (mBin eqD (mSl slD (mVar 0) mNoPart (mPart (mCB lenD (mCons (mC c_NOT) mNil)))) (mC c_NOT)) [some (.str s)] st = .ok (decide (s.take 4 = NT)) st := by
      unfold mSl mNoPart mPart
      walk_at "lt"
      simp only [c_NOT, lenD]
      rw [if_pos (by decide)]
      simp only [slD]
      rw [if_pos hl]
      simp only [eqD_str]
      rw [show ((([110, 111, 116, 32] : List Nat).length : Nat) : Int) = 4 from rfl, cut_to4]
      rfl
    rw [sSeq, sIf, a1]
    simp only [Re.on, Bool.false_eq_true, if_false, sNx]
    rw [sRet, mBin, mIf, a2]
    simp only [Re.bind]
    by_cases hz : s.take 4 = NT
    · rw [decide_eq_true hz]
      simp only [if_true]
      have a3 : mSl slD (mVar 0) (mPart (mCB lenD (mCons (mC c_NOT) mNil))) mNoPart [some (.str s)] st = .ok (.str (s.drop 4)) st := by
        unfold mSl mNoPart mPart
        walk_at "lt"
        simp only [c_NOT, lenD]
        rw [if_pos (by decide)]
        simp only [slD]
        rw [if_pos hl, show ((([110, 111, 116, 32] : List Nat).length : Nat) : Int) = 4 from rfl, cut_of4]
      rw [a3]
      simp only [mC]
      rw [inD, in_strs (ys := TW) rfl]
      have := not_split s
      rw [if_pos hz] at this
      rw [this]
      rfl
    · rw [decide_eq_false hz]
      simp only [Bool.false_eq_true, if_false, mVar, List.getElem?_cons_zero, mC]
      rw [inD, in_strs (ys := TW) rfl]
      have := not_split s
      rw [if_neg hz] at this
      rw [this]
      rfl
  | _ =>
    rw [sSeq, sIf, mNot, mB, isI_ok (a := mVar 0) rfl h1 h2]
    rfl
/-- all items are words -/
def wAll (p : List Nat → Bool) (v : Option (List Dt)) : Bool := match v with
  | some xs => xs.all (pW p)
  | none => false
theorem filter_yes (xs : List Dt) : xs.filter (fun _ => true) = xs := List.filter_eq_self.mpr fun _ _ => rfl
theorem all_id (f : Dt → Bool) (xs : List Dt) : (xs.map f).all id = xs.all f := by
  rw [List.all_map]
  rfl
end Law
set_option Elab.async false
set_option linter.all false
set_option maxRecDepth 100000
set_option maxHeartbeats 1000000
namespace Law
open PySem PySem.Spec PyProof.Rows L2 LT
local macro_rules | `(tactic| walk_at "lt") => `(tactic| simp only [sSeq, sIf, sRet, sSet, sAsg, gNm, sExpr, mVar, mC, mBin, mUn, mCons, mNil, mCB, mB, isB, mAnd, mOr, mNot, mAndV, mOrV, mNotV, mIf, mTup, mLst, mCall, mKey, mBM, mBM0, Re.bind, Re.on, List.set, List.getElem?_cons_zero, List.getElem?_cons_succ, if_true, if_false, Bool.false_eq_true, reduceIte, Bool.not_true, Bool.not_false, List.length_nil, List.length_cons])
theorem all_lc {m : ME} {env : Lo} {st st' : Sto} {i : Nat} {xs : List Dt} {f : Dt → Bool} (h : m env st = .ok (.ref i) st') (hl : st'[i]? = some (.lst ((xs.filter fun _ => true).map fun x => .bl (f x)))) : mB (mCB allD (mCons m mNil)) env st = .ok (xs.all f) st' := by
  rw [filter_yes] at hl
  unfold mB mCB mCons mNil
  rw [h]
  simp only [Re.bind, allD, lstD, hl, bools_map, all_id, isB]
def goodT (st : Sto) (a : Dt) : Bool := wAll isTestS (seqD a st)
def goodD (st : Sto) (d : Dt) : Bool := match seqD d st with
  | some ys => !ys.isEmpty && ys.all (pW isDeedS)
  | none => false
theorem lim20 {n : Nat} (h : n ≤ 20) : n < lim := Nat.lt_of_le_of_lt h (by decide)
theorem cond1 {M : List Nat} {st : Sto} {a : Dt} (x0 x2 x3 x4 : Option Dt) (h : Ok1 M st a) : ∃ st1, mOr (mNot (mB (mCall 1 F_is_sequence (mCons (mVar 1) mNil) []))) (mNot (mB (mCB allD (mCons (mLc (mIt (mVar 1)) (gNm 3) mYes (mCall 1 F_is_test (mCons (mVar 3) mNil) []) [3]) mNil)))) [x0, some a, x2, x3, x4] st = .ok (!goodT st a) st1 ∧ Xm [] st st1 := by
  have e1 : mB (mCall 1 F_is_sequence (mCons (mVar 1) mNil) []) [x0, some a, x2, x3, x4] st = .ok (seqD a st).isSome st := by
    walk_at "lt"
    rw [List.append_nil, is_sequence_ok h.1]
  unfold goodT
  cases hs : seqD a st with
  | none =>
    rw [hs] at e1
    refine ⟨st, ?_, Xm.refl⟩
    rw [mOr, mNot, e1]
    rfl
  | some xs =>
    rw [hs] at e1
    obtain ⟨hl, hx⟩ := h.2 xs hs
    obtain ⟨st1, r1, r2, r3⟩ := mLc_seq (me := mVar 1) (g := gNm 3) (tt := mYes) (te := mCall 1 F_is_test (mCons (mVar 3) mNil) []) (vs := [3]) (env := [x0, some a, x2, x3, x4]) (st := st) (st1 := st) rfl hs (lim20 hl) (fun _ => true) (fun x => .bl (pW isTestS x)) (fun x hxm s xm => by
      refine ⟨[x0, some a, x2, some x, x4], rfl, s, rfl, Xm.refl, fun _ => ⟨s, ?_, Xm.refl⟩⟩
      walk_at "lt"
      rw [List.append_nil, is_test_ok ((hx x hxm).keep xm.pure)])
    refine ⟨st1, ?_, r2⟩
    rw [mOr, mNot, e1]
    simp only [Re.bind, Option.isSome, Bool.not_true, Bool.false_eq_true, if_false]
    rw [mNot, all_lc r1 r3]
    rfl
theorem cond2 {M : List Nat} {st : Sto} {d : Dt} (x0 x1 x3 x4 : Option Dt) (h : Ok1 M st d) : ∃ st1, mOr (mNot (mB (mCall 1 F_is_sequence (mCons (mVar 2) mNil) []))) (mOr (mB (mBin eqD (mCB lenD (mCons (mVar 2) mNil)) (mC (.int 0)))) (mNot (mB (mCB allD (mCons (mLc (mIt (mVar 2)) (gNm 4) mYes (mCall 2 F_is_word (mCons (mVar 4) (mCons (mC c_DEEDS) mNil)) []) [4]) mNil))))) [x0, x1, some d, x3, x4] st = .ok (!goodD st d) st1 ∧ Xm [] st st1 := by
  have e1 : mB (mCall 1 F_is_sequence (mCons (mVar 2) mNil) []) [x0, x1, some d, x3, x4] st = .ok (seqD d st).isSome st := by
    walk_at "lt"
    rw [List.append_nil, is_sequence_ok h.1]
  unfold goodD
  cases hs : seqD d st with
  | none =>
    rw [hs] at e1
    refine ⟨st, ?_, Xm.refl⟩
    rw [mOr, mNot, e1]
    rfl
  | some xs =>
    rw [hs] at e1
    obtain ⟨hl, hx⟩ := h.2 xs hs
    have hlen : lenD [d] st = .ok (.int xs.length) st := by
      cases d with
      | str s => cases hs
      | _ => simp only [lenD, hs]
    have e2 : mB (mBin eqD (mCB lenD (mCons (mVar 2) mNil)) (mC (.int 0))) [x0, x1, some d, x3, x4] st = .ok xs.isEmpty st := by
      walk_at "lt"
      rw [hlen]
      simp only [eqD_int]
      cases xs with
      | nil => rfl
      | cons y ys => rw [decide_eq_false (by rw [List.length_cons]; omega)]; rfl
    rw [mOr, mNot, e1]
    simp only [Re.bind, Option.isSome, Bool.not_true, Bool.false_eq_true, if_false]
    rw [mOr, e2]
    simp only [Re.bind]
    cases he : xs.isEmpty with
    | true => exact ⟨st, rfl, Xm.refl⟩
    | false =>
      obtain ⟨st1, r1, r2, r3⟩ := mLc_seq (me := mVar 2) (g := gNm 4) (tt := mYes) (te := mCall 2 F_is_word (mCons (mVar 4) (mCons (mC c_DEEDS) mNil)) []) (vs := [4]) (env := [x0, x1, some d, x3, x4]) (st := st) (st1 := st) rfl hs (lim20 hl) (fun _ => true) (fun x => .bl (pW isDeedS x)) (fun x hxm s xm => by
        refine ⟨[x0, x1, some d, x3, some x], rfl, s, rfl, Xm.refl, fun _ => ⟨s, ?_, Xm.refl⟩⟩
        walk_at "lt"
        rw [List.append_nil, is_word_ok ((hx x hxm).keep xm.pure)])
      refine ⟨st1, ?_, r2⟩
      simp only [Bool.false_eq_true, if_false]
      rw [mNot, all_lc r1 r3]
      rfl
theorem tupleD_seq {d : Dt} {st : Sto} {xs : List Dt} (h : seqD d st = some xs) : tupleD [d] st = .ok (.tup xs) st := by
  simp only [tupleD, h]
theorem goodT_seq {st : Sto} {a : Dt} (h : goodT st a = true) : ∃ xs, seqD a st = some xs := by
  unfold goodT at h
  cases hs : seqD a st with
  | none => rw [hs] at h; cases h
  | some xs => exact ⟨xs, rfl⟩
theorem goodD_seq {st : Sto} {a : Dt} (h : goodD st a = true) : ∃ xs, seqD a st = some xs ∧ xs ≠ [] := by
  unfold goodD at h
  cases hs : seqD a st with
  | none => rw [hs] at h; cases h
  | some xs =>
    rw [hs] at h
    refine ⟨xs, rfl, fun e => ?_⟩
    rw [e] at h
    cases h
theorem goodT_keep {M : List Nat} {st st' : Sto} {a : Dt} (h : Ok0 M st a) (x : Xm M st st') : goodT st' a = goodT st a := by
  unfold goodT
  rw [h.seq x]
theorem goodD_keep {M : List Nat} {st st' : Sto} {a : Dt} (h : Ok0 M st a) (x : Xm M st st') : goodD st' a = goodD st a := by
  unfold goodD
  rw [h.seq x]
def tTests : List Nat := [116, 101, 115, 116, 115]
def tDeeds : List Nat := [100, 101, 101, 100, 115]
def tMade : List Nat := [109, 97, 100, 101]
theorem init_ok {M : List Nat} {st : Sto} {o : Nat} {a d : Dt} (ho : st[o]? = some (.ins 3 [])) (ha : Ok1 M st a) (hd : Ok1 M st d) :
    ∃ st', Xm [o] st st' ∧ ((goodT st a = false ∧ F_RowD_initD [.ref o, a, d] st = .exc 1 [(0, .str tTests)] st') ∨ (goodT st a = true ∧ goodD st d = false ∧ F_RowD_initD [.ref o, a, d] st = .exc 1 [(0, .str tDeeds)] st') ∨
      (goodT st a = true ∧ goodD st d = true ∧ F_RowD_initD [.ref o, a, d] st = .ok .non st' ∧ ∃ xs ys, seqD d st = some ys ∧ ys ≠ [] ∧ st'[o]? = some (.ins 3 [(2, .tup xs), (3, .tup ys)]))) := by
  obtain ⟨s1, e1, x1⟩ := cond1 (some (.ref o)) (some d) none none ha
  rw [run_RowD_initD]
  unfold m_RowD_initD
  rw [sSeq, sIf, e1]
  cases hT : goodT st a with
  | false => exact ⟨s1, x1.pure, .inl ⟨rfl, rfl⟩⟩
  | true =>
    simp only [Re.on, Bool.not_true, Bool.false_eq_true, if_false, sNx]
    obtain ⟨s2, e2, x2⟩ := cond2 (some (.ref o)) (some a) none none (hd.keep x1.pure)
    have x12 := x1.trans x2
    rw [sSeq, sIf, e2, goodD_keep hd.1 x1.pure]
    cases hD : goodD st d with
    | false => exact ⟨s2, x12.pure, .inr (.inl ⟨by trivial, by trivial, rfl⟩)⟩
    | true =>
      simp only [Re.on, Bool.not_true, Bool.false_eq_true, if_false, sNx]
      obtain ⟨xs, hxs⟩ := goodT_seq hT
      obtain ⟨ys, hys, hne⟩ := goodD_seq hD
      have q1 : seqD a s2 = some xs := seqD_keep hxs x12 (by simp)
      have q2 : seqD d s2 = some ys := seqD_keep hys x12 (by simp)
      have o2 : s2[o]? = some (.ins 3 []) := x12.at ho (by simp)
      have ol : o < s2.length := (List.getElem?_eq_some_iff.mp o2).1
      have f1 : sFldSet [3] 2 (mVar 0) (mCB tupleD (mCons (mVar 1) mNil)) [some (.ref o), some a, some d, none, none] s2 = .nx [some (.ref o), some a, some d, none, none] (s2.set o (.ins 3 [(2, .tup xs)])) := by
        unfold sFldSet
        walk_at "lt"
        rw [tupleD_seq q1]
        simp only [insD, o2]
        rfl
      rw [sSeq, f1]
      simp only
      have hdo : d ≠ .ref o := by
        intro e
        rw [e] at q2
        simp only [seqD, o2] at q2
        cases q2
      have q3 : seqD d (s2.set o (.ins 3 [(2, .tup xs)])) = some ys := seqD_keep q2 (Xm.set (M := [o]) (by simp)) (fun i hi => by
        simp
        intro e
        rw [e] at hi
        exact hdo hi)
      have o3 : (s2.set o (.ins 3 [(2, .tup xs)]))[o]? = some (.ins 3 [(2, .tup xs)]) := List.getElem?_set_self ol
      have f2 : sFldSet [3] 3 (mVar 0) (mCB tupleD (mCons (mVar 2) mNil)) [some (.ref o), some a, some d, none, none] (s2.set o (.ins 3 [(2, .tup xs)])) = .nx [some (.ref o), some a, some d, none, none] ((s2.set o (.ins 3 [(2, .tup xs)])).set o (.ins 3 [(2, .tup xs), (3, .tup ys)])) := by
        unfold sFldSet
        walk_at "lt"
        rw [tupleD_seq q3]
        simp only [insD, o3]
        rfl
      rw [f2]
      refine ⟨_, (x12.pure.trans (Xm.set (by simp))).trans (Xm.set (by simp)), .inr (.inr ⟨by trivial, by trivial, rfl, xs, ys, hys, hne, ?_⟩)⟩
      exact List.getElem?_set_self (by rw [List.length_set]; exact ol)
end Law
set_option Elab.async false
set_option linter.all false
set_option maxRecDepth 100000
set_option maxHeartbeats 1000000
namespace Law
open PySem PySem.Spec PyProof.Rows L2 LT
local macro_rules | `(tactic| walk_at "lt") => `(tactic| simp only [sSeq, sIf, sRet, sSet, sAsg, gNm, sExpr, mVar, mC, mBin, mUn, mCons, mNil, mCB, mB, isB, mAnd, mOr, mNot, mAndV, mOrV, mNotV, mIf, mTup, mLst, mCall, mKey, mBM, mBM0, Re.bind, Re.on, List.set, List.getElem?_cons_zero, List.getElem?_cons_succ, if_true, if_false, Bool.false_eq_true, reduceIte, Bool.not_true, Bool.not_false, List.length_nil, List.length_cons])
theorem strs_of {W : List (List Nat)} : ∀ (ys : List Dt), (∀ y ∈ ys, y ∈ W.map Dt.str) → ∃ ds : List (List Nat), ys = ds.map Dt.str ∧ ∀ t ∈ ds, t ∈ W
  | [], _ => ⟨[], rfl, by simp⟩
  | y :: ys, h => by
    obtain ⟨t, ht, e⟩ := List.mem_map.mp (h y (by simp))
    obtain ⟨ds, e2, h2⟩ := strs_of ys fun z hz => h z (by simp [hz])
    exact ⟨t :: ds, by rw [List.map_cons, e, e2], fun u hu => by
      rcases List.mem_cons.mp hu with q | q
      · rw [q]; exact ht
      · exact h2 u q⟩
theorem deeds_ok {b g : Nat} {st : Sto} {most : Int} (h : Bx b g st) (h0 : 1 ≤ most) (h1 : most ≤ 100) :
    ∃ (ts : List (List Nat)) (st' : Sto), F_law_deeds [.ref b, .int most] st = .ok (.tup (ts.map Dt.str)) st' ∧ (∀ t ∈ ts, t ∈ DW) ∧ 1 ≤ ts.length ∧ (ts.length : Int) ≤ most ∧ Xm [b, g] st st' ∧ Bx b g st' := by
  rw [run_law_deeds]
  unfold m_law_deeds
  have e1 : sSet 2 (mLst (mCons (mC (.str [98, 114, 101, 97, 107])) (mCons (mC (.str [106, 111, 105, 110])) (mCons (mC (.str [109, 97, 114, 107])) (mCons (mC (.str [117, 110, 109, 97, 114, 107])) (mCons (mC (.str [108, 105, 102, 116])) (mCons (mC (.str [108, 111, 119, 101, 114])) (mCons (mC (.str [115, 112, 97, 99, 101])) (mCons (mC (.str [99, 108, 111, 115, 101])) mNil))))))))) [some (.ref b), some (.int most), none, none] st = .nx [some (.ref b), some (.int most), some (.ref st.length), none] (st ++ [.lst (DW.map Dt.str)]) := rfl
  rw [sSeq, e1]
  simp only
  have hlt := h.lt
  obtain ⟨r, s2, e2, r0, r1, x2, hB2⟩ := take_ok (wide := most) (h.app (q := [Ob.lst (DW.map Dt.str)])) (by omega) (by omega)
  have l2 : s2[st.length]? = some (.lst (DW.map Dt.str)) := x2.at app_last (by simp; omega)
  have hll : st.length < s2.length := (List.getElem?_eq_some_iff.mp l2).1
  have hw : mRng (mCons (mBin addD (mC (.int 1)) (mCall 2 F_law_take (mCons (mVar 0) (mCons (mVar 1) mNil)) [])) mNil) [some (.ref b), some (.int most), some (.ref st.length), none] (st ++ [.lst (DW.map Dt.str)]) = .ok (wRng 0 (1 + r).toNat) s2 := by
    unfold mRng
    walk_at "lt"
    rw [List.append_nil, e2]
    simp only [addD, rngD]
    rw [if_pos (by omega)]
  have hlb2 := hB2.lt
  obtain ⟨ys, s3, e3, x3, ⟨y3, hB3, l3⟩, lys, nys, py⟩ := mLc_go (mw := mRng (mCons (mBin addD (mC (.int 1)) (mCall 2 F_law_take (mCons (mVar 0) (mCons (mVar 1) mNil)) [])) mNil)) (g := gNm 3) (te := mCall 2 F_law_pick (mCons (mVar 0) (mCons (mVar 2) mNil)) []) (vs := [3]) (env := [some (.ref b), some (.int most), some (.ref st.length), none]) (1 + r).toNat (fun s => Xm [b, g] s2 s ∧ Bx b g s ∧ s[st.length]? = some (.lst (DW.map Dt.str))) (fun i y s => y ∈ DW.map Dt.str) [b, g] hw rfl (by simp; omega) (Nat.lt_of_lt_of_le (by omega : (1 + r).toNat < 102) (by decide))
    (fun s o hs => ⟨hs.1.setN (Nat.le_refl _), hs.2.1.set (by omega) (by omega), by rw [List.getElem?_set_ne (by omega)]; exact hs.2.2⟩) (fun _ _ _ _ hy => hy) (fun _ _ _ _ hy _ => hy) ⟨Xm.app, hB2.app, app_old l2⟩ (fun s hs => wRng_stop) (fun i s hi hs hd => by
      obtain ⟨d, s4, e4, d4, x4, hB4⟩ := pick_ok hs.2.1 hs.2.2 (by omega) (by omega) (by decide) (by decide)
      refine ⟨_, wRng_item hi, _, rfl, d, s4, ?_, x4, ⟨hs.1.trans x4, hB4, x4.at hs.2.2 (by simp; omega)⟩, d4⟩
      walk_at "lt"
      exact e4)
  obtain ⟨ts, rfl, hts⟩ := strs_of (W := DW) ys fun y hy => by
    obtain ⟨j, hj, e⟩ := List.getElem_of_mem hy
    exact py j y (by rw [List.getElem?_eq_getElem hj, e])
  rw [List.length_map] at nys
  refine ⟨ts, s3, ?_, hts, by omega, by omega, (Xm.app.trans x2).trans x3, hB3⟩
  rw [sRet, mCB, mCons, e3]
  simp only [Re.bind, mNil, tupleD, seqD, lys]
  rfl
theorem str_ok {M : List Nat} {st : Sto} {s : List Nat} (h : s.length ≤ 40) : Ok1 M st (.str s) := ⟨h, fun xs hx => by cases hx⟩
/-- a row made of nothing but join -/
theorem row_join {b g : Nat} {st : Sto} (h : Bx b g st) (env : Lo) : ∃ (st' : Sto) (o : Nat) (fs : List (Nat × Dt)), mMake 3 3 F_RowD_initD (mCons (mTup mNil) (mCons (mLst (mCons (mC (.str [106, 111, 105, 110])) mNil)) mNil)) [] env st = .ok (.ref o) st' ∧ Xm [] st st' ∧ st'[o]? = some (.ins 3 fs) ∧ st.length ≤ o := by
  have hl : (st ++ [Ob.lst [.str [106, 111, 105, 110]]]).length = st.length + 1 := by rw [List.length_append]; rfl
  generalize hs1 : st ++ [Ob.lst [.str [106, 111, 105, 110]]] = s1 at hl
  have x1 : Xm [] st s1 := by rw [← hs1]; exact Xm.app
  have l1 : s1[st.length]? = some (Ob.lst [.str [106, 111, 105, 110]]) := by rw [← hs1]; exact app_last
  have q1 : seqD (.ref st.length) (s1 ++ [.ins 3 []]) = some [.str [106, 111, 105, 110]] := by simp only [seqD, app_old l1]
  obtain ⟨s2, x2, h2⟩ := init_ok (M := []) (o := s1.length) (a := .tup []) (d := .ref st.length) (app_last (st := s1) (o := .ins 3 [])) ⟨trivial, fun xs hx => by cases hx; exact ⟨by decide, by simp⟩⟩ ⟨⟨by simp, _, app_old l1, fun c fs hc => by cases hc⟩, fun xs hx => by
    rw [q1] at hx
    cases hx
    exact ⟨by decide, fun y hy => by rw [List.mem_singleton.mp hy]; show (4 : Nat) ≤ 40; decide⟩⟩
  have gT : goodT (s1 ++ [.ins 3 []]) (.tup []) = true := rfl
  have gD : goodD (s1 ++ [.ins 3 []]) (.ref st.length) = true := by
    unfold goodD
    rw [q1]
    decide
  rcases h2 with ⟨z, _⟩ | ⟨_, z, _⟩ | ⟨_, _, e, xs, ys, _, _, h6⟩
  · rw [gT] at z; cases z
  · rw [gD] at z; cases z
  · refine ⟨s2, s1.length, _, ?_, ?_, h6, by omega⟩
    · unfold mMake
      walk_at "lt"
      rw [if_pos (by decide)]
      simp only
      rw [if_pos (by decide)]
      simp only [hs1]
      rw [if_pos (by rfl), List.append_nil, e]
    · refine ⟨Nat.le_trans x1.len (Nat.le_trans (by rw [List.length_append]; omega) x2.len), fun i hi hm => ?_⟩
      rw [x2.get i (by rw [List.length_append]; omega) (by simp; omega), List.getElem?_append_left (by omega), x1.get i hi hm]
end Law
set_option Elab.async false
set_option linter.all false
set_option maxRecDepth 100000
set_option maxHeartbeats 1000000
namespace Law
open PySem PySem.Spec PyProof.Rows L2 LT
local macro_rules | `(tactic| walk_at "lt") => `(tactic| simp only [sSeq, sIf, sRet, sSet, sAsg, gNm, sExpr, mVar, mC, mBin, mUn, mCons, mNil, mCB, mB, isB, mAnd, mOr, mNot, mAndV, mOrV, mNotV, mIf, mTup, mLst, mCall, mKey, mBM, mBM0, Re.bind, Re.on, List.set, List.getElem?_cons_zero, List.getElem?_cons_succ, if_true, if_false, Bool.false_eq_true, reduceIte, Bool.not_true, Bool.not_false, List.length_nil, List.length_cons])
def isRow (st : Sto) (x : Dt) : Bool := match x with
  | .ref i => (match st[i]? with
    | some (.ins c _) => decide (c = 3)
    | _ => false)
  | _ => false
def isBl : Dt → Bool
  | .bl _ => true
  | _ => false
theorem Ok0.kinds2 {M : List Nat} {st : Sto} {x : Dt} (h : Ok0 M st x) : ∃ t, tkD x st = some t ∧ qO 3 [3, 4] t = some (isRow st x) ∧ qB tBool [3, 4] t = some (isBl x) := by
  cases x with
  | ref i =>
    obtain ⟨h1, o, h2, h3⟩ := h
    cases o with
    | lst xs => exact ⟨.lst, by simp only [tkD, h2], by simp only [isRow, h2]; rfl, rfl⟩
    | dk xs => exact ⟨.dk, by simp only [tkD, h2], by simp only [isRow, h2]; rfl, rfl⟩
    | ins c fs =>
      rcases h3 c fs rfl with rfl | rfl
      · exact ⟨.ins 3, by simp only [tkD, h2], by simp only [isRow, h2]; rfl, rfl⟩
      · exact ⟨.ins 4, by simp only [tkD, h2], by simp only [isRow, h2]; rfl, rfl⟩
  | rl _ => exact h.elim
  | _ => exact ⟨_, rfl, rfl, rfl⟩
theorem Ok0.row {M : List Nat} {st st' : Sto} {x : Dt} (h : Ok0 M st x) (xm : Xm M st st') : isRow st' x = isRow st x := by
  cases x with
  | ref i => obtain ⟨h1, o, h2, h3⟩ := h; simp only [isRow]; rw [h2, xm.at h2 h1]
  | _ => rfl
def allR (st : Sto) (a : Dt) : Bool := match seqD a st with
  | some xs => xs.all (isRow st)
  | none => false
theorem all_congr {xs : List Dt} {f g : Dt → Bool} (h : ∀ x ∈ xs, f x = g x) : xs.all f = xs.all g := by
  induction xs with
  | nil => rfl
  | cons x xs ih => rw [List.all_cons, List.all_cons, h x (by simp), ih fun y hy => h y (by simp [hy])]
theorem allR_keep {M : List Nat} {st st' : Sto} {a : Dt} (h : Ok1 M st a) (x : Xm M st st') : allR st' a = allR st a := by
  unfold allR
  rw [h.1.seq x]
  cases hs : seqD a st with
  | none => rfl
  | some xs => exact all_congr fun y hy => ((h.2 xs hs).2 y hy).row x
theorem tcond {M : List Nat} {st : Sto} {a : Dt} (x0 x2 x3 : Option Dt) (h : Ok1 M st a) : ∃ st1, mOr (mNot (mB (mCall 1 F_is_sequence (mCons (mVar 1) mNil) []))) (mNot (mB (mCB allD (mCons (mLc (mIt (mVar 1)) (gNm 3) mYes (mIsI (qO 3 [3, 4]) (mVar 3)) [3]) mNil)))) [x0, some a, x2, x3] st = .ok (!allR st a) st1 ∧ Xm [] st st1 := by
  have e1 : mB (mCall 1 F_is_sequence (mCons (mVar 1) mNil) []) [x0, some a, x2, x3] st = .ok (seqD a st).isSome st := by
    walk_at "lt"
    rw [List.append_nil, is_sequence_ok h.1]
  unfold allR
  cases hs : seqD a st with
  | none =>
    rw [hs] at e1
    refine ⟨st, ?_, Xm.refl⟩
    rw [mOr, mNot, e1]
    rfl
  | some xs =>
    rw [hs] at e1
    obtain ⟨hl, hx⟩ := h.2 xs hs
    obtain ⟨st1, r1, r2, r3⟩ := mLc_seq (me := mVar 1) (g := gNm 3) (tt := mYes) (te := mIsI (qO 3 [3, 4]) (mVar 3)) (vs := [3]) (env := [x0, some a, x2, x3]) (st := st) (st1 := st) rfl hs (lim20 hl) (fun _ => true) (fun x => .bl (isRow st x)) (fun x hxm s xm => by
      refine ⟨[x0, some a, x2, some x], rfl, s, rfl, Xm.refl, fun _ => ⟨s, ?_, Xm.refl⟩⟩
      obtain ⟨t, t1, t2, _⟩ := ((hx x hxm).keep xm.pure).kinds2
      rw [isI_ok (a := mVar 3) rfl t1 t2, (hx x hxm).row xm.pure])
    refine ⟨st1, ?_, r2⟩
    rw [mOr, mNot, e1]
    simp only [Re.bind, Option.isSome, Bool.not_true, Bool.false_eq_true, if_false]
    rw [mNot, all_lc r1 r3]
    rfl
def tRows : List Nat := [114, 111, 119, 115]
def tSorts : List Nat := [115, 111, 114, 116, 115]
theorem allR_seq {st : Sto} {a : Dt} (h : allR st a = true) : ∃ xs, seqD a st = some xs := by
  unfold allR at h
  cases hs : seqD a st with
  | none => rw [hs] at h; cases h
  | some xs => exact ⟨xs, rfl⟩
theorem tool_init {M : List Nat} {st : Sto} {o : Nat} {a d : Dt} (ho : st[o]? = some (.ins 4 [])) (ha : Ok1 M st a) (hd : Ok0 M st d) :
    ∃ st', Xm [o] st st' ∧ ((allR st a = false ∧ F_ToolD_initD [.ref o, a, d] st = .exc 1 [(0, .str tRows)] st') ∨ (allR st a = true ∧ isBl d = false ∧ F_ToolD_initD [.ref o, a, d] st = .exc 1 [(0, .str tSorts)] st') ∨
      (allR st a = true ∧ isBl d = true ∧ F_ToolD_initD [.ref o, a, d] st = .ok .non st' ∧ ∃ xs, seqD a st = some xs ∧ st'[o]? = some (.ins 4 [(4, .tup xs), (5, d)]))) := by
  obtain ⟨s1, e1, x1⟩ := tcond (some (.ref o)) (some d) none ha
  rw [run_ToolD_initD]
  unfold m_ToolD_initD
  rw [sSeq, sIf, e1]
  cases hT : allR st a with
  | false => exact ⟨s1, x1.pure, .inl ⟨rfl, rfl⟩⟩
  | true =>
    simp only [Re.on, Bool.not_true, Bool.false_eq_true, if_false, sNx]
    obtain ⟨t, t1, _, t3⟩ := (hd.keep x1.pure).kinds2
    have e2 : mNot (mB (mIsI (qB tBool [3, 4]) (mVar 2))) [some (.ref o), some a, some d, none] s1 = .ok (!isBl d) s1 := by
      rw [mNot, mB, isI_ok (a := mVar 2) rfl t1 t3]
      rfl
    rw [sSeq, sIf, e2]
    cases hD : isBl d with
    | false => exact ⟨s1, x1.pure, .inr (.inl ⟨by trivial, by trivial, rfl⟩)⟩
    | true =>
      simp only [Re.on, Bool.not_true, Bool.false_eq_true, if_false, sNx]
      obtain ⟨xs, hxs⟩ := allR_seq hT
      have q1 : seqD a s1 = some xs := seqD_keep hxs x1 (by simp)
      have o2 : s1[o]? = some (.ins 4 []) := x1.at ho (by simp)
      have ol : o < s1.length := (List.getElem?_eq_some_iff.mp o2).1
      have f1 : sFldSet [4] 4 (mVar 0) (mCB tupleD (mCons (mVar 1) mNil)) [some (.ref o), some a, some d, none] s1 = .nx [some (.ref o), some a, some d, none] (s1.set o (.ins 4 [(4, .tup xs)])) := by
        unfold sFldSet
        walk_at "lt"
        rw [tupleD_seq q1]
        simp only [insD, o2]
        rfl
      rw [sSeq, f1]
      simp only
      have o3 : (s1.set o (.ins 4 [(4, .tup xs)]))[o]? = some (.ins 4 [(4, .tup xs)]) := List.getElem?_set_self ol
      have f2 : sFldSet [4] 5 (mVar 0) (mVar 2) [some (.ref o), some a, some d, none] (s1.set o (.ins 4 [(4, .tup xs)])) = .nx [some (.ref o), some a, some d, none] ((s1.set o (.ins 4 [(4, .tup xs)])).set o (.ins 4 [(4, .tup xs), (5, d)])) := by
        unfold sFldSet
        walk_at "lt"
        simp only [insD, o3]
        rfl
      rw [f2]
      refine ⟨_, (x1.pure.trans (Xm.set (by simp))).trans (Xm.set (by simp)), .inr (.inr ⟨by trivial, by trivial, rfl, xs, hxs, ?_⟩)⟩
      exact List.getElem?_set_self (by rw [List.length_set]; exact ol)
/-- what making a tool answers -/
def ans (t d : Bool) : List Nat := if t then (if d then tMade else tSorts) else tRows
theorem part_ok {M : List Nat} {st : Sto} {a d : Dt} (ha : Ok1 M st a) (hd : Ok0 M st d) : ∃ st', F_law_part [a, d] st = .ok (.str (ans (allR st a) (isBl d))) st' ∧ Xm [] st st' := by
  have x0 : Xm [] st (st ++ [.ins 4 []]) := Xm.app
  obtain ⟨s1, x1, h⟩ := tool_init (o := st.length) (app_last (st := st) (o := .ins 4 [])) (ha.keep x0.pure) (hd.keep x0.pure)
  rw [allR_keep ha x0.pure] at h
  have x2 : Xm [] st s1 := by
    refine ⟨Nat.le_trans x0.len x1.len, fun i hi hm => ?_⟩
    rw [x1.get i (Nat.lt_of_lt_of_le hi x0.len) (by simp; omega), x0.get i hi hm]
  refine ⟨s1, ?_, x2⟩
  rw [run_law_part]
  unfold m_law_part
  have e0 : sSet 2 (mC (.str [111, 116, 104, 101, 114])) [some a, some d, none, none] st = .nx [some a, some d, some (.str [111, 116, 104, 101, 114]), none] st := rfl
  rw [sSeq, e0]
  simp only
  rw [sSeq, sTry]
  rcases h with ⟨h1, h2⟩ | ⟨h1, h2, h3⟩ | ⟨h1, h2, h3, xs, h4, h6⟩
  · have e1 : mMake 4 3 F_ToolD_initD (mCons (mVar 0) (mCons (mVar 1) mNil)) [] [some a, some d, some (.str [111, 116, 104, 101, 114]), none] st = .exc 1 [(0, .str tRows)] s1 := by
      unfold mMake
      walk_at "lt"
      rw [List.append_nil, h2]
    rw [sSet, sAsg, mIf, mB, mBin, mFld, e1, h1]
    rfl
  · have e1 : mMake 4 3 F_ToolD_initD (mCons (mVar 0) (mCons (mVar 1) mNil)) [] [some a, some d, some (.str [111, 116, 104, 101, 114]), none] st = .exc 1 [(0, .str tSorts)] s1 := by
      unfold mMake
      walk_at "lt"
      rw [List.append_nil, h3]
    rw [sSet, sAsg, mIf, mB, mBin, mFld, e1, h1, h2]
    rfl
  · have e1 : mMake 4 3 F_ToolD_initD (mCons (mVar 0) (mCons (mVar 1) mNil)) [] [some a, some d, some (.str [111, 116, 104, 101, 114]), none] st = .ok (.ref st.length) s1 := by
      unfold mMake
      walk_at "lt"
      rw [List.append_nil, h3]
    have e2 : mB (mBin eqD (mFld [4] 5 (mMake 4 3 F_ToolD_initD (mCons (mVar 0) (mCons (mVar 1) mNil)) [])) (mVar 1)) [some a, some d, some (.str [111, 116, 104, 101, 114]), none] st = .ok true s1 := by
      rw [mB, mBin, mFld, e1]
      simp only [Re.bind, insD, h6]
      rw [if_pos (by rfl)]
      cases d with
      | bl b => cases b <;> rfl
      | _ => cases h2
    rw [sSet, sAsg, mIf, e2, h1, h2]
    rfl
theorem are_ok {M : List Nat} {st : Sto} {v : Dt} (h : Ok1 M st v) : ∃ st', F_law_are_rows [v] st = .ok (.bl (allR st v)) st' ∧ Xm [] st st' := by
  rw [run_law_are_rows]
  unfold m_law_are_rows
  obtain ⟨t, k1, _, k3⟩ := h.1.kinds
  unfold allR
  rw [sRet, mAndV, isI_ok (a := mVar 0) rfl k1 k3]
  cases hs : seqD v st with
  | none => exact ⟨st, rfl, Xm.refl⟩
  | some xs =>
    simp only [Option.isSome, Re.bind]
    obtain ⟨hl, hx⟩ := h.2 xs hs
    obtain ⟨s5, g1, g2, g3⟩ := mLc_seq (me := mVar 0) (g := gNm 1) (tt := mNot (mB (mIsI (qO 3 [3, 4]) (mVar 1)))) (te := mVar 1) (vs := [1]) (env := [some v, none]) (st := st) (st1 := st) rfl hs (lim20 hl) (fun x => !isRow st x) (fun x => x) (fun x hxm s xm => by
      refine ⟨[some v, some x], rfl, s, ?_, Xm.refl, fun _ => ⟨s, rfl, Xm.refl⟩⟩
      obtain ⟨t, t1, t2, _⟩ := ((hx x hxm).keep xm.pure).kinds2
      rw [mNot, mB, isI_ok (a := mVar 1) rfl t1 t2, (hx x hxm).row xm.pure]
      rfl)
    have e6 : mBin eqD (mLc (mIt (mVar 0)) (gNm 1) (mNot (mB (mIsI (qO 3 [3, 4]) (mVar 1)))) (mVar 1) [1]) (mLst mNil) [some v, none] st = .ok (.bl (xs.all (isRow st))) (s5 ++ [.lst []]) := by
      rw [mBin, g1]
      simp only [Re.bind, mLst, mNil]
      rw [if_pos (by decide)]
      simp only
      rw [eqD_nil (app_old g3) app_last, List.map_id']
      congr 2
      generalize isRow st = f
      clear hx g3 hs hl
      induction xs with
      | nil => rfl
      | cons y ys ih =>
        rw [List.filter_cons, List.all_cons]
        cases f y with
        | true => simpa using ih
        | false => rfl
    rw [e6]
    exact ⟨_, rfl, g2.trans Xm.app⟩
end Law
set_option Elab.async false
set_option linter.all false
set_option maxRecDepth 100000
set_option maxHeartbeats 1000000
namespace Law
open PySem PySem.Spec PyProof.Rows L2 LT
local macro_rules | `(tactic| walk_at "lt") => `(tactic| simp only [sSeq, sIf, sRet, sSet, sAsg, gNm, sExpr, mVar, mC, mBin, mUn, mCons, mNil, mCB, mB, isB, mAnd, mOr, mNot, mAndV, mOrV, mNotV, mIf, mTup, mLst, mCall, mKey, mBM, mBM0, Re.bind, Re.on, List.set, List.getElem?_cons_zero, List.getElem?_cons_succ, if_true, if_false, Bool.false_eq_true, reduceIte, Bool.not_true, Bool.not_false, List.length_nil, List.length_cons])
theorem isL_of {st : Sto} {i : Nat} {xs : List Dt} (h : st[i]? = some (.lst xs)) : isL (.ref i) st = true := by
  simp only [isL, lstD, h]
  rfl
theorem mixed_while {b g p q : Nat} (x1 : Option Dt) (pq : p ≠ q) (pb : p ≠ b) (pg : p ≠ g) (qb : q ≠ b) (qg : q ≠ g) : ∀ (n : Nat) (fuel : Nat) (L Y : List Dt) (s : Sto), L.length = n → n < fuel → Bx b g s → s[p]? = some (.lst L) → s[q]? = some (.lst Y) → Y.length + n ≤ 20 →
    ∃ (Y' : List Dt) (s' : Sto), whileL (mB (mBin neD (mVar 2) (mLst mNil))) (sExpr (mBM isL appendD (mVar 3) (mCons (mBM isL popAtD (mVar 2) (mCons (mCall 2 F_law_take (mCons (mVar 0) (mCons (mCB lenD (mCons (mVar 2) mNil)) mNil)) []) mNil)) mNil))) fuel [some (.ref b), x1, some (.ref p), some (.ref q)] s = .nx [some (.ref b), x1, some (.ref p), some (.ref q)] s' ∧
      s'[q]? = some (.lst Y') ∧ Y'.length = Y.length + n ∧ (∀ y ∈ Y', y ∈ Y ∨ y ∈ L) ∧ Xm [b, g, p, q] s s' ∧ Bx b g s' := by
  intro n
  induction n with
  | zero =>
    intro fuel L Y s hL hf hB hp hq hl
    obtain ⟨f, rfl⟩ : ∃ f, fuel = f + 1 := ⟨fuel - 1, by omega⟩
    have e0 : L = [] := List.length_eq_zero_iff.mp hL
    subst e0
    refine ⟨Y, s ++ [.lst []], ?_, app_old hq, rfl, fun y hy => .inl hy, Xm.app, hB.app⟩
    have t : mB (mBin neD (mVar 2) (mLst mNil)) [some (.ref b), x1, some (.ref p), some (.ref q)] s = .ok false (s ++ [.lst []]) := by
      walk_at "lt"
      rw [if_pos (by decide)]
      simp only
      rw [neD_nil (app_old hp) app_last]
      rfl
    unfold whileL
    rw [t]
    rfl
  | succ n ih =>
    intro fuel L Y s hL hf hB hp hq hl
    obtain ⟨f, rfl⟩ : ∃ f, fuel = f + 1 := ⟨fuel - 1, by omega⟩
    have t : mB (mBin neD (mVar 2) (mLst mNil)) [some (.ref b), x1, some (.ref p), some (.ref q)] s = .ok true (s ++ [.lst []]) := by
      walk_at "lt"
      rw [if_pos (by decide)]
      simp only
      rw [neD_nil (app_old hp) app_last]
      cases L with
      | nil => cases hL
      | cons y ys => rfl
    obtain ⟨r, s2, e2, r0, r1, x2, hB2⟩ := take_ok (wide := (L.length : Int)) (hB.app (q := [Ob.lst []])) (by omega) (by omega)
    have p2 : s2[p]? = some (.lst L) := x2.at (app_old hp) (by simp [pb, pg])
    have q2 : s2[q]? = some (.lst Y) := x2.at (app_old hq) (by simp [qb, qg])
    have hr : r.toNat < L.length := by omega
    have hd : L[r.toNat]? = some L[r.toNat] := List.getElem?_eq_getElem hr
    have pl : p < s2.length := (List.getElem?_eq_some_iff.mp p2).1
    have ql : q < s2.length := (List.getElem?_eq_some_iff.mp q2).1
    have q3 : (s2.set p (.lst (L.eraseIdx r.toNat)))[q]? = some (.lst Y) := by rw [List.getElem?_set_ne pq]; exact q2
    have body : (sExpr (mBM isL appendD (mVar 3) (mCons (mBM isL popAtD (mVar 2) (mCons (mCall 2 F_law_take (mCons (mVar 0) (mCons (mCB lenD (mCons (mVar 2) mNil)) mNil)) []) mNil)) mNil))) [some (.ref b), x1, some (.ref p), some (.ref q)] (s ++ [.lst []]) = .nx [some (.ref b), x1, some (.ref p), some (.ref q)] ((s2.set p (.lst (L.eraseIdx r.toNat))).set q (.lst (Y ++ [L[r.toNat]]))) := by
      have a1 : mCall 2 F_law_take (mCons (mVar 0) (mCons (mCB lenD (mCons (mVar 2) mNil)) mNil)) [] [some (.ref b), x1, some (.ref p), some (.ref q)] (s ++ [.lst []]) = .ok (.int r) s2 := by
        walk_at "lt"
        simp only [lenD, seqD, app_old hp, List.append_nil]
        rw [if_pos (by rfl), e2]
      have a2 : mBM isL popAtD (mVar 2) (mCons (mCall 2 F_law_take (mCons (mVar 0) (mCons (mCB lenD (mCons (mVar 2) mNil)) mNil)) []) mNil) [some (.ref b), x1, some (.ref p), some (.ref q)] (s ++ [.lst []]) = .ok L[r.toNat] (s2.set p (.lst (L.eraseIdx r.toNat))) := by
        rw [mBM, show mVar 2 [some (.ref b), x1, some (.ref p), some (.ref q)] (s ++ [.lst []]) = .ok (.ref p) (s ++ [.lst []]) from rfl]
        simp only [Re.bind, isL_of (app_old hp), if_true, mCons, a1, mNil, popAtD, p2]
        rw [if_pos (by omega), hd]
      rw [sExpr, mBM, show mVar 3 [some (.ref b), x1, some (.ref p), some (.ref q)] (s ++ [.lst []]) = .ok (.ref q) (s ++ [.lst []]) from rfl]
      simp only [Re.bind, isL_of (app_old hq), if_true, mCons]
      rw [a2]
      simp only [mNil, appendD, q3]
      rw [if_pos (Nat.lt_of_lt_of_le (by omega : Y.length < 21) (by decide))]
      rfl
    obtain ⟨Y', s', e, y1, y2, y3, y4, y5⟩ := ih f (L.eraseIdx r.toNat) (Y ++ [L[r.toNat]]) ((s2.set p (.lst (L.eraseIdx r.toNat))).set q (.lst (Y ++ [L[r.toNat]])))
      (by rw [List.length_eraseIdx_of_lt hr]; omega) (by omega) ((hB2.set pb pg).set qb qg)
      (by rw [List.getElem?_set_ne (Ne.symm pq)]; exact List.getElem?_set_self pl) (List.getElem?_set_self (by rw [List.length_set]; exact ql)) (by rw [List.length_append, List.length_singleton]; omega)
    refine ⟨Y', s', ?_, y1, by rw [y2, List.length_append, List.length_singleton]; omega, fun y hy => ?_, ?_, y5⟩
    · unfold whileL
      rw [t]
      simp only [Re.on, if_true]
      rw [body]
      exact e
    · rcases y3 y hy with z | z
      · rcases List.mem_append.mp z with z | z
        · exact .inl z
        · rw [List.mem_singleton.mp z]
          exact .inr (List.getElem_mem hr)
      · exact .inr (List.mem_of_mem_eraseIdx z)
    · exact ((((Xm.app : Xm [b, g, p, q] s (s ++ [.lst []])).trans (x2.mono (by simp))).trans (Xm.set (by simp))).trans (Xm.set (by simp))).trans y4
theorem mixed_ok {b g l : Nat} {st : Sto} {xs : List Dt} (h : Bx b g st) (hl : st[l]? = some (.lst xs)) (hn : xs.length ≤ 15) :
    ∃ (r : Nat) (ys : List Dt) (st' : Sto), F_law_mixed [.ref b, .ref l] st = .ok (.ref r) st' ∧ st'[r]? = some (.lst ys) ∧ ys.length = xs.length ∧ (∀ y ∈ ys, y ∈ xs) ∧ Xm [b, g] st st' ∧ Bx b g st' ∧ st.length ≤ r := by
  have hlt := h.lt
  have l1 : (st ++ [Ob.lst xs]).length = st.length + 1 := by rw [List.length_append]; rfl
  obtain ⟨Y, s', e, y1, y2, y3, y4, y5⟩ := mixed_while (b := b) (g := g) (p := st.length) (q := st.length + 1) (some (.ref l)) (by omega) (by omega) (by omega) (by omega) (by omega) xs.length 20 xs [] ((st ++ [Ob.lst xs]) ++ [Ob.lst []]) rfl (by omega) h.app.app (app_old app_last) (by rw [← l1]; exact app_last) (by simp; omega)
  refine ⟨st.length + 1, Y, s', ?_, y1, by simpa using y2, fun y hy => (y3 y hy).elim (fun z => by cases z) id, ?_, y5, by omega⟩
  · rw [run_law_mixed]
    unfold m_law_mixed
    have a1 : sPar 2 3 (mCons (mCB listD (mCons (mVar 1) mNil)) (mCons (mLst mNil) mNil)) [some (.ref b), some (.ref l), none, none] st = .nx [some (.ref b), some (.ref l), some (.ref st.length), some (.ref (st.length + 1))] ((st ++ [Ob.lst xs]) ++ [Ob.lst []]) := by
      unfold sPar
      walk_at "lt"
      simp only [listD, seqD, hl]
      rw [if_pos (by decide)]
      simp only [l1]
    rw [sSeq, a1]
    simp only
    rw [sSeq, sWhile, e]
    rfl
  · refine ⟨Nat.le_trans (by rw [List.length_append, l1]; omega) y4.len, fun i hi hm => ?_⟩
    rw [y4.get i (by rw [List.length_append, l1]; omega) (by
      simp at hm ⊢
      omega), List.getElem?_append_left (by omega), List.getElem?_append_left hi]
/-! rows as the law tells them -/
def strsB (p : List Nat → Bool) : Dt → Bool
  | .tup xs => xs.all (pW p) && decide (xs.length ≤ 3)
  | _ => false
def rwB : Dt → Bool
  | .tup [t, .tup (y :: ys)] => strsB isTestS t && strsB isDeedS (.tup (y :: ys))
  | _ => false
theorem rw_use {x : Dt} (h : rwB x = true) : ∃ xs ys, x = .tup [.tup xs, .tup ys] ∧ xs.all (pW isTestS) = true ∧ ys.all (pW isDeedS) = true ∧ xs.length ≤ 3 ∧ ys.length ≤ 3 ∧ ys ≠ [] := by
  unfold rwB at h
  split at h
  · rename_i t y ys
    rw [Bool.and_eq_true] at h
    obtain ⟨h1, h2⟩ := h
    unfold strsB at h1 h2
    split at h1
    · rename_i xs
      rw [Bool.and_eq_true] at h1 h2
      exact ⟨xs, y :: ys, rfl, h1.1, h2.1, of_decide_eq_true h1.2, of_decide_eq_true h2.2, by simp⟩
    · cases h1
  · cases h
theorem rw_mk {ts ds : List (List Nat)} (ht : ∀ t ∈ ts, isTestS t = true) (hd : ∀ t ∈ ds, t ∈ DW) (lt : ts.length ≤ 3) (ld : ds.length ≤ 3) (l0 : 1 ≤ ds.length) : rwB (.tup [.tup (ts.map Dt.str), .tup (ds.map Dt.str)]) = true := by
  cases ds with
  | nil => simp at l0
  | cons y ys =>
    show (strsB isTestS (.tup (ts.map Dt.str)) && strsB isDeedS (.tup ((y :: ys).map Dt.str))) = true
    simp only [strsB]
    rw [show (ts.map Dt.str).all (pW isTestS) = true by
      rw [List.all_map, List.all_eq_true]
      exact ht, show ((y :: ys).map Dt.str).all (pW isDeedS) = true by
      rw [List.all_map, List.all_eq_true]
      exact fun t h => decide_eq_true (hd t h), List.length_map, List.length_map, decide_eq_true lt, decide_eq_true ld]
    rfl
def vU1 : List Dt := [.tup [.tup [.str [108, 111, 110, 103]], .tup [.str [98, 114, 101, 97, 107], .str [109, 97, 114, 107]]], .tup [.tup [.str [109, 97, 114, 107, 101, 100]], .tup [.str [98, 114, 101, 97, 107]]], .tup [.tup [.str [110, 111, 116, 32, 108, 111, 110, 103], .str [110, 111, 116, 32, 109, 97, 114, 107, 101, 100]], .tup [.str [106, 111, 105, 110]]]]
def vU2 : List Dt := [.tup [.tup [.str [98, 101, 104, 105, 110, 100], .str [108, 111, 110, 103]], .tup [.str [108, 105, 102, 116]]], .tup [.tup [.str [97, 104, 101, 97, 100], .str [110, 111, 116, 32, 108, 111, 110, 103]], .tup [.str [108, 111, 119, 101, 114]]], .tup [.tup [.str [102, 105, 114, 115, 116]], .tup [.str [99, 108, 111, 115, 101]]]]
def vU3 : List Dt := [.tup [.tup [.str [97, 102, 116, 101, 114, 98, 114, 111, 107, 101, 110]], .tup [.str [115, 112, 97, 99, 101]]], .tup [.tup [.str [98, 114, 111, 107, 101, 110]], .tup [.str [109, 97, 114, 107]]], .tup [.tup [.str [110, 111, 116, 32, 108, 101, 102, 116]], .tup [.str [117, 110, 109, 97, 114, 107]]]]
theorem usual_all : ∀ x ∈ vU1 ++ vU2 ++ vU3, rwB x = true := by decide
theorem usual_ok {b g : Nat} {st : Sto} (h : Bx b g st) : ∃ (r : Nat) (ys : List Dt) (st' : Sto), F_law_usual [.ref b] st = .ok (.ref r) st' ∧ st'[r]? = some (.lst ys) ∧ (∀ y ∈ ys, rwB y = true) ∧ ys.length ≤ 15 ∧ Xm [b, g] st st' ∧ Bx b g st' ∧ st.length ≤ r := by
  have hlt := h.lt
  generalize hs1 : st ++ [Ob.lst vU1] = s1
  have l1 : s1[st.length]? = some (.lst vU1) := by rw [← hs1]; exact app_last
  have n1 : s1.length = st.length + 1 := by rw [← hs1, List.length_append]; rfl
  have x1 : Xm [] st s1 := by rw [← hs1]; exact Xm.app
  generalize hs2 : s1 ++ [Ob.lst vU2] = s2
  have l2 : s2[s1.length]? = some (.lst vU2) := by rw [← hs2]; exact app_last
  have k2 : s2[st.length]? = some (.lst vU1) := by rw [← hs2]; exact app_old l1
  have x2 : Xm [] s1 s2 := by rw [← hs2]; exact Xm.app
  generalize hs3 : s2 ++ [Ob.lst (vU1 ++ vU2)] = s3
  have l3 : s3[s2.length]? = some (.lst (vU1 ++ vU2)) := by rw [← hs3]; exact app_last
  have x3 : Xm [] s2 s3 := by rw [← hs3]; exact Xm.app
  generalize hs4 : s3 ++ [Ob.lst vU3] = s4
  have l4 : s4[s3.length]? = some (.lst vU3) := by rw [← hs4]; exact app_last
  have k4 : s4[s2.length]? = some (.lst (vU1 ++ vU2)) := by rw [← hs4]; exact app_old l3
  have x4 : Xm [] s3 s4 := by rw [← hs4]; exact Xm.app
  generalize hs5 : s4 ++ [Ob.lst (vU1 ++ vU2 ++ vU3)] = s5
  have l5 : s5[s4.length]? = some (.lst (vU1 ++ vU2 ++ vU3)) := by rw [← hs5]; exact app_last
  have x5 : Xm [] s4 s5 := by rw [← hs5]; exact Xm.app
  have x05 : Xm [] st s5 := (((x1.trans x2).trans x3).trans x4).trans x5
  obtain ⟨r, ys, s6, e6, y1, y2, y3, y4, y5, y6⟩ := mixed_ok (h.keep x05) l5 (by decide)
  obtain ⟨c, s7, e7, c0, c1, x7, hB7⟩ := take_ok (wide := 4) y5 (by omega) (by omega)
  have r7 : s7[r]? = some (.lst ys) := x7.at y1 (by have := x05.len; simp; omega)
  refine ⟨s7.length, cutL ys none (some (1 + c)), s7 ++ [.lst (cutL ys none (some (1 + c)))], ?_, app_last, fun y hy => usual_all y (y3 y (by
    unfold cutL at hy
    exact List.mem_of_mem_drop (List.mem_of_mem_take hy))), ?_, ((x05.pure.trans y4).trans x7).trans Xm.app, hB7.app, ?_⟩
  · rw [run_law_usual]
    unfold m_law_usual
    rw [sSeq, show (sSet 1 (mLst (mCons (mTup (mCons (mTup (mCons (mC (.str [108, 111, 110, 103])) mNil)) (mCons (mTup (mCons (mC (.str [98, 114, 101, 97, 107])) (mCons (mC (.str [109, 97, 114, 107])) mNil))) mNil))) (mCons (mTup (mCons (mTup (mCons (mC (.str [109, 97, 114, 107, 101, 100])) mNil)) (mCons (mTup (mCons (mC (.str [98, 114, 101, 97, 107])) mNil)) mNil))) (mCons (mTup (mCons (mTup (mCons (mC (.str [110, 111, 116, 32, 108, 111, 110, 103])) (mCons (mC (.str [110, 111, 116, 32, 109, 97, 114, 107, 101, 100])) mNil))) (mCons (mTup (mCons (mC (.str [106, 111, 105, 110])) mNil)) mNil))) mNil)))) : MS) [some (.ref b), none] st = .nx [some (.ref b), some (.ref st.length)] s1 by rw [← hs1]; rfl]
    simp only
    have b1 : mLst (mCons (mTup (mCons (mTup (mCons (mC (.str [98, 101, 104, 105, 110, 100])) (mCons (mC (.str [108, 111, 110, 103])) mNil))) (mCons (mTup (mCons (mC (.str [108, 105, 102, 116])) mNil)) mNil))) (mCons (mTup (mCons (mTup (mCons (mC (.str [97, 104, 101, 97, 100])) (mCons (mC (.str [110, 111, 116, 32, 108, 111, 110, 103])) mNil))) (mCons (mTup (mCons (mC (.str [108, 111, 119, 101, 114])) mNil)) mNil))) (mCons (mTup (mCons (mTup (mCons (mC (.str [102, 105, 114, 115, 116])) mNil)) (mCons (mTup (mCons (mC (.str [99, 108, 111, 115, 101])) mNil)) mNil))) mNil))) [some (.ref b), some (.ref st.length)] s1 = .ok (.ref s1.length) s2 := by rw [← hs2]; rfl
    have b2 : mLst (mCons (mTup (mCons (mTup (mCons (mC (.str [97, 102, 116, 101, 114, 98, 114, 111, 107, 101, 110])) mNil)) (mCons (mTup (mCons (mC (.str [115, 112, 97, 99, 101])) mNil)) mNil))) (mCons (mTup (mCons (mTup (mCons (mC (.str [98, 114, 111, 107, 101, 110])) mNil)) (mCons (mTup (mCons (mC (.str [109, 97, 114, 107])) mNil)) mNil))) (mCons (mTup (mCons (mTup (mCons (mC (.str [110, 111, 116, 32, 108, 101, 102, 116])) mNil)) (mCons (mTup (mCons (mC (.str [117, 110, 109, 97, 114, 107])) mNil)) mNil))) mNil))) [some (.ref b), some (.ref s2.length)] s3 = .ok (.ref s3.length) s4 := by rw [← hs4]; rfl
    rw [sSeq, sSet, sAsg, mBin, show mVar 1 [some (.ref b), some (.ref st.length)] s1 = .ok (.ref st.length) s1 from rfl]
    simp only [Re.bind]
    rw [b1]
    simp only [addD, k2, l2]
    rw [if_pos (by decide), hs3]
    simp only [Re.on, gNm, List.set]
    rw [sSeq, sSet, sAsg, mBin, show mVar 1 [some (.ref b), some (.ref s2.length)] s3 = .ok (.ref s2.length) s3 from rfl]
    simp only [Re.bind]
    rw [b2]
    simp only [addD, k4, l4]
    rw [if_pos (by decide), hs5]
    simp only [Re.on, gNm, List.set]
    have b3 : mCall 2 F_law_mixed (mCons (mVar 0) (mCons (mVar 1) mNil)) [] [some (.ref b), some (.ref s4.length)] s5 = .ok (.ref r) s6 := by
      walk_at "lt"
      rw [List.append_nil, e6]
    have b4 : mPart (mBin addD (mC (.int 1)) (mCall 2 F_law_take (mCons (mVar 0) (mCons (mC (.int 4)) mNil)) [])) [some (.ref b), some (.ref s4.length)] s6 = .ok (some (1 + c)) s7 := by
      unfold mPart
      walk_at "lt"
      rw [List.append_nil, e7]
      rfl
    rw [sRet, mSl, b3]
    simp only [Re.bind, mNoPart]
    rw [b4]
    simp only [slD, r7]
    rfl
  · exact Nat.le_trans (cutD_len _ _ _) (by rw [y2]; decide)
  · exact Nat.le_trans (x05.len) (Nat.le_trans y4.len x7.len)
end Law
set_option Elab.async false
set_option linter.all false
set_option maxRecDepth 100000
set_option maxHeartbeats 1000000
namespace Law
open PySem PySem.Spec PyProof.Rows L2 LT
local macro_rules | `(tactic| walk_at "lt") => `(tactic| simp only [sSeq, sIf, sRet, sSet, sAsg, gNm, sExpr, mVar, mC, mBin, mUn, mCons, mNil, mCB, mB, isB, mAnd, mOr, mNot, mAndV, mOrV, mNotV, mIf, mTup, mLst, mCall, mKey, mBM, mBM0, Re.bind, Re.on, List.set, List.getElem?_cons_zero, List.getElem?_cons_succ, if_true, if_false, Bool.false_eq_true, reduceIte, Bool.not_true, Bool.not_false, List.length_nil, List.length_cons])
theorem mem_cut {α : Type} {xs : List α} {lo hi : Option Int} {y : α} (h : y ∈ cutL xs lo hi) : y ∈ xs := by
  unfold cutL at h
  exact List.mem_of_mem_drop (List.mem_of_mem_take h)
theorem cut_len2 {α : Type} (xs : List α) (k : Nat) (hk : k ≤ xs.length) : (cutL xs none (some (k : Int))).length = k ∧ (cutL xs (some (k : Int)) none).length = xs.length - k := by
  have h1 : HT.sIx xs.length xs.length (some (k : Int)) = k := by
    simp [HT.sIx]
    split <;> omega
  have h2 : HT.sIx xs.length 0 (some (k : Int)) = k := by
    simp [HT.sIx]
    split <;> omega
  have h3 : HT.sIx xs.length 0 none = 0 := rfl
  have h4 : HT.sIx xs.length xs.length none = xs.length := rfl
  unfold cutL
  rw [h1, h2, h3, h4, List.length_take, List.length_take, List.length_drop, List.length_drop]
  omega
theorem cut_most {α : Type} (xs : List α) (k : Int) (hk : 0 ≤ k) : ((cutL xs none (some k)).length : Int) ≤ k := by
  have h1 : HT.sIx xs.length xs.length (some k) = min k.toNat xs.length := by
    simp [HT.sIx]
    try omega
  have h3 : HT.sIx xs.length 0 none = 0 := rfl
  unfold cutL
  rw [h1, h3, List.length_take]
  omega
def bGrow : MS := sSeq (sSet 4 (mCall 2 F_law_take (mCons (mVar 0) (mCons (mBin addD (mCB lenD (mCons (mVar 2) mNil)) (mC (.int 1))) mNil)) [])) (sSet 2 (mBin addD (mBin addD (mSl slD (mVar 2) mNoPart (mPart (mVar 4))) (mLst (mCons (mTup (mCons (mCall 2 F_law_tests (mCons (mVar 0) (mCons (mC (.int 3)) mNil)) []) (mCons (mCall 2 F_law_deeds (mCons (mVar 0) (mCons (mC (.int 2)) mNil)) []) mNil))) mNil))) (mSl slD (mVar 2) (mPart (mVar 4)) mNoPart)))
theorem grow_ok {b g r : Nat} {s0 s : Sto} {rs : List Dt} (x1 x3 x4 : Option Dt) (h : Bx b g s) (hr : s[r]? = some (.lst rs)) (r0 : r ≠ b) (r1 : r ≠ g) (hl : rs.length ≤ 20) (ha : ∀ y ∈ rs, rwB y = true) :
    ∃ (r' : Nat) (rs' : List Dt) (v4 : Dt) (s' : Sto), bGrow [some (.ref b), x1, some (.ref r), x3, x4] s = .nx [some (.ref b), x1, some (.ref r'), x3, some v4] s' ∧ s'[r']? = some (.lst rs') ∧ rs'.length = rs.length + 1 ∧ (∀ y ∈ rs', rwB y = true) ∧ Bx b g s' ∧ Xm [b, g] s s' ∧ r' ≠ b ∧ r' ≠ g := by
  obtain ⟨c, s1, e1, c0, c1, y1, h1⟩ := take_ok (wide := (rs.length : Int) + 1) h (by omega) (by omega)
  have hr1 : s1[r]? = some (.lst rs) := y1.at hr (by simp [r0, r1])
  obtain ⟨k, rfl⟩ : ∃ k : Nat, c = (k : Int) := ⟨c.toNat, by omega⟩
  have hk : k ≤ rs.length := by omega
  obtain ⟨lA, lB⟩ := cut_len2 rs k hk
  generalize hA : cutL rs none (some (k : Int)) = A at lA
  generalize hBb : cutL rs (some (k : Int)) none = B at lB
  have a1 : (s1 ++ [Ob.lst A])[s1.length]? = some (.lst A) := app_last
  obtain ⟨ts, s2, e2, t1, t2, y2, h2⟩ := tests_ok (most := 3) (h1.app (q := [Ob.lst A])) (by omega) (by omega)
  obtain ⟨ds, s3, e3, d1, d0, d2, y3, h3⟩ := deeds_ok (most := 2) h2 (by omega) (by omega)
  have hlt := h1.lt
  have y23 := y2.trans y3
  have a3 : s3[s1.length]? = some (.lst A) := y23.at a1 (by simp; omega)
  have r3 : s3[r]? = some (.lst rs) := y23.at (app_old hr1) (by simp [r0, r1])
  generalize hx : Dt.tup [.tup (ts.map Dt.str), .tup (ds.map Dt.str)] = x
  have rx : rwB x = true := by rw [← hx]; exact rw_mk t1 d1 (by omega) (by omega) d0
  generalize hs4 : s3 ++ [Ob.lst [x]] = s4
  have a4 : s4[s1.length]? = some (.lst A) := by rw [← hs4]; exact app_old a3
  have x4' : s4[s3.length]? = some (.lst [x]) := by rw [← hs4]; exact app_last
  have r4 : s4[r]? = some (.lst rs) := by rw [← hs4]; exact app_old r3
  generalize hs5 : s4 ++ [Ob.lst (A ++ [x])] = s5
  have l5 : s5[s4.length]? = some (.lst (A ++ [x])) := by rw [← hs5]; exact app_last
  have r5 : s5[r]? = some (.lst rs) := by rw [← hs5]; exact app_old r4
  generalize hs6 : s5 ++ [Ob.lst B] = s6
  have l6 : s6[s5.length]? = some (.lst B) := by rw [← hs6]; exact app_last
  have k6 : s6[s4.length]? = some (.lst (A ++ [x])) := by rw [← hs6]; exact app_old l5
  have hB6 : Bx b g s6 := by rw [← hs6, ← hs5, ← hs4]; exact h3.app.app.app
  have xs6 : Xm [] s3 s6 := by rw [← hs6, ← hs5, ← hs4]; exact (Xm.app.trans Xm.app).trans Xm.app
  have xall : Xm [b, g] s s6 := ((y1.trans Xm.app).trans y23).trans xs6.pure
  have hlt6 := hB6.lt
  refine ⟨s6.length, A ++ [x] ++ B, .int k, s6 ++ [.lst (A ++ [x] ++ B)], ?_, app_last, ?_, ?_, hB6.app, xall.trans Xm.app, by omega, by omega⟩
  · unfold bGrow
    have g1 : sSet 4 (mCall 2 F_law_take (mCons (mVar 0) (mCons (mBin addD (mCB lenD (mCons (mVar 2) mNil)) (mC (.int 1))) mNil)) []) [some (.ref b), x1, some (.ref r), x3, x4] s = .nx [some (.ref b), x1, some (.ref r), x3, some (.int k)] s1 := by
      walk_at "lt"
      simp only [lenD, seqD, hr, addD, List.append_nil]
      rw [if_pos (by rfl), e1]
    rw [sSeq, g1]
    simp only
    have g2 : mSl slD (mVar 2) mNoPart (mPart (mVar 4)) [some (.ref b), x1, some (.ref r), x3, some (.int k)] s1 = .ok (.ref s1.length) (s1 ++ [.lst A]) := by
      unfold mSl mPart mNoPart
      walk_at "lt"
      simp only [slD, hr1, hA]
    have g3 : mLst (mCons (mTup (mCons (mCall 2 F_law_tests (mCons (mVar 0) (mCons (mC (.int 3)) mNil)) []) (mCons (mCall 2 F_law_deeds (mCons (mVar 0) (mCons (mC (.int 2)) mNil)) []) mNil))) mNil) [some (.ref b), x1, some (.ref r), x3, some (.int k)] (s1 ++ [.lst A]) = .ok (.ref s3.length) s4 := by
      walk_at "lt"
      simp only [List.append_nil]
      rw [e2]
      simp only
      rw [e3]
      simp only
      rw [if_pos (by show (2 : Nat) ≤ lim; decide)]
      simp only
      rw [if_pos (by show (1 : Nat) ≤ lim; decide), hx, hs4]
    have g4 : mSl slD (mVar 2) (mPart (mVar 4)) mNoPart [some (.ref b), x1, some (.ref r), x3, some (.int k)] s5 = .ok (.ref s5.length) s6 := by
      unfold mSl mPart mNoPart
      walk_at "lt"
      simp only [slD, r5, hBb, hs6]
    rw [sSet, sAsg, mBin, mBin, g2]
    simp only [Re.bind]
    rw [g3]
    simp only [addD, a4, x4']
    rw [if_pos (Nat.le_trans (by simp; omega : _ ≤ 30) (by decide)), hs5]
    simp only
    rw [g4]
    simp only [k6, l6]
    rw [if_pos (Nat.le_trans (by simp; omega : _ ≤ 30) (by decide))]
    rfl
  · simp only [List.length_append, List.length_singleton, lA, lB]
    omega
  · intro y hy
    rcases List.mem_append.mp hy with z | z
    · rcases List.mem_append.mp z with z | z
      · rw [← hA] at z; exact ha y (mem_cut z)
      · rw [List.mem_singleton.mp z]; exact rx
    · rw [← hBb] at z; exact ha y (mem_cut z)
theorem tool_ok {b g : Nat} {st : Sto} {most : Int} (h : Bx b g st) (h0 : 0 ≤ most) (h1 : most ≤ 15) :
    ∃ (rs : List Dt) (c : Bool) (st' : Sto), F_law_tool [.ref b, .int most] st = .ok (.tup [.tup rs, .bl c]) st' ∧ (rs.length : Int) ≤ most ∧ (∀ y ∈ rs, rwB y = true) ∧ Bx b g st' ∧ Xm [b, g] st st' := by
  rw [run_law_tool]
  unfold m_law_tool
  obtain ⟨c, s1, e1, c0, c1, y1, h1'⟩ := take_ok (wide := 2) h (by omega) (by omega)
  have hc : mB (mBin eqD (mCall 2 F_law_take (mCons (mVar 0) (mCons (mC (.int 2)) mNil)) []) (mC (.int 0))) [some (.ref b), some (.int most), none, none, none] st = .ok (decide (c = 0)) s1 := by
    walk_at "lt"
    rw [List.append_nil, e1]
    rfl
  have first : ∃ (r : Nat) (rs : List Dt) (s2 : Sto), sSet 2 (mIf (mB (mBin eqD (mCall 2 F_law_take (mCons (mVar 0) (mCons (mC (.int 2)) mNil)) []) (mC (.int 0)))) (mSl slD (mCall 1 F_law_usual (mCons (mVar 0) mNil) []) mNoPart (mPart (mVar 1))) (mLst mNil)) [some (.ref b), some (.int most), none, none, none] st = .nx [some (.ref b), some (.int most), some (.ref r), none, none] s2 ∧
      s2[r]? = some (.lst rs) ∧ (rs.length : Int) ≤ most ∧ (∀ y ∈ rs, rwB y = true) ∧ Bx b g s2 ∧ Xm [b, g] st s2 ∧ r ≠ b ∧ r ≠ g := by
    have hlt := h1'.lt
    by_cases z : c = 0
    · obtain ⟨r, ys, s2, u1, u2, u3, u4, u5, u6, u7⟩ := usual_ok h1'
      have hlt2 := u6.lt
      refine ⟨s2.length, cutL ys none (some most), s2 ++ [.lst (cutL ys none (some most))], ?_, app_last, cut_most ys most h0, fun y hy => u3 y (mem_cut hy), u6.app, (y1.trans u5).trans Xm.app, by omega, by omega⟩
      rw [sSet, sAsg, mIf, hc, decide_eq_true z]
      simp only [Re.bind, if_true]
      have q : mCall 1 F_law_usual (mCons (mVar 0) mNil) [] [some (.ref b), some (.int most), none, none, none] s1 = .ok (.ref r) s2 := by
        walk_at "lt"
        rw [List.append_nil, u1]
      rw [mSl, q]
      simp only [Re.bind, mNoPart, mPart, mVar, List.getElem?_cons_zero, List.getElem?_cons_succ, slD, u2]
      rfl
    · refine ⟨s1.length, [], s1 ++ [.lst []], ?_, app_last, h0, by simp, h1'.app, y1.trans Xm.app, by omega, by omega⟩
      rw [sSet, sAsg, mIf, hc, decide_eq_false z]
      rfl
  obtain ⟨r, rs, s2, a1, a2, a3, a4, a5, a6, a7, a8⟩ := first
  rw [sSeq, a1]
  simp only
  obtain ⟨n, s3, e3, n0, n1, y3, h3⟩ := take_ok (wide := most + 1 - (rs.length : Int)) a5 (by omega) (by omega)
  have hw : mRng (mCons (mCall 2 F_law_take (mCons (mVar 0) (mCons (mBin subD (mBin addD (mVar 1) (mC (.int 1))) (mCB lenD (mCons (mVar 2) mNil))) mNil)) []) mNil) [some (.ref b), some (.int most), some (.ref r), none, none] s2 = .ok (wRng 0 n.toNat) s3 := by
    unfold mRng
    walk_at "lt"
    simp only [addD, lenD, seqD, a2, subD, i2, List.append_nil]
    rw [if_pos (by rfl), e3]
    simp only [rngD]
    rw [if_pos (by omega)]
  obtain ⟨env', s4, f1, r', rs', w3, w4, rfl, l4, n4, q4, hB4, x4, m1, m2⟩ := forL_go (w := wRng 0 n.toNat) (g := gNm 3) (body := bGrow) n.toNat
    (fun i env s => ∃ (r' : Nat) (rs' : List Dt) (w3 w4 : Option Dt), env = [some (.ref b), some (.int most), some (.ref r'), w3, w4] ∧ s[r']? = some (.lst rs') ∧ rs'.length = rs.length + i ∧ (∀ y ∈ rs', rwB y = true) ∧ Bx b g s ∧ Xm [b, g] s3 s ∧ r' ≠ b ∧ r' ≠ g)
    (fun _ _ _ => wRng_stop) (fun i env s hi hJ => by
      obtain ⟨r', rs', w3, w4, rfl, k1, k2, k3, k4, k5, k6, k7⟩ := hJ
      obtain ⟨r2, rs2, v4, s', g1, g2, g3, g4, g5, g6, g7, g8⟩ := grow_ok (s0 := s) (some (.int most)) (some (.int (0 + (i : Int)))) w4 k4 k1 k6 k7 (by omega) k3
      exact ⟨_, wRng_item hi, [some (.ref b), some (.int most), some (.ref r'), some (.int (0 + (i : Int))), w4], s, rfl, _, s', .inl g1, r2, rs2, some (.int (0 + (i : Int))), some v4, rfl, g2, by omega, g4, g5, k5.trans g6, g7, g8⟩)
    n.toNat 0 _ s3 (by omega) ⟨r, rs, none, none, rfl, y3.at a2 (by simp [a7, a8]), rfl, a4, h3, Xm.refl, a7, a8⟩
  have f2 : sFor (mRng (mCons (mCall 2 F_law_take (mCons (mVar 0) (mCons (mBin subD (mBin addD (mVar 1) (mC (.int 1))) (mCB lenD (mCons (mVar 2) mNil))) mNil)) []) mNil)) (gNm 3) bGrow [some (.ref b), some (.int most), some (.ref r), none, none] s2 = .nx [some (.ref b), some (.int most), some (.ref r'), w3, w4] s4 := by
    rw [sFor, hw]
    exact f1
  obtain ⟨c2, s5, e5, _, _, y5, h5⟩ := take_ok (wide := 4) hB4 (by omega) (by omega)
  refine ⟨rs', decide (c2 = 0), s5, ?_, by omega, q4, h5, ((a6.trans y3).trans x4).trans y5⟩
  rw [sSeq]
  show outF (match sFor _ (gNm 3) bGrow _ s2 with | .nx env1 st1 => _ | r => r) = _
  rw [f2]
  simp only
  walk_at "lt"
  simp only [tupleD, seqD, l4, List.append_nil]
  rw [e5]
  simp only [eqD_int]
  rw [if_pos (by show (2 : Nat) ≤ lim; decide)]
  rfl
end Law
set_option Elab.async false
set_option linter.all false
set_option maxRecDepth 100000
set_option maxHeartbeats 1000000
namespace Law
open PySem PySem.Spec PyProof.Rows L2 LT
local macro_rules | `(tactic| walk_at "lt") => `(tactic| simp only [sSeq, sIf, sRet, sSet, sAsg, gNm, sExpr, mVar, mC, mBin, mUn, mCons, mNil, mCB, mB, isB, mAnd, mOr, mNot, mAndV, mOrV, mNotV, mIf, mTup, mLst, mCall, mKey, mBM, mBM0, Re.bind, Re.on, List.set, List.getElem?_cons_zero, List.getElem?_cons_succ, if_true, if_false, Bool.false_eq_true, reduceIte, Bool.not_true, Bool.not_false, List.length_nil, List.length_cons])
theorem tup_ok {M : List Nat} {st : Sto} {xs : List Dt} (hl : xs.length ≤ 20) (h : ∀ y ∈ xs, Ok0 M st y) : Ok1 M st (.tup xs) := ⟨trivial, fun ys hy => by cases hy; exact ⟨hl, h⟩⟩
theorem lst_ok {M : List Nat} {st : Sto} {xs : List Dt} {i : Nat} (hi : st[i]? = some (.lst xs)) (hm : i ∉ M) (hl : xs.length ≤ 20) (h : ∀ y ∈ xs, Ok0 M st y) : Ok1 M st (.ref i) := ⟨⟨hm, _, hi, fun c fs e => by cases e⟩, fun ys hy => by
  simp only [seqD, hi] at hy
  cases hy
  exact ⟨hl, h⟩⟩
theorem ins_ok {M : List Nat} {st : Sto} {i c : Nat} {fs : List (Nat × Dt)} (hi : st[i]? = some (.ins c fs)) (hm : i ∉ M) (hc : c = 3 ∨ c = 4) : Ok1 M st (.ref i) := ⟨⟨hm, _, hi, fun c' fs' e => by cases e; exact hc⟩, fun ys hy => by
  simp only [seqD, hi] at hy
  cases hy⟩
theorem flat_ok1 {M : List Nat} {st : Sto} {x : Dt} (h : match x with | .non => True | .bl _ => True | .int _ => True | .str s => s.length ≤ 40 | _ => False) : Ok1 M st x := by
  cases x with
  | str s => exact str_ok h
  | tup _ => exact h.elim
  | rl _ => exact h.elim
  | ref _ => exact h.elim
  | _ => exact ⟨trivial, fun xs hx => by cases hx⟩
theorem test_len {t : List Nat} (h : isTestS t = true) : t.length ≤ 40 := by
  unfold isTestS at h
  have h1 : ∀ t ∈ TW, t.length ≤ 40 := by decide
  have h2 : ∀ t ∈ TW.map (NT ++ ·), t.length ≤ 40 := by decide
  rcases Bool.or_eq_true _ _ ▸ h with z | z
  · exact h1 t (of_decide_eq_true z)
  · exact h2 t (of_decide_eq_true z)
theorem deed_len {t : List Nat} (h : isDeedS t = true) : t.length ≤ 40 := by
  have h1 : ∀ t ∈ DW, t.length ≤ 40 := by decide
  exact h1 t (of_decide_eq_true h)
theorem word_ok {p : List Nat → Bool} (hp : ∀ t, p t = true → t.length ≤ 40) {M : List Nat} {st : Sto} {xs : List Dt} (h : xs.all (pW p) = true) (hl : xs.length ≤ 20) : Ok1 M st (.tup xs) := tup_ok hl fun y hy => by
  have := List.all_eq_true.mp h y hy
  cases y with
  | str s => exact hp s this
  | _ => cases this
/-- a row of such words -/
theorem row_make {x : Dt} {xs ys : List Dt} {e1 e2 : ME} {env : Lo} {s : Sto} (hx : xs.all (pW isTestS) = true) (hy : ys.all (pW isDeedS) = true) (lx : xs.length ≤ 3) (ly : ys.length ≤ 3) (hn : ys ≠ []) (h1 : e1 env s = .ok (.tup xs) s) (h2 : e2 env s = .ok (.tup ys) s) :
    ∃ (fs : List (Nat × Dt)) (s' : Sto), mMake 3 3 F_RowD_initD (mCons e1 (mCons e2 mNil)) [] env s = .ok (.ref s.length) s' ∧ s'[s.length]? = some (.ins 3 fs) ∧ Xm [] s s' := by
  obtain ⟨s2, x2, h⟩ := init_ok (M := []) (o := s.length) (a := .tup xs) (d := .tup ys) (app_last (st := s) (o := .ins 3 [])) (word_ok (fun _ => test_len) hx (by omega)) (word_ok (fun _ => deed_len) hy (by omega))
  have gT : goodT (s ++ [.ins 3 []]) (.tup xs) = true := hx
  have gD : goodD (s ++ [.ins 3 []]) (.tup ys) = true := by
    show (!ys.isEmpty && ys.all (pW isDeedS)) = true
    rw [hy]
    cases ys with
    | nil => exact absurd rfl hn
    | cons y ys => rfl
  rcases h with ⟨z, _⟩ | ⟨_, z, _⟩ | ⟨_, _, e, us, vs, _, _, h6⟩
  · rw [gT] at z; cases z
  · rw [gD] at z; cases z
  · refine ⟨_, s2, ?_, h6, ?_⟩
    · unfold mMake
      simp only [mCons, h1, Re.bind, h2, mNil, List.append_nil]
      rw [if_pos (by rfl), e]
    · refine ⟨Nat.le_trans (by rw [List.length_append]; omega) x2.len, fun i hi hm => ?_⟩
      rw [x2.get i (by rw [List.length_append]; omega) (by simp; omega), List.getElem?_append_left hi]
/-- a tool of rows -/
theorem tool_make {M : List Nat} {ma : MA} {dv ds : List Dt} {a : Dt} {c : Bool} {env : Lo} {s s1 : Sto} (hm : ma env s = .ok ds s1) (hd : ds ++ dv = [a, .bl c]) (ha : Ok1 M s1 a) (hr : allR s1 a = true) :
    ∃ (fs : List (Nat × Dt)) (s' : Sto), mMake 4 3 F_ToolD_initD ma dv env s = .ok (.ref s1.length) s' ∧ s'[s1.length]? = some (.ins 4 fs) ∧ Xm [] s1 s' := by
  have x0 : Xm [] s1 (s1 ++ [.ins 4 []]) := Xm.app
  obtain ⟨s2, x2, h⟩ := tool_init (M := M) (o := s1.length) (a := a) (d := .bl c) (app_last (st := s1) (o := .ins 4 [])) (ha.keep x0.pure) trivial
  rw [allR_keep ha x0.pure, hr] at h
  rcases h with ⟨z, _⟩ | ⟨_, z, _⟩ | ⟨_, _, e, us, _, h6⟩
  · cases z
  · cases z
  · refine ⟨_, s2, ?_, h6, ?_⟩
    · unfold mMake
      rw [hm]
      simp only [Re.bind]
      rw [if_pos (by rw [← List.length_append, hd]; rfl), hd, e]
    · refine ⟨Nat.le_trans (by rw [List.length_append]; omega) x2.len, fun i hi hm => ?_⟩
      rw [x2.get i (by rw [List.length_append]; omega) (by simp; omega), List.getElem?_append_left hi]
/-- the rows made -/
theorem rows_ok {b g : Nat} {st : Sto} (x0 x1 x3 x4 x5 x6 x7 x8 x9 x10 x11 x12 : Option Dt) (h : Bx b g st) :
    ∃ (r : Nat) (ys : List Dt) (st' : Sto), mLc (mIt (mBin ixD (mCall 2 F_law_tool (mCons (mVar 2) (mCons (mC (.int 6)) mNil)) []) (mC (.int 0)))) (gTp [11, 12]) mYes (mMake 3 3 F_RowD_initD (mCons (mVar 11) (mCons (mVar 12) mNil)) []) [11, 12] [x0, x1, some (.ref b), x3, x4, x5, x6, x7, x8, x9, x10, x11, x12] st = .ok (.ref r) st' ∧
      st'[r]? = some (.lst ys) ∧ ys.length ≤ 6 ∧ Bx b g st' ∧ Xm [b, g] st st' ∧ r ≠ b ∧ r ≠ g ∧ ∀ y ∈ ys, Ok0 [b, g] st' y ∧ isRow st' y = true := by
  obtain ⟨rs, c, s1, e1, l1, r1, h1, y1⟩ := tool_ok (most := 6) h (by omega) (by omega)
  have hm : mBin ixD (mCall 2 F_law_tool (mCons (mVar 2) (mCons (mC (.int 6)) mNil)) []) (mC (.int 0)) [x0, x1, some (.ref b), x3, x4, x5, x6, x7, x8, x9, x10, x11, x12] st = .ok (.tup rs) s1 := by
    walk_at "lt"
    rw [List.append_nil, e1]
    rfl
  obtain ⟨w, w1, w2, w3⟩ := it_seq (st := s1) (d := .tup rs) (xs := rs) rfl
  have hw : mIt (mBin ixD (mCall 2 F_law_tool (mCons (mVar 2) (mCons (mC (.int 6)) mNil)) []) (mC (.int 0))) [x0, x1, some (.ref b), x3, x4, x5, x6, x7, x8, x9, x10, x11, x12] st = .ok w s1 := by
    unfold mIt
    rw [hm]
    exact w1
  have hlt := h1.lt
  obtain ⟨ys, s2, e2, x2, i2, l2, n2, p2⟩ := mLc_go (g := gTp [11, 12]) (te := mMake 3 3 F_RowD_initD (mCons (mVar 11) (mCons (mVar 12) mNil)) []) (vs := [11, 12]) rs.length (fun s => Xm [] s1 s) (fun i y s => ∃ j fs, y = .ref j ∧ s[j]? = some (.ins 3 fs) ∧ s1.length < j) [] hw w2 (by simp) (Nat.lt_of_lt_of_le (by omega : rs.length < 20) (by decide))
    (fun s o hs => hs.setN (Nat.le_refl _)) (fun i y s o hy => by
      obtain ⟨j, fs, h1, h2, h3⟩ := hy
      exact ⟨j, fs, h1, by rw [List.getElem?_set_ne (by omega)]; exact h2, h3⟩) (fun i y s s' hy hx => by
      obtain ⟨j, fs, h1, h2, h3⟩ := hy
      exact ⟨j, fs, h1, hx.at h2 (by simp), h3⟩) Xm.app (fun s hs => (w3 s rfl).1) (fun i s hi hs hd => by
      have hc : rs[i]? = some rs[i] := List.getElem?_eq_getElem hi
      obtain ⟨xs, zs, ex, q1, q2, q3, q4, q5⟩ := rw_use (r1 rs[i] (List.getElem_mem hi))
      refine ⟨rs[i], (w3 s rfl).2 i _ hc, [x0, x1, some (.ref b), x3, x4, x5, x6, x7, x8, x9, x10, some (.tup xs), some (.tup zs)], by rw [ex]; rfl, ?_⟩
      obtain ⟨fs, s', a1, a2, a3⟩ := row_make (x := rs[i]) (e1 := mVar 11) (e2 := mVar 12) (env := [x0, x1, some (.ref b), x3, x4, x5, x6, x7, x8, x9, x10, some (.tup xs), some (.tup zs)]) (s := s) q1 q2 q3 q4 q5 rfl rfl
      exact ⟨_, s', a1, a3, hs.trans a3, s.length, fs, rfl, a2, hd⟩)
  refine ⟨s1.length, ys, s2, e2, l2, by omega, h1.keep x2, y1.trans x2.pure, by omega, by omega, fun y hy => ?_⟩
  obtain ⟨j, hj, e⟩ := List.getElem_of_mem hy
  obtain ⟨k, fs, rfl, z2, z3⟩ := p2 j y (by rw [List.getElem?_eq_getElem hj, e])
  exact ⟨⟨by simp; omega, _, z2, fun c fs e => by cases e; exact .inl rfl⟩, by simp only [isRow, z2]; rfl⟩
end Law
set_option Elab.async false
set_option linter.all false
set_option maxRecDepth 100000
set_option maxHeartbeats 1000000
namespace Law
open PySem PySem.Spec PyProof.Rows L2 LT
local macro_rules | `(tactic| walk_at "lt") => `(tactic| simp only [sSeq, sIf, sRet, sSet, sAsg, gNm, sExpr, mVar, mC, mBin, mUn, mCons, mNil, mCB, mB, isB, mAnd, mOr, mNot, mAndV, mOrV, mNotV, mIf, mTup, mLst, mCall, mKey, mBM, mBM0, Re.bind, Re.on, List.set, List.getElem?_cons_zero, List.getElem?_cons_succ, if_true, if_false, Bool.false_eq_true, reduceIte, Bool.not_true, Bool.not_false, List.length_nil, List.length_cons])
theorem mCons_ok {a : ME} {as : MA} {env : Lo} {st st1 st2 : Sto} {x : Dt} {xs : List Dt} (h : a env st = .ok x st1) (h2 : as env st1 = .ok xs st2) : mCons a as env st = .ok (x :: xs) st2 := by
  rw [mCons, h]
  simp only [Re.bind]
  rw [h2]
theorem mLst_ok {as : MA} {env : Lo} {st st1 : Sto} {xs : List Dt} (h : as env st = .ok xs st1) (hl : xs.length ≤ 40) : mLst as env st = .ok (.ref st1.length) (st1 ++ [.lst xs]) := by
  rw [mLst, h]
  simp only [Re.bind]
  rw [if_pos (Nat.le_trans hl (by decide))]
theorem mTup_ok {as : MA} {env : Lo} {st st1 : Sto} {xs : List Dt} (h : as env st = .ok xs st1) (hl : xs.length ≤ 40) : mTup as env st = .ok (.tup xs) st1 := by
  rw [mTup, h]
  simp only [Re.bind]
  rw [if_pos (Nat.le_trans hl (by decide))]
theorem nil_any {env : Lo} {st : Sto} : mNil env st = .ok [] st := rfl
def oddS : MS := sSet 4 (mLst (mCons (mC .non) (mCons (mC (.int 0)) (mCons (mC (.bl true)) (mCons (mC (.str [100, 111, 32, 106, 111, 105, 110])) (mCons (mC (.str [])) (mCons (mLst mNil) (mCons (mTup mNil) (mCons (mTup (mCons (mC (.str [108, 111, 110, 103])) mNil)) (mCons (mLst (mCons (mMake 3 3 F_RowD_initD (mCons (mTup mNil) (mCons (mLst (mCons (mC (.str [106, 111, 105, 110])) mNil)) mNil)) []) mNil)) (mCons (mMake 4 3 F_ToolD_initD (mCons (mVar 3) mNil) [.bl false]) (mCons (mBin powD (mC (.int 10)) (mC (.int 20))) (mCons (mLst (mCons (mLst mNil) mNil)) mNil)))))))))))))
theorem odd_ok {b g r : Nat} {s : Sto} {ys : List Dt} (x0 x1 x4 x5 x6 x7 x8 x9 x10 x11 x12 : Option Dt) (h : Bx b g s) (hr : s[r]? = some (.lst ys)) (rb : r ≠ b) (rg : r ≠ g) (hl : ys.length ≤ 6) (hy : ∀ y ∈ ys, Ok0 [b, g] s y ∧ isRow s y = true) :
    ∃ (q : Nat) (odds : List Dt) (s' : Sto), oddS [x0, x1, some (.ref b), some (.ref r), x4, x5, x6, x7, x8, x9, x10, x11, x12] s = .nx [x0, x1, some (.ref b), some (.ref r), some (.ref q), x5, x6, x7, x8, x9, x10, x11, x12] s' ∧ s'[q]? = some (.lst odds) ∧ odds.length = 12 ∧ (∀ x ∈ odds, Ok1 [b, g] s' x) ∧ Xm [] s s' ∧ s.length ≤ q := by
  have hlt := h.lt
  generalize hs1 : s ++ [Ob.lst []] = s1
  have n1 : s1.length = s.length + 1 := by rw [← hs1, List.length_append]; rfl
  have x1' : Xm [] s s1 := by rw [← hs1]; exact Xm.app
  have l1 : s1[s.length]? = some (.lst []) := by rw [← hs1]; exact app_last
  obtain ⟨s2, o, fo, e2, x2, ho, hol⟩ := row_join (h.keep x1') [x0, x1, some (.ref b), some (.ref r), x4, x5, x6, x7, x8, x9, x10, x11, x12]
  generalize hs3 : s2 ++ [Ob.lst [.ref o]] = s3
  have n3 : s3.length = s2.length + 1 := by rw [← hs3, List.length_append]; rfl
  have x3' : Xm [] s2 s3 := by rw [← hs3]; exact Xm.app
  have l3 : s3[s2.length]? = some (.lst [.ref o]) := by rw [← hs3]; exact app_last
  have x03 : Xm [] s s3 := (x1'.trans x2).trans x3'
  have r3 : s3[r]? = some (.lst ys) := x03.at hr (by simp)
  have hy3 : ∀ y ∈ ys, Ok0 [b, g] s3 y ∧ isRow s3 y = true := fun y hm => ⟨(hy y hm).1.keep x03.pure, by rw [(hy y hm).1.row x03.pure]; exact (hy y hm).2⟩
  have k3 : Ok1 [b, g] s3 (.ref r) := lst_ok r3 (by simp [rb, rg]) (by omega) fun y hm => (hy3 y hm).1
  obtain ⟨ft, s4, e4, l4, x4'⟩ := tool_make (ma := mCons (mVar 3) mNil) (dv := [.bl false]) (c := false) (env := [x0, x1, some (.ref b), some (.ref r), x4, x5, x6, x7, x8, x9, x10, x11, x12]) (s := s3) (s1 := s3) (ds := [.ref r]) rfl rfl k3 (by
    unfold allR
    simp only [seqD, r3]
    exact List.all_eq_true.mpr fun y hm => (hy3 y hm).2)
  generalize hs5 : s4 ++ [Ob.lst []] = s5
  have n5 : s5.length = s4.length + 1 := by rw [← hs5, List.length_append]; rfl
  have x5' : Xm [] s4 s5 := by rw [← hs5]; exact Xm.app
  have l5 : s5[s4.length]? = some (.lst []) := by rw [← hs5]; exact app_last
  generalize hs6 : s5 ++ [Ob.lst [.ref s4.length]] = s6
  have x6' : Xm [] s5 s6 := by rw [← hs6]; exact Xm.app
  have l6 : s6[s5.length]? = some (.lst [.ref s4.length]) := by rw [← hs6]; exact app_last
  have len12 := x2.len
  have len4 := x4'.len
  have x46 : Xm [] s4 s6 := x5'.trans x6'
  have x36 : Xm [] s3 s6 := x4'.trans x46
  have x16 : Xm [] s1 s6 := (x2.trans x3').trans x36
  generalize hod : [Dt.non, .int 0, .bl true, .str [100, 111, 32, 106, 111, 105, 110], .str [], .ref s.length, .tup [], .tup [.str [108, 111, 110, 103]], .ref s2.length, .ref s3.length, .int 100000000000000000000, .ref s5.length] = odds
  have xe : Xm [] s6 (s6 ++ [.lst odds]) := Xm.app
  refine ⟨s6.length, odds, s6 ++ [.lst odds], ?_, app_last, by rw [← hod]; rfl, ?_, (x1'.trans x16).trans xe, ?_⟩
  · unfold oddS
    rw [sSet, sAsg, mLst_ok (mCons_ok rfl (mCons_ok rfl (mCons_ok rfl (mCons_ok rfl (mCons_ok rfl (mCons_ok (mLst_ok nil_any (by decide)) (mCons_ok (mTup_ok nil_any (by decide)) (mCons_ok (mTup_ok (mCons_ok rfl nil_any) (by decide)) (mCons_ok (mLst_ok (mCons_ok (by rw [hs1]; exact e2) nil_any) (by simp)) (mCons_ok (by rw [hs3]; exact e4) (mCons_ok (rfl : mBin powD (mC (.int 10)) (mC (.int 20)) _ s4 = .ok (.int 100000000000000000000) s4) (mCons_ok (mLst_ok (mCons_ok (mLst_ok nil_any (by decide)) nil_any) (by simp)) nil_any)))))))))))) (by simp)]
    rw [hs5, hs6, ← hod]
    rfl
  · intro x hx
    rw [← hod] at hx
    refine Ok1.keep ?_ xe.pure
    simp only [List.mem_cons, List.not_mem_nil, or_false] at hx
    have xx := x1'.len
    rcases hx with rfl | rfl | rfl | rfl | rfl | rfl | rfl | rfl | rfl | rfl | rfl | rfl
    · exact flat_ok1 trivial
    · exact flat_ok1 trivial
    · exact flat_ok1 trivial
    · exact str_ok (by decide)
    · exact str_ok (by decide)
    · exact lst_ok (x16.at l1 (by simp)) (by simp; omega) (by decide) (by simp)
    · exact tup_ok (by decide) (by simp)
    · exact tup_ok (by decide) (fun y hm => by rw [List.mem_singleton.mp hm]; show (4 : Nat) ≤ 40; decide)
    · have ho6 : s6[o]? = some (.ins 3 fo) := (x3'.trans x36).at ho (by simp)
      exact lst_ok (x36.at l3 (by simp)) (by simp; omega) (by simp) (fun y hm => by
        rw [List.mem_singleton.mp hm]
        exact ⟨by simp; omega, _, ho6, fun c fs e => by cases e; exact .inl rfl⟩)
    · exact ins_ok (x46.at l4 (by simp)) (by simp; omega) (.inr rfl)
    · exact flat_ok1 trivial
    · exact lst_ok l6 (by simp; omega) (by simp) (fun y hm => by
        rw [List.mem_singleton.mp hm]
        exact ⟨by simp; omega, _, x6'.at l5 (by simp), fun c fs e => by cases e⟩)
  · have := (x1'.trans x16).len
    exact this
def sortS : MA := mCons (mC (.bl true)) (mCons (mC (.bl false)) (mCons (mC (.bl true)) (mCons (mC (.bl false)) (mCons (mC (.int 0)) (mCons (mC (.int 1)) (mCons (mC .non) (mCons (mC (.str [])) (mCons (mC (.str [115, 111, 114, 116, 115])) (mCons (mTup mNil) (mCons (mLst (mCons (mC (.bl true)) mNil)) (mCons (mMake 4 3 F_ToolD_initD mNil [.tup [], .bl false]) mNil)))))))))))
theorem sorts_ok {b g : Nat} {s : Sto} (env : Lo) (h : Bx b g s) : ∃ (q : Nat) (os : List Dt) (s' : Sto), mLst sortS env s = .ok (.ref q) s' ∧ s'[q]? = some (.lst os) ∧ os.length = 12 ∧ (∀ x ∈ os, Ok0 [b, g] s' x) ∧ Xm [] s s' ∧ s.length ≤ q := by
  have hlt := h.lt
  generalize hs1 : s ++ [Ob.lst [.bl true]] = s1
  have n1 : s1.length = s.length + 1 := by rw [← hs1, List.length_append]; rfl
  have x1' : Xm [] s s1 := by rw [← hs1]; exact Xm.app
  have l1 : s1[s.length]? = some (.lst [.bl true]) := by rw [← hs1]; exact app_last
  obtain ⟨ft, s2, e2, l2, x2⟩ := tool_make (M := []) (ma := mNil) (dv := [.tup [], .bl false]) (c := false) (a := .tup []) (env := env) (s := s1) (s1 := s1) (ds := []) rfl rfl (tup_ok (by decide) (by simp)) rfl
  generalize hod : [Dt.bl true, .bl false, .bl true, .bl false, .int 0, .int 1, .non, .str [], .str [115, 111, 114, 116, 115], .tup [], .ref s.length, .ref s1.length] = os
  have xe : Xm [] s2 (s2 ++ [.lst os]) := Xm.app
  refine ⟨s2.length, os, s2 ++ [.lst os], ?_, app_last, by rw [← hod]; rfl, ?_, (x1'.trans x2).trans xe, (x1'.trans x2).len⟩
  · unfold sortS
    rw [mLst_ok (mCons_ok rfl (mCons_ok rfl (mCons_ok rfl (mCons_ok rfl (mCons_ok rfl (mCons_ok rfl (mCons_ok rfl (mCons_ok rfl (mCons_ok rfl (mCons_ok (mTup_ok nil_any (by decide)) (mCons_ok (mLst_ok (mCons_ok rfl nil_any) (by simp)) (mCons_ok (by rw [hs1]; exact e2) nil_any)))))))))))) (by simp), hod]
  · intro x hx
    rw [← hod] at hx
    refine Ok0.keep ?_ xe.pure
    simp only [List.mem_cons, List.not_mem_nil, or_false] at hx
    rcases hx with rfl | rfl | rfl | rfl | rfl | rfl | rfl | rfl | rfl | rfl | rfl | rfl
    · trivial
    · trivial
    · trivial
    · trivial
    · trivial
    · trivial
    · trivial
    · show (0 : Nat) ≤ 40; decide
    · show (5 : Nat) ≤ 40; decide
    · trivial
    · exact ⟨by simp; omega, _, x2.at l1 (by simp), fun c fs e => by cases e⟩
    · exact ⟨by simp; omega, _, l2, fun c fs e => by cases e; exact .inr rfl⟩
end Law
set_option Elab.async false
set_option linter.all false
set_option maxRecDepth 100000
set_option maxHeartbeats 1000000
namespace Law
open PySem PySem.Spec PyProof.Rows L2 LT
local macro_rules | `(tactic| walk_at "lt") => `(tactic| simp only [sSeq, sIf, sRet, sSet, sAsg, gNm, sExpr, mVar, mC, mBin, mUn, mCons, mNil, mCB, mB, isB, mAnd, mOr, mNot, mAndV, mOrV, mNotV, mIf, mTup, mLst, mCall, mKey, mBM, mBM0, Re.bind, Re.on, List.set, List.getElem?_cons_zero, List.getElem?_cons_succ, if_true, if_false, Bool.false_eq_true, reduceIte, Bool.not_true, Bool.not_false, List.length_nil, List.length_cons])
def cOne : MS := sPar 8 9 (mCons (mCall 2 F_law_take (mCons (mVar 2) (mCons (mBin addD (mCB lenD (mCons (mVar 3) mNil)) (mC (.int 1))) mNil)) []) (mCons (mCall 2 F_law_pick (mCons (mVar 2) (mCons (mVar 4) mNil)) []) mNil))
def cTwo : MS := sSet 6 (mCall 2 F_law_pick (mCons (mVar 2) (mCons (mLst sortS) mNil)) [])
def cIns : ME := mBin addD (mBin addD (mSl slD (mVar 3) mNoPart (mPart (mVar 8))) (mLst (mCons (mVar 9) mNil))) (mSl slD (mVar 3) (mPart (mVar 8)) mNoPart)
def cVals : ME := mTup (mCons (mVar 3) (mCons (mCB tupleD (mCons (mVar 3) mNil)) (mCons cIns (mCons (mVar 9) (mCons (mTup (mCons (mVar 9) mNil)) mNil)))))
def cBody : MS := sSeq (sSet 10 (mIf (mB (mIsI (qB tBool [3, 4]) (mVar 6))) (mC (.str [109, 97, 100, 101])) (mC (.str [115, 111, 114, 116, 115])))) (sSeq (sSet 10 (mIf (mB (mCall 1 F_law_are_rows (mCons (mVar 7) mNil) [])) (mVar 10) (mC (.str [114, 111, 119, 115])))) (sIf (mB (mBin neD (mCall 2 F_law_part (mCons (mVar 7) (mCons (mVar 6) mNil)) []) (mVar 10))) (sRet (mC (.bl false))) sNx))
def cTurn : MS := sSeq cOne (sSeq cTwo (sFor (mIt cVals) (gNm 7) cBody))
def cTop : MS := sSeq (sSet 2 (mCall 2 F_law_feed (mCons (mVar 0) (mCons (mVar 1) mNil)) [])) (sSeq (sSet 3 (mLc (mIt (mBin ixD (mCall 2 F_law_tool (mCons (mVar 2) (mCons (mC (.int 6)) mNil)) []) (mC (.int 0)))) (gTp [11, 12]) mYes (mMake 3 3 F_RowD_initD (mCons (mVar 11) (mCons (mVar 12) mNil)) []) [11, 12])) (sSeq oddS (sFor (mRng (mCons (mC (.int 8)) mNil)) (gNm 5) cTurn)))
def cEnd : MS := sRet (mAndV (mBin eqD (mCall 2 F_law_part (mCons (mC .non) (mCons (mC .non) mNil)) []) (mC (.str [114, 111, 119, 115]))) (mAndV (mBin eqD (mCall 2 F_law_part (mCons (mLst mNil) (mCons (mC (.int 0)) mNil)) []) (mC (.str [115, 111, 114, 116, 115]))) (mBin eqD (mCall 2 F_law_part (mCons (mTup mNil) (mCons (mC (.bl true)) mNil)) []) (mC (.str [109, 97, 100, 101])))))
theorem m_law_eq : m_law = sSeq (sFor (mRng (mCons (mCB maxD (mCons (mC (.int 1)) (mCons (mCB minD (mCons (mC (.int 3)) (mCons (mCB lenD (mCons (mVar 0) mNil)) mNil))) mNil))) mNil)) (gNm 1) cTop) cEnd := rfl
theorem body_ok {M : List Nat} {s : Sto} {d x : Dt} (x0 x1 x2 x3 x4 x5 x8 x9 x10 x11 x12 : Option Dt) (hd : Ok0 M s d) (hx : Ok1 M s x) :
    ∃ (z : Option Dt) (s' : Sto), cBody [x0, x1, x2, x3, x4, x5, some d, some x, x8, x9, x10, x11, x12] s = .nx [x0, x1, x2, x3, x4, x5, some d, some x, x8, x9, z, x11, x12] s' ∧ Xm [] s s' := by
  obtain ⟨t, t1, _, t3⟩ := hd.kinds2
  have a1 : sSet 10 (mIf (mB (mIsI (qB tBool [3, 4]) (mVar 6))) (mC (.str [109, 97, 100, 101])) (mC (.str [115, 111, 114, 116, 115]))) [x0, x1, x2, x3, x4, x5, some d, some x, x8, x9, x10, x11, x12] s = .nx [x0, x1, x2, x3, x4, x5, some d, some x, x8, x9, some (.str (if isBl d then tMade else tSorts)), x11, x12] s := by
    rw [sSet, sAsg, mIf, mB, isI_ok (a := mVar 6) rfl t1 t3]
    cases isBl d <;> rfl
  obtain ⟨s1, e1, y1⟩ := are_ok hx
  have a2 : sSet 10 (mIf (mB (mCall 1 F_law_are_rows (mCons (mVar 7) mNil) [])) (mVar 10) (mC (.str [114, 111, 119, 115]))) [x0, x1, x2, x3, x4, x5, some d, some x, x8, x9, some (.str (if isBl d then tMade else tSorts)), x11, x12] s = .nx [x0, x1, x2, x3, x4, x5, some d, some x, x8, x9, some (.str (ans (allR s x) (isBl d))), x11, x12] s1 := by
    rw [sSet, sAsg, mIf, show mB (mCall 1 F_law_are_rows (mCons (mVar 7) mNil) []) [x0, x1, x2, x3, x4, x5, some d, some x, x8, x9, some (.str (if isBl d then tMade else tSorts)), x11, x12] s = .ok (allR s x) s1 by
      walk_at "lt"
      rw [List.append_nil, e1]]
    cases allR s x <;> rfl
  obtain ⟨s2, e2, y2⟩ := part_ok (hx.keep y1.pure) (hd.keep y1.pure)
  rw [allR_keep hx y1.pure] at e2
  refine ⟨some (.str (ans (allR s x) (isBl d))), s2, ?_, y1.trans y2⟩
  unfold cBody
  rw [sSeq, a1]
  simp only
  rw [sSeq, a2]
  simp only
  rw [sIf, show mB (mBin neD (mCall 2 F_law_part (mCons (mVar 7) (mCons (mVar 6) mNil)) []) (mVar 10)) [x0, x1, x2, x3, x4, x5, some d, some x, x8, x9, some (.str (ans (allR s x) (isBl d))), x11, x12] s1 = .ok false s2 by
    walk_at "lt"
    rw [List.append_nil, e2]
    simp only [neD_str, decide_true, Bool.not_true]]
  rfl
/-- what stands through the turns -/
structure St (b g r q : Nat) (ys odds : List Dt) (s : Sto) : Prop where
  bx : Bx b g s
  rw_ : s[r]? = some (.lst ys)
  od : s[q]? = some (.lst odds)
  ly : ys.length ≤ 6
  lo : odds.length = 12
  ky : ∀ y ∈ ys, Ok0 [b, g] s y
  ko : ∀ x ∈ odds, Ok1 [b, g] s x
  nr : r ≠ b ∧ r ≠ g
  nq : q ≠ b ∧ q ≠ g
theorem St.keep {b g r q : Nat} {ys odds : List Dt} {s s' : Sto} (h : St b g r q ys odds s) (x : Xm [b, g] s s') (hb : Bx b g s') : St b g r q ys odds s' :=
  ⟨hb, x.at h.rw_ (by simp [h.nr]), x.at h.od (by simp [h.nq]), h.ly, h.lo, fun y hy => (h.ky y hy).keep x, fun y hy => (h.ko y hy).keep x, h.nr, h.nq⟩
theorem vals_ok {b g r q : Nat} {ys odds : List Dt} {s : Sto} {v : Dt} {c : Int} (x0 x1 x4 x5 x6 x7 x10 x11 x12 : Option Dt) (h : St b g r q ys odds s) (hv : Ok1 [b, g] s v) :
    ∃ (n : Nat) (s' : Sto), cVals [x0, x1, some (.ref b), some (.ref r), x4, x5, x6, x7, some (.int c), some v, x10, x11, x12] s = .ok (.tup [.ref r, .tup ys, .ref n, v, .tup [v]]) s' ∧ Xm [] s s' ∧ Ok1 [b, g] s' (.ref n) := by
  have hlt := h.bx.lt
  have ly := h.ly
  generalize hA : cutL ys none (some c) = A
  generalize hB : cutL ys (some c) none = B
  have lA : A.length ≤ 6 := by rw [← hA]; exact Nat.le_trans (cutD_len _ _ _) ly
  have lB : B.length ≤ 6 := by rw [← hB]; exact Nat.le_trans (cutD_len _ _ _) ly
  generalize hs1 : s ++ [Ob.lst A] = s1
  have l1 : s1[s.length]? = some (.lst A) := by rw [← hs1]; exact app_last
  have x1' : Xm [] s s1 := by rw [← hs1]; exact Xm.app
  generalize hs2 : s1 ++ [Ob.lst [v]] = s2
  have l2 : s2[s1.length]? = some (.lst [v]) := by rw [← hs2]; exact app_last
  have x2' : Xm [] s1 s2 := by rw [← hs2]; exact Xm.app
  have k2 : s2[s.length]? = some (.lst A) := x2'.at l1 (by simp)
  generalize hs3 : s2 ++ [Ob.lst (A ++ [v])] = s3
  have l3 : s3[s2.length]? = some (.lst (A ++ [v])) := by rw [← hs3]; exact app_last
  have x3' : Xm [] s2 s3 := by rw [← hs3]; exact Xm.app
  have x03 := (x1'.trans x2').trans x3'
  have r3 : s3[r]? = some (.lst ys) := x03.at h.rw_ (by simp)
  generalize hs4 : s3 ++ [Ob.lst B] = s4
  have l4 : s4[s3.length]? = some (.lst B) := by rw [← hs4]; exact app_last
  have x4' : Xm [] s3 s4 := by rw [← hs4]; exact Xm.app
  have k4 : s4[s2.length]? = some (.lst (A ++ [v])) := x4'.at l3 (by simp)
  have x04 := x03.trans x4'
  have xe : Xm [] s4 (s4 ++ [.lst (A ++ [v] ++ B)]) := Xm.app
  have x0e := x04.trans xe
  have ins : cIns [x0, x1, some (.ref b), some (.ref r), x4, x5, x6, x7, some (.int c), some v, x10, x11, x12] s = .ok (.ref s4.length) (s4 ++ [.lst (A ++ [v] ++ B)]) := by
    unfold cIns
    have g2 : mSl slD (mVar 3) mNoPart (mPart (mVar 8)) [x0, x1, some (.ref b), some (.ref r), x4, x5, x6, x7, some (.int c), some v, x10, x11, x12] s = .ok (.ref s.length) s1 := by
      unfold mSl mPart mNoPart
      walk_at "lt"
      simp only [slD, h.rw_, hA, hs1]
    have g3 : mLst (mCons (mVar 9) mNil) [x0, x1, some (.ref b), some (.ref r), x4, x5, x6, x7, some (.int c), some v, x10, x11, x12] s1 = .ok (.ref s1.length) s2 := by
      rw [mLst_ok (mCons_ok rfl nil_any) (by simp), hs2]
    have g4 : mSl slD (mVar 3) (mPart (mVar 8)) mNoPart [x0, x1, some (.ref b), some (.ref r), x4, x5, x6, x7, some (.int c), some v, x10, x11, x12] s3 = .ok (.ref s3.length) s4 := by
      unfold mSl mPart mNoPart
      walk_at "lt"
      simp only [slD, r3, hB, hs4]
    rw [mBin, mBin, g2]
    simp only [Re.bind]
    rw [g3]
    simp only [addD, k2, l2]
    rw [if_pos (Nat.le_trans (by simp; omega : _ ≤ 30) (by decide)), hs3]
    simp only
    rw [g4]
    simp only [k4, l4]
    rw [if_pos (Nat.le_trans (by simp; omega : _ ≤ 30) (by decide))]
  refine ⟨s4.length, s4 ++ [.lst (A ++ [v] ++ B)], ?_, x0e, lst_ok app_last ?_ (by simp; omega) fun y hy => ?_⟩
  · unfold cVals
    exact mTup_ok (mCons_ok rfl (mCons_ok (by
      walk_at "lt"
      exact tupleD_seq (by simp only [seqD, h.rw_])) (mCons_ok ins (mCons_ok rfl (mCons_ok (mTup_ok (mCons_ok rfl nil_any) (by simp)) nil_any))))) (by simp)
  · have := x04.len
    simp
    omega
  · refine Ok0.keep (st := s) ?_ x0e.pure
    rcases List.mem_append.mp hy with z | z
    · rcases List.mem_append.mp z with z | z
      · rw [← hA] at z; exact h.ky y (mem_cut z)
      · rw [List.mem_singleton.mp z]; exact hv.1
    · rw [← hB] at z; exact h.ky y (mem_cut z)
theorem turn_ok {b g r q : Nat} {ys odds : List Dt} {s : Sto} (x0 x1 x5 x6 x7 x8 x9 x10 x11 x12 : Option Dt) (h : St b g r q ys odds s) :
    ∃ (z6 z7 z8 z9 z10 : Option Dt) (s' : Sto), cTurn [x0, x1, some (.ref b), some (.ref r), some (.ref q), x5, x6, x7, x8, x9, x10, x11, x12] s = .nx [x0, x1, some (.ref b), some (.ref r), some (.ref q), x5, z6, z7, z8, z9, z10, x11, x12] s' ∧ St b g r q ys odds s' := by
  have ly := h.ly
  obtain ⟨c, s1, e1, c0, c1, y1, h1⟩ := take_ok (wide := (ys.length : Int) + 1) h.bx (by omega) (by omega)
  have S1 := h.keep y1 h1
  obtain ⟨v, s2, e2, v2, y2, h2⟩ := pick_ok S1.bx S1.od S1.nq.1 S1.nq.2 (by rw [S1.lo]; decide) (by rw [S1.lo]; decide)
  have S2 := S1.keep y2 h2
  have hv2 : Ok1 [b, g] s2 v := (S1.ko v v2).keep y2
  have a1 : cOne [x0, x1, some (.ref b), some (.ref r), some (.ref q), x5, x6, x7, x8, x9, x10, x11, x12] s = .nx [x0, x1, some (.ref b), some (.ref r), some (.ref q), x5, x6, x7, some (.int c), some v, x10, x11, x12] s2 := by
    unfold cOne sPar
    walk_at "lt"
    simp only [lenD, seqD, h.rw_, addD, List.append_nil]
    rw [if_pos (by rfl), e1]
    simp only
    rw [e2]
  obtain ⟨p, os, s3, e3, l3, n3, k3, y3, p3⟩ := sorts_ok [x0, x1, some (.ref b), some (.ref r), some (.ref q), x5, x6, x7, some (.int c), some v, x10, x11, x12] S2.bx
  have hlt := S2.bx.lt
  have S3 := S2.keep y3.pure (S2.bx.keep y3)
  obtain ⟨d, s4, e4, d4, y4, h4⟩ := pick_ok S3.bx l3 (by omega) (by omega) (by rw [n3]; decide) (by rw [n3]; decide)
  have S4 := S3.keep y4 h4
  have hd4 : Ok0 [b, g] s4 d := (k3 d d4).keep y4
  have hv4 : Ok1 [b, g] s4 v := (hv2.keep y3.pure).keep y4
  have a2 : cTwo [x0, x1, some (.ref b), some (.ref r), some (.ref q), x5, x6, x7, some (.int c), some v, x10, x11, x12] s2 = .nx [x0, x1, some (.ref b), some (.ref r), some (.ref q), x5, some d, x7, some (.int c), some v, x10, x11, x12] s4 := by
    unfold cTwo
    rw [sSet, sAsg, mCall, mCons_ok (a := mVar 2) rfl (mCons_ok e3 nil_any)]
    simp only [Re.bind]
    rw [if_pos (by rfl), List.append_nil, e4]
    rfl
  obtain ⟨n, s5, e5, y5, k5⟩ := vals_ok (c := c) x0 x1 (some (.ref q)) x5 (some d) x7 x10 x11 x12 S4 hv4
  have S5 := S4.keep y5.pure (S4.bx.keep y5)
  have vs5 : ∀ x ∈ [Dt.ref r, .tup ys, .ref n, v, .tup [v]], Ok1 [b, g] s5 x := fun x hx => by
    simp only [List.mem_cons, List.not_mem_nil, or_false] at hx
    rcases hx with rfl | rfl | rfl | rfl | rfl
    · exact lst_ok S5.rw_ (by simp [S5.nr]) (by omega) S5.ky
    · exact tup_ok (by omega) S5.ky
    · exact k5
    · exact hv4.keep y5.pure
    · exact tup_ok (by simp) (fun y hy => by rw [List.mem_singleton.mp hy]; exact (hv4.keep y5.pure).1)
  have hw : mIt cVals [x0, x1, some (.ref b), some (.ref r), some (.ref q), x5, some d, x7, some (.int c), some v, x10, x11, x12] s4 = .ok (wTup [Dt.ref r, .tup ys, .ref n, v, .tup [v]]) s5 := by
    unfold mIt
    rw [e5]
    rfl
  generalize hvs : [Dt.ref r, .tup ys, .ref n, v, .tup [v]] = vals at vs5 hw
  obtain ⟨env', s6, f1, z7, z10, rfl, y6⟩ := forL_go (w := wTup vals) (g := gNm 7) (body := cBody) vals.length
    (fun i env s => ∃ (z7 z10 : Option Dt), env = [x0, x1, some (.ref b), some (.ref r), some (.ref q), x5, some d, z7, some (.int c), some v, z10, x11, x12] ∧ Xm [] s5 s)
    (fun _ _ _ => wTup_stop) (fun i env s hi hJ => by
      obtain ⟨z7, z10, rfl, xs⟩ := hJ
      have hc : vals[i]? = some vals[i] := List.getElem?_eq_getElem hi
      obtain ⟨z, s', g1, g2⟩ := body_ok x0 x1 (some (.ref b)) (some (.ref r)) (some (.ref q)) x5 (some (.int c)) (some v) z10 x11 x12 (hd4.keep (y5.trans xs).pure) ((vs5 vals[i] (List.getElem_mem hi)).keep xs.pure)
      exact ⟨_, wTup_item hc, [x0, x1, some (.ref b), some (.ref r), some (.ref q), x5, some d, some vals[i], some (.int c), some v, z10, x11, x12], s, rfl, _, s', .inl g1, some vals[i], z, rfl, xs.trans g2⟩)
    vals.length 0 _ s5 (by omega) ⟨x7, x10, rfl, Xm.refl⟩
  refine ⟨some d, z7, some (.int c), some v, z10, s6, ?_, S5.keep y6.pure (S5.bx.keep y6)⟩
  unfold cTurn
  rw [sSeq, a1]
  simp only
  rw [sSeq, a2]
  simp only
  rw [sFor, hw]
  exact f1
theorem end_ok {s : Sto} (env : Lo) : ∃ s', cEnd env s = .rt (.bl true) s' := by
  obtain ⟨s1, e1, y1⟩ := part_ok (M := []) (st := s) (a := .non) (d := .non) (flat_ok1 trivial) trivial
  have l2 : (s1 ++ [Ob.lst []])[s1.length]? = some (.lst []) := app_last
  obtain ⟨s2, e2, y2⟩ := part_ok (M := []) (st := s1 ++ [Ob.lst []]) (a := .ref s1.length) (d := .int 0) (lst_ok l2 (by simp) (by decide) (by simp)) trivial
  obtain ⟨s3, e3, y3⟩ := part_ok (M := []) (st := s2) (a := .tup []) (d := .bl true) (tup_ok (by decide) (by simp)) trivial
  rw [show allR (s1 ++ [Ob.lst []]) (.ref s1.length) = true by simp only [allR, seqD, l2]; rfl] at e2
  refine ⟨s3, ?_⟩
  unfold cEnd
  rw [sRet, mAndV, show mBin eqD (mCall 2 F_law_part (mCons (mC .non) (mCons (mC .non) mNil)) []) (mC (.str [114, 111, 119, 115])) env s = .ok (.bl true) s1 by
    walk_at "lt"
    rw [List.append_nil, e1]
    rfl]
  simp only [Re.bind]
  rw [mAndV, show mBin eqD (mCall 2 F_law_part (mCons (mLst mNil) (mCons (mC (.int 0)) mNil)) []) (mC (.str [115, 111, 114, 116, 115])) env s1 = .ok (.bl true) s2 by
    rw [mBin, mCall, mCons_ok (mLst_ok nil_any (by decide)) (mCons_ok rfl nil_any)]
    simp only [Re.bind]
    rw [if_pos (by rfl), List.append_nil, e2]
    rfl]
  simp only [Re.bind]
  rw [show mBin eqD (mCall 2 F_law_part (mCons (mTup mNil) (mCons (mC (.bl true)) mNil)) []) (mC (.str [109, 97, 100, 101])) env s2 = .ok (.bl true) s3 by
    rw [mBin, mCall, mCons_ok (mTup_ok nil_any (by decide)) (mCons_ok rfl nil_any)]
    simp only [Re.bind]
    rw [if_pos (by rfl), List.append_nil, e3]
    rfl]
  rfl
theorem law_true {ns : List Int} (hn : ns.length ≤ 63) : ∃ st', F_law [.rl (ns.map Dt.int)] [] = .ok (.bl true) st' := by
  rw [run_law, m_law_eq]
  have hk : ∃ k : Nat, 1 ≤ k ∧ k ≤ 3 ∧ mRng (mCons (mCB maxD (mCons (mC (.int 1)) (mCons (mCB minD (mCons (mC (.int 3)) (mCons (mCB lenD (mCons (mVar 0) mNil)) mNil))) mNil))) mNil) [some (.rl (ns.map Dt.int)), none, none, none, none, none, none, none, none, none, none, none, none] [] = .ok (wRng 0 k) [] := by
    refine ⟨((if (if ((ns.length : Int)) < 3 then (ns.length : Int) else 3) > 1 then (if ((ns.length : Int)) < 3 then (ns.length : Int) else 3) else 1) : Int).toNat, ?_, ?_, ?_⟩
    · split <;> split <;> omega
    · split <;> split <;> omega
    · unfold mRng
      walk_at "lt"
      simp only [lenD, seqD, minD, maxD, List.length_map, rngD]
      rw [if_pos (by split <;> split <;> omega)]
  obtain ⟨k, k1, k3, hw⟩ := hk
  rw [sSeq, sFor, hw]
  simp only [Re.on]
  obtain ⟨env', s', f1, z, rfl⟩ := forL_go (w := wRng 0 k) (g := gNm 1) (body := cTop) k (fun _ env s => ∃ z : Fin 12 → Option Dt, env = [some (.rl (ns.map Dt.int)), z 0, z 1, z 2, z 3, z 4, z 5, z 6, z 7, z 8, z 9, z 10, z 11])
    (fun _ _ _ => wRng_stop) (fun i env s hi hJ => by
      obtain ⟨z, rfl⟩ := hJ
      refine ⟨_, wRng_item hi, [some (.rl (ns.map Dt.int)), some (.int (0 + (i : Int))), z 1, z 2, z 3, z 4, z 5, z 6, z 7, z 8, z 9, z 10, z 11], s, rfl, ?_⟩
      obtain ⟨b, g, s1, e1, _, h1, _, _⟩ := feed_ok (st := s) (base := 0 + (i : Int)) hn (by omega) (by omega)
      unfold cTop
      have c1 : sSet 2 (mCall 2 F_law_feed (mCons (mVar 0) (mCons (mVar 1) mNil)) []) [some (.rl (ns.map Dt.int)), some (.int (0 + (i : Int))), z 1, z 2, z 3, z 4, z 5, z 6, z 7, z 8, z 9, z 10, z 11] s = .nx [some (.rl (ns.map Dt.int)), some (.int (0 + (i : Int))), some (.ref b), z 2, z 3, z 4, z 5, z 6, z 7, z 8, z 9, z 10, z 11] s1 := by
        walk_at "lt"
        rw [List.append_nil, e1]
      rw [sSeq, c1]
      simp only
      obtain ⟨r, ys, s2, e2, l2, n2, h2, x2, rb, rg, p2⟩ := rows_ok (some (.rl (ns.map Dt.int))) (some (.int (0 + (i : Int)))) (z 2) (z 3) (z 4) (z 5) (z 6) (z 7) (z 8) (z 9) (z 10) (z 11) h1
      rw [sSeq, sSet, sAsg, e2]
      simp only [Re.on, gNm, List.set]
      obtain ⟨q, odds, s3, e3, l3, n3, k3', x3, q3⟩ := odd_ok (some (.rl (ns.map Dt.int))) (some (.int (0 + (i : Int)))) (z 3) (z 4) (z 5) (z 6) (z 7) (z 8) (z 9) (z 10) (z 11) h2 l2 rb rg n2 p2
      rw [sSeq, e3]
      simp only
      have hlt := h2.lt
      have S3 : St b g r q ys odds s3 := ⟨h2.keep x3, x3.at l2 (by simp), l3, n2, n3, fun y hy => (p2 y hy).1.keep x3.pure, k3', ⟨rb, rg⟩, by omega, by omega⟩
      obtain ⟨env2, s4, f2, ⟨y, rfl⟩, S4⟩ := forL_go (w := wRng 0 8) (g := gNm 5) (body := cTurn) 8 (fun _ env s => (∃ y : Fin 8 → Option Dt, env = [some (.rl (ns.map Dt.int)), some (.int (0 + (i : Int))), some (.ref b), some (.ref r), some (.ref q), y 0, y 1, y 2, y 3, y 4, y 5, y 6, y 7]) ∧ St b g r q ys odds s)
        (fun _ _ _ => wRng_stop) (fun j env s hj hJ => by
          obtain ⟨⟨y, rfl⟩, S⟩ := hJ
          refine ⟨_, wRng_item hj, [some (.rl (ns.map Dt.int)), some (.int (0 + (i : Int))), some (.ref b), some (.ref r), some (.ref q), some (.int (0 + (j : Int))), y 1, y 2, y 3, y 4, y 5, y 6, y 7], s, rfl, ?_⟩
          obtain ⟨z6, z7, z8, z9, z10, s5, e5, S5⟩ := turn_ok (some (.rl (ns.map Dt.int))) (some (.int (0 + (i : Int)))) (some (.int (0 + (j : Int)))) (y 1) (y 2) (y 3) (y 4) (y 5) (y 6) (y 7) S
          exact ⟨_, s5, .inl e5, ⟨fun k => match k with | 0 => some (.int (0 + (j : Int))) | 1 => z6 | 2 => z7 | 3 => z8 | 4 => z9 | 5 => z10 | 6 => y 6 | 7 => y 7, rfl⟩, S5⟩)
        8 0 _ s3 rfl ⟨⟨fun k => match k with | 0 => z 4 | 1 => z 5 | 2 => z 6 | 3 => z 7 | 4 => z 8 | 5 => z 9 | 6 => z 10 | 7 => z 11, rfl⟩, S3⟩
      exact ⟨_, s4, .inl f2, fun k => match k with | 0 => some (.int (0 + (i : Int))) | 1 => some (.ref b) | 2 => some (.ref r) | 3 => some (.ref q) | 4 => y 0 | 5 => y 1 | 6 => y 2 | 7 => y 3 | 8 => y 4 | 9 => y 5 | 10 => y 6 | 11 => y 7, rfl⟩)
    k 0 _ [] (by omega) ⟨fun _ => none, rfl⟩
  rw [show (wRng 0 k).fuel = k + 1 from rfl, f1]
  simp only
  obtain ⟨s9, e9⟩ := end_ok (s := s') [some (.rl (ns.map Dt.int)), z 0, z 1, z 2, z 3, z 4, z 5, z 6, z 7, z 8, z 9, z 10, z 11]
  exact ⟨s9, by rw [e9]; rfl⟩
end Law
set_option Elab.async false
set_option linter.all false
set_option maxRecDepth 100000
set_option maxHeartbeats 4000000
namespace Law
open PySem PySem.Spec PyProof.Rows L2 LT
section
variable {P : Program} {w : World} {K : PySem.W.Frag} {mg : Str → Option Value} {base : Heap}
abbrev st_InvalidRowD_initD : Stmt := inClass (topS 3) 0
theorem sc_InvalidRowD_initD : FnScope ["self", "part"] ["self", "part"] (defScope st_InvalidRowD_initD) := ⟨rfl, rfl, rfl, by decide +kernel, rfl, by decide +kernel, by decide +kernel⟩
theorem ok_InvalidRowD_initD {f C0 : Addr} {fd : FuncData} (F : Fun K "__init__" "InvalidRow.__init__" st_InvalidRowD_initD f fd) (hm : mg "LayError" = some (.ref C0)) (hga : PySem.W.specialIn K (.ref C0) "__getattribute__" = some (some (.builtin "type.__getattribute__"))) (hrd : PySem.W.readsIn K C0 (.type "type") = true) (hty : PySem.W.typeIn K (.ref C0) = some (.type "type")) (vV : PySem.W.findCls K (.ref C0) (.type "type") "__init__" = some (.val (.builtin "ValueError.__init__"))) : FnOk P w K mg base (L2.CX P w) 1 f fd ["self", "part"] (spErr K "part") := by
  refine F.okX sc_InvalidRowD_initD (fun vs H Q E h => ?_) (fun cdv A outer s H vs Q E hr h => ?_)
  · obtain ⟨a, C, v, rfl, _⟩ := h
    rfl
  · obtain ⟨a, C, v, rfl, hT, hno, ha, k⟩ := h
    refine ⟨_, pss_cons (ps_expr (pe_binit rfl hm hga hrd hty vV (pa_cons (pv 0) (pa_cons pe_str pa_nil)))) (pss_one (ps_ost (pv 0) (pv 1))), ?_⟩
    exact ⟨_, rfl, a, C, _, rfl, by decide, hT, ha, _, rfl, _, rfl, a, C, rfl, hT, hno, .inl ⟨ha, fun dx hx hne => k dx hx hne⟩⟩
end
def tblF : List Str := ["part", "at", "tests", "deeds", "rows", "sorts"]
def tabT (C_LayError C_InvalidRow C_InvalidTool C_Row C_Tool : Addr) : Tb := ⟨fun i => match i with | 0 => C_LayError | 1 => C_InvalidRow | 2 => C_InvalidTool | 3 => C_Row | _ => C_Tool, mkFld tblF, mkFld_inj (by decide +kernel)⟩
theorem all_mk {l : PySem.W.OpenLaw} {w : World} {K : PySem.W.Frag} {h : Heap} {mg : Str → Option Value} {fa : Addr} (X : K.In h) (G : h.Ns mainGlobals mg) (hfa : mg "law" = some (.ref fa))
    {C_LayError C_InvalidRow C_InvalidTool C_Row C_Tool A_TESTS A_DEEDS xN_InvalidRow fE_InvalidRow f_is_sequence f_is_word f_is_test f_RowD_initD fd_RowD_initD ft0_RowD_initD ft1_RowD_initD f_ToolD_initD fd_ToolD_initD ft0_ToolD_initD f_law_feed f_law_take f_law_pick f_law_mixed f_law_tests f_law_deeds f_law_usual f_law_tool f_law_part f_law_are_rows f_law : Addr} {t_NOT : Tok} {q_TESTS q_DEEDS xdd_InvalidRow eod_InvalidRow ean_InvalidRow od_is_sequence an_is_sequence od_is_word an_is_word od_is_test an_is_test od_RowD_initD an_RowD_initD fq_RowD_initD fq0_RowD_initD fq1_RowD_initD od_ToolD_initD an_ToolD_initD fq_ToolD_initD fq0_ToolD_initD od_law_feed an_law_feed od_law_take an_law_take od_law_pick an_law_pick od_law_mixed an_law_mixed od_law_tests an_law_tests od_law_deeds an_law_deeds od_law_usual an_law_usual od_law_tool an_law_tool od_law_part an_law_part od_law_are_rows an_law_are_rows od_law an_law : Option Addr} {i_TESTS i_DEEDS : Array Value} {m_TESTS m_DEEDS fn_RowD_initD fn0_RowD_initD fn1_RowD_initD fn_ToolD_initD fn0_ToolD_initD : Nat} {s_TESTS s_DEEDS esl_InvalidRow sl_is_sequence sl_is_word sl_is_test sl_RowD_initD fs_RowD_initD fs0_RowD_initD fs1_RowD_initD sl_ToolD_initD fs_ToolD_initD fs0_ToolD_initD sl_law_feed sl_law_take sl_law_pick sl_law_mixed sl_law_tests sl_law_deeds sl_law_usual sl_law_tool sl_law_part sl_law_are_rows sl_law : Array (Option Value)} {xn_InvalidRow xq_InvalidRow : Str} {xbs_InvalidRow xbm_InvalidRow xsub_InvalidRow : List Value} {xsn_InvalidRow : List Str} {xab_InvalidRow : Bool} {xcol_InvalidRow : Option Bool} {x0_InvalidRow x1_InvalidRow x2_InvalidRow x3_InvalidRow x5_InvalidRow : Option Value} {eoc_InvalidRow ekV_InvalidRow edc_InvalidRow epm_InvalidRow ecd_InvalidRow ect_InvalidRow oc_is_sequence kV_is_sequence dc_is_sequence pm_is_sequence cd_is_sequence ct_is_sequence oc_is_word kV_is_word dc_is_word pm_is_word cd_is_word ct_is_word oc_is_test kV_is_test dc_is_test pm_is_test cd_is_test ct_is_test oc_RowD_initD kV_RowD_initD dc_RowD_initD pm_RowD_initD cd_RowD_initD ct_RowD_initD oc_ToolD_initD kV_ToolD_initD dc_ToolD_initD pm_ToolD_initD cd_ToolD_initD ct_ToolD_initD oc_law_feed kV_law_feed dc_law_feed pm_law_feed cd_law_feed ct_law_feed oc_law_take kV_law_take dc_law_take pm_law_take cd_law_take ct_law_take oc_law_pick kV_law_pick dc_law_pick pm_law_pick cd_law_pick ct_law_pick oc_law_mixed kV_law_mixed dc_law_mixed pm_law_mixed cd_law_mixed ct_law_mixed oc_law_tests kV_law_tests dc_law_tests pm_law_tests cd_law_tests ct_law_tests oc_law_deeds kV_law_deeds dc_law_deeds pm_law_deeds cd_law_deeds ct_law_deeds oc_law_usual kV_law_usual dc_law_usual pm_law_usual cd_law_usual ct_law_usual oc_law_tool kV_law_tool dc_law_tool pm_law_tool cd_law_tool ct_law_tool oc_law_part kV_law_part dc_law_part pm_law_part cd_law_part ct_law_part oc_law_are_rows kV_law_are_rows dc_law_are_rows pm_law_are_rows cd_law_are_rows ct_law_are_rows oc_law kV_law dc_law pm_law cd_law ct_law : Value}
    (aC_LayError : PySem.W.nsIn K mainGlobals "LayError" = some (some (.ref C_LayError)))
    (aC_InvalidRow : PySem.W.nsIn K mainGlobals "InvalidRow" = some (some (.ref C_InvalidRow)))
    (aC_InvalidTool : PySem.W.nsIn K mainGlobals "InvalidTool" = some (some (.ref C_InvalidTool)))
    (aC_Row : PySem.W.nsIn K mainGlobals "Row" = some (some (.ref C_Row)))
    (aC_Tool : PySem.W.nsIn K mainGlobals "Tool" = some (some (.ref C_Tool)))
    (z_abs : PySem.W.nsIn K mainGlobals "abs" = some none)
    (z_all : PySem.W.nsIn K mainGlobals "all" = some none)
    (z_bool : PySem.W.nsIn K mainGlobals "bool" = some none)
    (z_int : PySem.W.nsIn K mainGlobals "int" = some none)
    (z_isinstance : PySem.W.nsIn K mainGlobals "isinstance" = some none)
    (z_len : PySem.W.nsIn K mainGlobals "len" = some none)
    (z_list : PySem.W.nsIn K mainGlobals "list" = some none)
    (z_max : PySem.W.nsIn K mainGlobals "max" = some none)
    (z_min : PySem.W.nsIn K mainGlobals "min" = some none)
    (z_range : PySem.W.nsIn K mainGlobals "range" = some none)
    (z_str : PySem.W.nsIn K mainGlobals "str" = some none)
    (z_tuple : PySem.W.nsIn K mainGlobals "tuple" = some none)
    (n_NOT : PySem.W.nsIn K mainGlobals "NOT" = some (some (.str "not " t_NOT)))
    (n_TESTS : PySem.W.nsIn K mainGlobals "TESTS" = some (some (.ref A_TESTS)))
    (l_TESTS : K.lookup A_TESTS = some ⟨.type "tuple", q_TESTS, .seq i_TESTS m_TESTS, s_TESTS⟩)
    (y_TESTS : i_TESTS.size ≤ sizeLine)
    (w_TESTS : strVs i_TESTS.toList = some (["broken", "marked", "left", "ahead", "behind", "blank", "long", "first", "afterbroken", "afterbehind"] : List Str))
    (n_DEEDS : PySem.W.nsIn K mainGlobals "DEEDS" = some (some (.ref A_DEEDS)))
    (l_DEEDS : K.lookup A_DEEDS = some ⟨.type "tuple", q_DEEDS, .seq i_DEEDS m_DEEDS, s_DEEDS⟩)
    (y_DEEDS : i_DEEDS.size ≤ sizeLine)
    (w_DEEDS : strVs i_DEEDS.toList = some (["break", "join", "mark", "unmark", "lift", "lower", "space", "close"] : List Str))
    (pg_Row : PySem.W.plainGet K C_Row Str.empty = true)
    (hd_Row : PySem.W.hasDictIn K C_Row = true)
    (po_Row : PySem.W.plainOver K C_Row = true)
    (sa_Row : PySem.W.findIn K (.ref C_Row) "__setattr__" = some (some (.builtin "object.__setattr__")))
    (mk_Row : PySem.W.makesIn K C_Row = true)
    (kc_Row : PySem.W.keepIn K (.ref C_Row) = true)
    (pg_Tool : PySem.W.plainGet K C_Tool Str.empty = true)
    (hd_Tool : PySem.W.hasDictIn K C_Tool = true)
    (po_Tool : PySem.W.plainOver K C_Tool = true)
    (sa_Tool : PySem.W.findIn K (.ref C_Tool) "__setattr__" = some (some (.builtin "object.__setattr__")))
    (mk_Tool : PySem.W.makesIn K C_Tool = true)
    (kc_Tool : PySem.W.keepIn K (.ref C_Tool) = true)
    (ca_Row : PySem.W.findIn K (.ref C_Row) "__class__" = some (some (.builtin "object.__class__")))
    (cn_Row : PySem.W.specialIn K (.builtin "object.__class__") "__get__" = some (some (.builtin "getset_descriptor.__get__")))
    (ct_Row : PySem.W.takesIn K (.builtin "object.__class__") = some true)
    (cm_Row : PySem.W.mroIn K C_Row (.type "object") = some true)
    (ca_Tool : PySem.W.findIn K (.ref C_Tool) "__class__" = some (some (.builtin "object.__class__")))
    (cn_Tool : PySem.W.specialIn K (.builtin "object.__class__") "__get__" = some (some (.builtin "getset_descriptor.__get__")))
    (ct_Tool : PySem.W.takesIn K (.builtin "object.__class__") = some true)
    (cm_Tool : PySem.W.mroIn K C_Tool (.type "object") = some true)
    (sb_tuple_Row : PySem.W.subIn K (.ref C_Row) (.type "tuple") = some false)
    (sb_list_Row : PySem.W.subIn K (.ref C_Row) (.type "list") = some false)
    (sb_tuple_Tool : PySem.W.subIn K (.ref C_Tool) (.type "tuple") = some false)
    (sb_list_Tool : PySem.W.subIn K (.ref C_Tool) (.type "list") = some false)
    (sb_str_Row : PySem.W.subIn K (.ref C_Row) (.type "str") = some false)
    (sb_str_Tool : PySem.W.subIn K (.ref C_Tool) (.type "str") = some false)
    (sb_bool_Row : PySem.W.subIn K (.ref C_Row) (.type "bool") = some false)
    (sb_bool_Tool : PySem.W.subIn K (.ref C_Tool) (.type "bool") = some false)
    (ic_Row : PySem.W.isClsIn K C_Row = true)
    (ty_Row : PySem.W.typeIn K (.ref C_Row) = some (.type "type"))
    (oo_Row : PySem.W.subIn K (.ref C_Row) (.ref C_Row) = some true)
    (so_Tool_Row : PySem.W.subIn K (.ref C_Tool) (.ref C_Row) = some false)
    (nqo_Tool_Row : C_Tool ≠ C_Row)
    (bo_NoneType_Row : PySem.W.subIn K (.type "NoneType") (.ref C_Row) = some false)
    (bo_bool_Row : PySem.W.subIn K (.type "bool") (.ref C_Row) = some false)
    (bo_int_Row : PySem.W.subIn K (.type "int") (.ref C_Row) = some false)
    (bo_str_Row : PySem.W.subIn K (.type "str") (.ref C_Row) = some false)
    (bo_tuple_Row : PySem.W.subIn K (.type "tuple") (.ref C_Row) = some false)
    (bo_list_Row : PySem.W.subIn K (.type "list") (.ref C_Row) = some false)
    (bo_dict_Row : PySem.W.subIn K (.type "dict") (.ref C_Row) = some false)
    (no_tests_Row : PySem.W.findIn K (.ref C_Row) "tests" = some none)
    (no_deeds_Row : PySem.W.findIn K (.ref C_Row) "deeds" = some none)
    (no_rows_Tool : PySem.W.findIn K (.ref C_Tool) "rows" = some none)
    (no_sorts_Tool : PySem.W.findIn K (.ref C_Tool) "sorts" = some none)
    (xL_InvalidRow : K.lookup C_InvalidRow = some (excClassObj xn_InvalidRow xq_InvalidRow C_InvalidRow xN_InvalidRow xbs_InvalidRow xbm_InvalidRow true xsn_InvalidRow xsub_InvalidRow xab_InvalidRow xcol_InvalidRow xdd_InvalidRow x0_InvalidRow x1_InvalidRow x2_InvalidRow x3_InvalidRow x5_InvalidRow "ValueError.__new__"))
    (xr_InvalidRow : PySem.HandSPX.refsVE xbm_InvalidRow = true)
    (esa_InvalidRow : PySem.W.findIn K (.ref C_InvalidRow) "__setattr__" = some (some (.builtin "object.__setattr__")))
    (eex_InvalidRow : PySem.W.subIn K (.ref C_InvalidRow) (.type "BaseException") = some true)
    (ety_InvalidRow : PySem.W.typeIn K (.ref C_InvalidRow) = some (.type "type"))
    (ekc_InvalidRow : PySem.W.keepIn K (.ref C_InvalidRow) = true)
    (eno_InvalidRow : PySem.W.findIn K (.ref C_InvalidRow) "part" = some none)
    (ea_InvalidRow : PySem.W.findIn K (.ref C_InvalidRow) "__init__" = some (some (.ref fE_InvalidRow)))
    (et_InvalidRow : PySem.W.typeIn K (.ref fE_InvalidRow) = some (.type "function"))
    (el_InvalidRow : K.lookup fE_InvalidRow = some ⟨eoc_InvalidRow, eod_InvalidRow, .func (PySem.W.fnOf "__init__" "InvalidRow.__init__" (defArgs st_InvalidRowD_initD) (defBody st_InvalidRowD_initD) (defScope st_InvalidRowD_initD) .none ekV_InvalidRow edc_InvalidRow epm_InvalidRow ean_InvalidRow ecd_InvalidRow ect_InvalidRow), esl_InvalidRow⟩)
    (ec_InvalidRow : PySem.W.codeIn K ecd_InvalidRow "InvalidRow.__init__" = true)
    (ek_InvalidRow : PySem.W.keepIn K (.ref fE_InvalidRow) = true)
    (bga : PySem.W.specialIn K (.ref C_LayError) "__getattribute__" = some (some (.builtin "type.__getattribute__")))
    (brd : PySem.W.readsIn K C_LayError (.type "type") = true)
    (bty : PySem.W.typeIn K (.ref C_LayError) = some (.type "type"))
    (bvV : PySem.W.findCls K (.ref C_LayError) (.type "type") "__init__" = some (.val (.builtin "ValueError.__init__")))
    (ic_InvalidRow : PySem.W.isClsIn K C_InvalidRow = true)
    (ty_InvalidRow : PySem.W.typeIn K (.ref C_InvalidRow) = some (.type "type"))
    (ic_LayError : PySem.W.isClsIn K C_LayError = true)
    (ty_LayError : PySem.W.typeIn K (.ref C_LayError) = some (.type "type"))
    (ic_InvalidTool : PySem.W.isClsIn K C_InvalidTool = true)
    (ty_InvalidTool : PySem.W.typeIn K (.ref C_InvalidTool) = some (.type "type"))
    (xb_Su_law_part_InvalidRow : PySem.W.subIn K (.ref C_InvalidRow) (.type "BaseException") = some true)
    (sx_Su_law_part_InvalidRow : PySem.W.subIn K (.ref C_InvalidRow) (.ref C_InvalidRow) = some true)
    (hg_Su_law_part_InvalidRow : PySem.W.findIn K (.ref C_InvalidRow) "__getattribute__" = some (some (.builtin "BaseException.__getattribute__")))
    (hk_Su_law_part_InvalidRow : PySem.W.findIn K (.ref C_InvalidRow) "__getattr__" = some none)
    (hs_Su_law_part_InvalidRow : PySem.W.subIn K (.ref C_InvalidRow) (.type "BaseException") = some true)
    (hd_Su_law_part_InvalidRow : PySem.W.hasDictIn K C_InvalidRow = true)
    (ha_Su_law_part_InvalidRow : PySem.W.findIn K (.ref C_InvalidRow) "__class__" = some (some (.builtin "object.__class__")))
    (hn_Su_law_part_InvalidRow : PySem.W.specialIn K (.builtin "object.__class__") "__get__" = some (some (.builtin "getset_descriptor.__get__")))
    (ht_Su_law_part_InvalidRow : PySem.W.takesIn K (.builtin "object.__class__") = some true)
    (hm_Su_law_part_InvalidRow : PySem.W.mroIn K C_InvalidRow (.type "object") = some true)
    (no_Su_law_part_InvalidRow : PySem.W.findIn K (.ref C_InvalidRow) "part" = some none)
    (sA_Su_law_part_InvalidRow : PySem.W.subIn K (.ref C_InvalidRow) (.ref C_LayError) = some true)
    (sB_Su_law_part_InvalidRow : PySem.W.subIn K (.ref C_InvalidRow) (.ref C_InvalidTool) = some false)
    (nqB_Su_law_part_InvalidRow : C_InvalidRow ≠ C_InvalidTool)
    (a_is_sequence : PySem.W.nsIn K mainGlobals "is_sequence" = some (some (.ref f_is_sequence)))
    (l_is_sequence : K.lookup f_is_sequence = some ⟨oc_is_sequence, od_is_sequence, .func (PySem.W.fnOf "is_sequence" "is_sequence" (defArgs st_is_sequence) (defBody st_is_sequence) (defScope st_is_sequence) .none kV_is_sequence dc_is_sequence pm_is_sequence an_is_sequence cd_is_sequence ct_is_sequence), sl_is_sequence⟩)
    (c_is_sequence : PySem.W.codeIn K cd_is_sequence "is_sequence" = true)
    (k_is_sequence : PySem.W.keepIn K (.ref f_is_sequence) = true)
    (a_is_word : PySem.W.nsIn K mainGlobals "is_word" = some (some (.ref f_is_word)))
    (l_is_word : K.lookup f_is_word = some ⟨oc_is_word, od_is_word, .func (PySem.W.fnOf "is_word" "is_word" (defArgs st_is_word) (defBody st_is_word) (defScope st_is_word) .none kV_is_word dc_is_word pm_is_word an_is_word cd_is_word ct_is_word), sl_is_word⟩)
    (c_is_word : PySem.W.codeIn K cd_is_word "is_word" = true)
    (k_is_word : PySem.W.keepIn K (.ref f_is_word) = true)
    (a_is_test : PySem.W.nsIn K mainGlobals "is_test" = some (some (.ref f_is_test)))
    (l_is_test : K.lookup f_is_test = some ⟨oc_is_test, od_is_test, .func (PySem.W.fnOf "is_test" "is_test" (defArgs st_is_test) (defBody st_is_test) (defScope st_is_test) .none kV_is_test dc_is_test pm_is_test an_is_test cd_is_test ct_is_test), sl_is_test⟩)
    (c_is_test : PySem.W.codeIn K cd_is_test "is_test" = true)
    (k_is_test : PySem.W.keepIn K (.ref f_is_test) = true)
    (a_RowD_initD : PySem.W.findIn K (.ref C_Row) "__init__" = some (some (.ref f_RowD_initD)))
    (i_RowD_initD : PySem.W.isFn K (.ref f_RowD_initD) = true)
    (l_RowD_initD : K.lookup f_RowD_initD = some ⟨oc_RowD_initD, od_RowD_initD, .func (PySem.W.fnOf "__init__" "Row.__init__" (defArgs st_RowD_initD) (defBody st_RowD_initD) (defScope st_RowD_initD) (.ref fd_RowD_initD) kV_RowD_initD dc_RowD_initD pm_RowD_initD an_RowD_initD cd_RowD_initD ct_RowD_initD), sl_RowD_initD⟩)
    (c_RowD_initD : PySem.W.codeIn K cd_RowD_initD "Row.__init__" = true)
    (k_RowD_initD : PySem.W.keepIn K (.ref f_RowD_initD) = true)
    (d_RowD_initD : K.lookup fd_RowD_initD = some ⟨.type "tuple", fq_RowD_initD, .seq #[.ref ft0_RowD_initD, .ref ft1_RowD_initD] fn_RowD_initD, fs_RowD_initD⟩)
    (fl0_RowD_initD : K.lookup ft0_RowD_initD = some ⟨.type "tuple", fq0_RowD_initD, .seq #[] fn0_RowD_initD, fs0_RowD_initD⟩)
    (fl1_RowD_initD : K.lookup ft1_RowD_initD = some ⟨.type "tuple", fq1_RowD_initD, .seq #[] fn1_RowD_initD, fs1_RowD_initD⟩)
    (a_ToolD_initD : PySem.W.findIn K (.ref C_Tool) "__init__" = some (some (.ref f_ToolD_initD)))
    (i_ToolD_initD : PySem.W.isFn K (.ref f_ToolD_initD) = true)
    (l_ToolD_initD : K.lookup f_ToolD_initD = some ⟨oc_ToolD_initD, od_ToolD_initD, .func (PySem.W.fnOf "__init__" "Tool.__init__" (defArgs st_ToolD_initD) (defBody st_ToolD_initD) (defScope st_ToolD_initD) (.ref fd_ToolD_initD) kV_ToolD_initD dc_ToolD_initD pm_ToolD_initD an_ToolD_initD cd_ToolD_initD ct_ToolD_initD), sl_ToolD_initD⟩)
    (c_ToolD_initD : PySem.W.codeIn K cd_ToolD_initD "Tool.__init__" = true)
    (k_ToolD_initD : PySem.W.keepIn K (.ref f_ToolD_initD) = true)
    (d_ToolD_initD : K.lookup fd_ToolD_initD = some ⟨.type "tuple", fq_ToolD_initD, .seq #[.ref ft0_ToolD_initD, .bool false] fn_ToolD_initD, fs_ToolD_initD⟩)
    (fl0_ToolD_initD : K.lookup ft0_ToolD_initD = some ⟨.type "tuple", fq0_ToolD_initD, .seq #[] fn0_ToolD_initD, fs0_ToolD_initD⟩)
    (a_law_feed : PySem.W.nsIn K mainGlobals "_law_feed" = some (some (.ref f_law_feed)))
    (l_law_feed : K.lookup f_law_feed = some ⟨oc_law_feed, od_law_feed, .func (PySem.W.fnOf "_law_feed" "_law_feed" (defArgs st_law_feed) (defBody st_law_feed) (defScope st_law_feed) .none kV_law_feed dc_law_feed pm_law_feed an_law_feed cd_law_feed ct_law_feed), sl_law_feed⟩)
    (c_law_feed : PySem.W.codeIn K cd_law_feed "_law_feed" = true)
    (k_law_feed : PySem.W.keepIn K (.ref f_law_feed) = true)
    (a_law_take : PySem.W.nsIn K mainGlobals "_law_take" = some (some (.ref f_law_take)))
    (l_law_take : K.lookup f_law_take = some ⟨oc_law_take, od_law_take, .func (PySem.W.fnOf "_law_take" "_law_take" (defArgs st_law_take) (defBody st_law_take) (defScope st_law_take) .none kV_law_take dc_law_take pm_law_take an_law_take cd_law_take ct_law_take), sl_law_take⟩)
    (c_law_take : PySem.W.codeIn K cd_law_take "_law_take" = true)
    (k_law_take : PySem.W.keepIn K (.ref f_law_take) = true)
    (a_law_pick : PySem.W.nsIn K mainGlobals "_law_pick" = some (some (.ref f_law_pick)))
    (l_law_pick : K.lookup f_law_pick = some ⟨oc_law_pick, od_law_pick, .func (PySem.W.fnOf "_law_pick" "_law_pick" (defArgs st_law_pick) (defBody st_law_pick) (defScope st_law_pick) .none kV_law_pick dc_law_pick pm_law_pick an_law_pick cd_law_pick ct_law_pick), sl_law_pick⟩)
    (c_law_pick : PySem.W.codeIn K cd_law_pick "_law_pick" = true)
    (k_law_pick : PySem.W.keepIn K (.ref f_law_pick) = true)
    (a_law_mixed : PySem.W.nsIn K mainGlobals "_law_mixed" = some (some (.ref f_law_mixed)))
    (l_law_mixed : K.lookup f_law_mixed = some ⟨oc_law_mixed, od_law_mixed, .func (PySem.W.fnOf "_law_mixed" "_law_mixed" (defArgs st_law_mixed) (defBody st_law_mixed) (defScope st_law_mixed) .none kV_law_mixed dc_law_mixed pm_law_mixed an_law_mixed cd_law_mixed ct_law_mixed), sl_law_mixed⟩)
    (c_law_mixed : PySem.W.codeIn K cd_law_mixed "_law_mixed" = true)
    (k_law_mixed : PySem.W.keepIn K (.ref f_law_mixed) = true)
    (a_law_tests : PySem.W.nsIn K mainGlobals "_law_tests" = some (some (.ref f_law_tests)))
    (l_law_tests : K.lookup f_law_tests = some ⟨oc_law_tests, od_law_tests, .func (PySem.W.fnOf "_law_tests" "_law_tests" (defArgs st_law_tests) (defBody st_law_tests) (defScope st_law_tests) .none kV_law_tests dc_law_tests pm_law_tests an_law_tests cd_law_tests ct_law_tests), sl_law_tests⟩)
    (c_law_tests : PySem.W.codeIn K cd_law_tests "_law_tests" = true)
    (k_law_tests : PySem.W.keepIn K (.ref f_law_tests) = true)
    (a_law_deeds : PySem.W.nsIn K mainGlobals "_law_deeds" = some (some (.ref f_law_deeds)))
    (l_law_deeds : K.lookup f_law_deeds = some ⟨oc_law_deeds, od_law_deeds, .func (PySem.W.fnOf "_law_deeds" "_law_deeds" (defArgs st_law_deeds) (defBody st_law_deeds) (defScope st_law_deeds) .none kV_law_deeds dc_law_deeds pm_law_deeds an_law_deeds cd_law_deeds ct_law_deeds), sl_law_deeds⟩)
    (c_law_deeds : PySem.W.codeIn K cd_law_deeds "_law_deeds" = true)
    (k_law_deeds : PySem.W.keepIn K (.ref f_law_deeds) = true)
    (a_law_usual : PySem.W.nsIn K mainGlobals "_law_usual" = some (some (.ref f_law_usual)))
    (l_law_usual : K.lookup f_law_usual = some ⟨oc_law_usual, od_law_usual, .func (PySem.W.fnOf "_law_usual" "_law_usual" (defArgs st_law_usual) (defBody st_law_usual) (defScope st_law_usual) .none kV_law_usual dc_law_usual pm_law_usual an_law_usual cd_law_usual ct_law_usual), sl_law_usual⟩)
    (c_law_usual : PySem.W.codeIn K cd_law_usual "_law_usual" = true)
    (k_law_usual : PySem.W.keepIn K (.ref f_law_usual) = true)
    (a_law_tool : PySem.W.nsIn K mainGlobals "_law_tool" = some (some (.ref f_law_tool)))
    (l_law_tool : K.lookup f_law_tool = some ⟨oc_law_tool, od_law_tool, .func (PySem.W.fnOf "_law_tool" "_law_tool" (defArgs st_law_tool) (defBody st_law_tool) (defScope st_law_tool) .none kV_law_tool dc_law_tool pm_law_tool an_law_tool cd_law_tool ct_law_tool), sl_law_tool⟩)
    (c_law_tool : PySem.W.codeIn K cd_law_tool "_law_tool" = true)
    (k_law_tool : PySem.W.keepIn K (.ref f_law_tool) = true)
    (a_law_part : PySem.W.nsIn K mainGlobals "_law_part" = some (some (.ref f_law_part)))
    (l_law_part : K.lookup f_law_part = some ⟨oc_law_part, od_law_part, .func (PySem.W.fnOf "_law_part" "_law_part" (defArgs st_law_part) (defBody st_law_part) (defScope st_law_part) .none kV_law_part dc_law_part pm_law_part an_law_part cd_law_part ct_law_part), sl_law_part⟩)
    (c_law_part : PySem.W.codeIn K cd_law_part "_law_part" = true)
    (k_law_part : PySem.W.keepIn K (.ref f_law_part) = true)
    (a_law_are_rows : PySem.W.nsIn K mainGlobals "_law_are_rows" = some (some (.ref f_law_are_rows)))
    (l_law_are_rows : K.lookup f_law_are_rows = some ⟨oc_law_are_rows, od_law_are_rows, .func (PySem.W.fnOf "_law_are_rows" "_law_are_rows" (defArgs st_law_are_rows) (defBody st_law_are_rows) (defScope st_law_are_rows) .none kV_law_are_rows dc_law_are_rows pm_law_are_rows an_law_are_rows cd_law_are_rows ct_law_are_rows), sl_law_are_rows⟩)
    (c_law_are_rows : PySem.W.codeIn K cd_law_are_rows "_law_are_rows" = true)
    (k_law_are_rows : PySem.W.keepIn K (.ref f_law_are_rows) = true)
    (a_law : PySem.W.nsIn K mainGlobals "law" = some (some (.ref f_law)))
    (l_law : K.lookup f_law = some ⟨oc_law, od_law, .func (PySem.W.fnOf "law" "law" (defArgs st_law) (defBody st_law) (defScope st_law) .none kV_law dc_law pm_law an_law cd_law ct_law), sl_law⟩)
    (c_law : PySem.W.codeIn K cd_law "law" = true)
    (k_law : PySem.W.keepIn K (.ref f_law) = true) :
    ∃ fd : FuncData, (∀ (s : Shared) (v : Value), BindsTo s fd ⟨[v], []⟩ [("_law_script", v)]) ∧ ∀ base : Heap, K.In base → base.Ns mainGlobals mg → FnOk l.prog w K mg base (L2.CX l.prog w) 6 fa fd ["_law_script"] (spLaw K) := by
  have e := hfa.symm.trans (PySem.W.mg_of X G a_law)
  cases e
  refine ⟨PySem.W.fnOf "law" "law" (defArgs st_law) (defBody st_law) (defScope st_law) .none kV_law dc_law pm_law an_law cd_law ct_law, fun s v => .of_eq rfl, fun base _ _ => ?_⟩
  have b_abs : mg "abs" = none := PySem.W.mg_none_of X G z_abs
  have b_all : mg "all" = none := PySem.W.mg_none_of X G z_all
  have b_bool : mg "bool" = none := PySem.W.mg_none_of X G z_bool
  have b_int : mg "int" = none := PySem.W.mg_none_of X G z_int
  have b_isinstance : mg "isinstance" = none := PySem.W.mg_none_of X G z_isinstance
  have b_len : mg "len" = none := PySem.W.mg_none_of X G z_len
  have b_list : mg "list" = none := PySem.W.mg_none_of X G z_list
  have b_max : mg "max" = none := PySem.W.mg_none_of X G z_max
  have b_min : mg "min" = none := PySem.W.mg_none_of X G z_min
  have b_range : mg "range" = none := PySem.W.mg_none_of X G z_range
  have b_str : mg "str" = none := PySem.W.mg_none_of X G z_str
  have b_tuple : mg "tuple" = none := PySem.W.mg_none_of X G z_tuple
  have C_NOT : ConstOk K mg "NOT" c_NOT := const_str (PySem.W.mg_of X G n_NOT) rfl
  have C_TESTS : ConstOk K mg "TESTS" c_TESTS := const_strs (PySem.W.mg_of X G n_TESTS) l_TESTS y_TESTS w_TESTS rfl
  have C_DEEDS : ConstOk K mg "DEEDS" c_DEEDS := const_strs (PySem.W.mg_of X G n_DEEDS) l_DEEDS y_DEEDS w_DEEDS rfl
  have cl_Row : Cls K C_Row := ⟨pg_Row, hd_Row, po_Row, sa_Row⟩
  have cl_Tool : Cls K C_Tool := ⟨pg_Tool, hd_Tool, po_Tool, sa_Tool⟩
  have it_Row : InsT K C_Row := ⟨cl_Row, ca_Row, cn_Row, ct_Row, cm_Row⟩
  have it_Tool : InsT K C_Tool := ⟨cl_Tool, ca_Tool, cn_Tool, ct_Tool, cm_Tool⟩
  have I_seq_Row : PySem.W.kitAny K (.ref C_Row) [.type "list", .type "tuple"] = some false := (kit_no (kit_bt (by decide +kernel) sb_list_Row) (kit_no (kit_bt (by decide +kernel) sb_tuple_Row) rfl))
  have I_seq_Tool : PySem.W.kitAny K (.ref C_Tool) [.type "list", .type "tuple"] = some false := (kit_no (kit_bt (by decide +kernel) sb_list_Tool) (kit_no (kit_bt (by decide +kernel) sb_tuple_Tool) rfl))
  have I_seq : IsB K (tabT C_LayError C_InvalidRow C_InvalidTool C_Row C_Tool) [.type "list", .type "tuple"] [3, 4] := ⟨(fun c hc => by
    have hc2 := mem_of_contains hc
    simp only [List.mem_cons, List.not_mem_nil, or_false] at hc2
    rcases hc2 with rfl | rfl
    · exact ⟨it_Row, I_seq_Row⟩
    · exact ⟨it_Tool, I_seq_Tool⟩)⟩
  have I_str_Row : PySem.W.kitAny K (.ref C_Row) [.type "str"] = some false := (kit_no (kit_bt (by decide +kernel) sb_str_Row) rfl)
  have I_str_Tool : PySem.W.kitAny K (.ref C_Tool) [.type "str"] = some false := (kit_no (kit_bt (by decide +kernel) sb_str_Tool) rfl)
  have I_str : IsB K (tabT C_LayError C_InvalidRow C_InvalidTool C_Row C_Tool) [.type "str"] [3, 4] := ⟨(fun c hc => by
    have hc2 := mem_of_contains hc
    simp only [List.mem_cons, List.not_mem_nil, or_false] at hc2
    rcases hc2 with rfl | rfl
    · exact ⟨it_Row, I_str_Row⟩
    · exact ⟨it_Tool, I_str_Tool⟩)⟩
  have I_bool_Row : PySem.W.kitAny K (.ref C_Row) [.type "bool"] = some false := (kit_no (kit_bt (by decide +kernel) sb_bool_Row) rfl)
  have I_bool_Tool : PySem.W.kitAny K (.ref C_Tool) [.type "bool"] = some false := (kit_no (kit_bt (by decide +kernel) sb_bool_Tool) rfl)
  have I_bool : IsB K (tabT C_LayError C_InvalidRow C_InvalidTool C_Row C_Tool) [.type "bool"] [3, 4] := ⟨(fun c hc => by
    have hc2 := mem_of_contains hc
    simp only [List.mem_cons, List.not_mem_nil, or_false] at hc2
    rcases hc2 with rfl | rfl
    · exact ⟨it_Row, I_bool_Row⟩
    · exact ⟨it_Tool, I_bool_Tool⟩)⟩
  have O_Row : IsO K mg (tabT C_LayError C_InvalidRow C_InvalidTool C_Row C_Tool) "Row" 3 [3, 4] := ⟨PySem.W.mg_of X G aC_Row, ⟨it_Row, kit_own ic_Row ty_Row oo_Row (fun _ => rfl)⟩, (fun c hne hc => by
    have hc2 := mem_of_contains hc
    simp only [List.mem_cons, List.not_mem_nil, or_false] at hc2
    rcases hc2 with rfl | rfl
    · exact absurd rfl hne
    · exact ⟨it_Tool, kit_own ic_Row ty_Row so_Tool_Row (fun e => absurd e nqo_Tool_Row)⟩), kit_bts ic_Row ty_Row bo_NoneType_Row bo_bool_Row bo_int_Row bo_str_Row bo_tuple_Row bo_list_Row bo_dict_Row⟩
  have Fl_tests : FldOk K (tabT C_LayError C_InvalidRow C_InvalidTool C_Row C_Tool) [3] 2 "tests" := ⟨by rfl, fun c hc => by rw [contains_one hc]; exact ⟨cl_Row, no_tests_Row⟩⟩
  have Fl_deeds : FldOk K (tabT C_LayError C_InvalidRow C_InvalidTool C_Row C_Tool) [3] 3 "deeds" := ⟨by rfl, fun c hc => by rw [contains_one hc]; exact ⟨cl_Row, no_deeds_Row⟩⟩
  have Fl_rows : FldOk K (tabT C_LayError C_InvalidRow C_InvalidTool C_Row C_Tool) [4] 4 "rows" := ⟨by rfl, fun c hc => by rw [contains_one hc]; exact ⟨cl_Tool, no_rows_Tool⟩⟩
  have Fl_sorts : FldOk K (tabT C_LayError C_InvalidRow C_InvalidTool C_Row C_Tool) [4] 5 "sorts" := ⟨by rfl, fun c hc => by rw [contains_one hc]; exact ⟨cl_Tool, no_sorts_Tool⟩⟩
  have ox_InvalidRow : OexC K C_InvalidRow := ⟨⟨xn_InvalidRow, xq_InvalidRow, xN_InvalidRow, xbs_InvalidRow, xbm_InvalidRow, xsn_InvalidRow, xsub_InvalidRow, xab_InvalidRow, xcol_InvalidRow, xdd_InvalidRow, x0_InvalidRow, x1_InvalidRow, x2_InvalidRow, x3_InvalidRow, x5_InvalidRow, xL_InvalidRow, xr_InvalidRow⟩, esa_InvalidRow, eex_InvalidRow, ety_InvalidRow, ekc_InvalidRow⟩
  have FE_InvalidRow := fun_mk (st := st_InvalidRowD_initD) el_InvalidRow ec_InvalidRow ek_InvalidRow
  have BE_InvalidRow := FE_InvalidRow.binds (ps := ["self", "part"]) fun _ _ _ _ _ _ us hl => match us, hl with | [_, _], _ => rfl
  have E_InvalidRow : ErrOk l.prog w K mg base (tabT C_LayError C_InvalidRow C_InvalidTool C_Row C_Tool) "InvalidRow" "part" 1 0 1 := ⟨by rfl, PySem.W.mg_of X G aC_InvalidRow, ox_InvalidRow, eno_InvalidRow, fE_InvalidRow, _, ea_InvalidRow, et_InvalidRow, BE_InvalidRow, ok_InvalidRowD_initD FE_InvalidRow (PySem.W.mg_of X G aC_LayError) bga brd bty bvV⟩
  have kA_Su_law_part_InvalidRow : PySem.W.kitOne K (.ref C_InvalidRow) (.ref C_LayError) = some true := kit_own ic_LayError ty_LayError sA_Su_law_part_InvalidRow (fun _ => rfl)
  have kB_Su_law_part_InvalidRow : PySem.W.kitOne K (.ref C_InvalidRow) (.ref C_InvalidTool) = some false := kit_own ic_InvalidTool ty_InvalidTool sB_Su_law_part_InvalidRow (fun e => absurd e nqB_Su_law_part_InvalidRow)
  have m_Su_law_part_InvalidRow : PySem.W.exmOne K (.ref C_InvalidRow) (.ref C_InvalidRow) = some true := exm_own xb_Su_law_part_InvalidRow ic_InvalidRow ty_InvalidRow sx_Su_law_part_InvalidRow
  have Su_law_part : SuOk K mg (tabT C_LayError C_InvalidRow C_InvalidTool C_Row C_Tool) "InvalidRow" "LayError" "InvalidTool" "part" 0 mc_law_part isA_law_part isB_law_part := ⟨by rfl, C_InvalidRow, C_LayError, C_InvalidTool, PySem.W.mg_of X G aC_InvalidRow, PySem.W.mg_of X G aC_LayError, PySem.W.mg_of X G aC_InvalidTool, (fun c hc => by
      unfold mc_law_part at hc
      split at hc <;> cases hc), (fun c hc => by
      unfold mc_law_part at hc
      split at hc
      · rename_i e
        subst e
        exact ⟨m_Su_law_part_InvalidRow, ⟨hg_Su_law_part_InvalidRow, hk_Su_law_part_InvalidRow, hs_Su_law_part_InvalidRow, hd_Su_law_part_InvalidRow, ha_Su_law_part_InvalidRow, hn_Su_law_part_InvalidRow, ht_Su_law_part_InvalidRow, hm_Su_law_part_InvalidRow⟩, ⟨hg_Su_law_part_InvalidRow, hk_Su_law_part_InvalidRow, hs_Su_law_part_InvalidRow, hd_Su_law_part_InvalidRow⟩, no_Su_law_part_InvalidRow, kA_Su_law_part_InvalidRow, kB_Su_law_part_InvalidRow⟩
      · cases hc)⟩
  have U_is_sequence := fun_mk (st := st_is_sequence) l_is_sequence c_is_sequence k_is_sequence
  have B_is_sequence := U_is_sequence.binds (ps := ["value"]) fun _ _ _ _ _ _ us hl => match us, hl with | [_], _ => rfl
  have U_is_word := fun_mk (st := st_is_word) l_is_word c_is_word k_is_word
  have B_is_word := U_is_word.binds (ps := ["value", "some"]) fun _ _ _ _ _ _ us hl => match us, hl with | [_, _], _ => rfl
  have U_is_test := fun_mk (st := st_is_test) l_is_test c_is_test k_is_test
  have B_is_test := U_is_test.binds (ps := ["value"]) fun _ _ _ _ _ _ us hl => match us, hl with | [_], _ => rfl
  have U_RowD_initD : FunD K "__init__" "Row.__init__" (defArgs st_RowD_initD) (defBody st_RowD_initD) (defScope st_RowD_initD) ([.ref ft0_RowD_initD, .ref ft1_RowD_initD] : List V) [] f_RowD_initD _ := ⟨⟨_, _, _, _, _, _, _, _, _, _, rfl, l_RowD_initD, c_RowD_initD, .inr ⟨by simp, fd_RowD_initD, _, [.ref ft0_RowD_initD, .ref ft1_RowD_initD], fn_RowD_initD, rfl, d_RowD_initD, rfl, (.cons rfl (.cons rfl .nil))⟩, .inl rfl⟩, k_RowD_initD⟩
  obtain ⟨ds_RowD_initD, vd_RowD_initD, B_RowD_initD⟩ := U_RowD_initD.binds1 (ps := ["self", "tests", "deeds"]) 3 2 (by simp) rfl fun _ _ _ _ _ _ _ us its h1 h2 => match us, h1, its, h2 with | [_, _, _], _, [_, _], _ => ⟨_, rfl, rfl⟩
  cases vd_RowD_initD
  have U_ToolD_initD : FunD K "__init__" "Tool.__init__" (defArgs st_ToolD_initD) (defBody st_ToolD_initD) (defScope st_ToolD_initD) ([.ref ft0_ToolD_initD, .bl false] : List V) [] f_ToolD_initD _ := ⟨⟨_, _, _, _, _, _, _, _, _, _, rfl, l_ToolD_initD, c_ToolD_initD, .inr ⟨by simp, fd_ToolD_initD, _, [.ref ft0_ToolD_initD, .bool false], fn_ToolD_initD, rfl, d_ToolD_initD, rfl, (.cons rfl (.cons rfl .nil))⟩, .inl rfl⟩, k_ToolD_initD⟩
  obtain ⟨ds1_ToolD_initD, vd1_ToolD_initD, B1_ToolD_initD⟩ := U_ToolD_initD.binds1 (ps := ["self", "rows", "sorts"]) 2 1 (by simp) rfl fun _ _ _ _ _ _ _ us its h1 h2 => match us, h1, its, h2 with | [_, _], _, [_, _], _ => ⟨_, rfl, rfl⟩
  obtain ⟨ds2_ToolD_initD, vd2_ToolD_initD, B2_ToolD_initD⟩ := U_ToolD_initD.binds1 (ps := ["self", "rows", "sorts"]) 1 0 (by simp) rfl fun _ _ _ _ _ _ _ us its h1 h2 => match us, h1, its, h2 with | [_], _, [_, _], _ => ⟨_, rfl, rfl⟩
  obtain ⟨ds_ToolD_initD, vd_ToolD_initD, B_ToolD_initD⟩ := U_ToolD_initD.binds1 (ps := ["self", "rows", "sorts"]) 3 2 (by simp) rfl fun _ _ _ _ _ _ _ us its h1 h2 => match us, h1, its, h2 with | [_, _, _], _, [_, _], _ => ⟨_, rfl, rfl⟩
  cases vd_ToolD_initD
  have U_law_feed := fun_mk (st := st_law_feed) l_law_feed c_law_feed k_law_feed
  have B_law_feed := U_law_feed.binds (ps := ["_law_script", "_law_base"]) fun _ _ _ _ _ _ us hl => match us, hl with | [_, _], _ => rfl
  have U_law_take := fun_mk (st := st_law_take) l_law_take c_law_take k_law_take
  have B_law_take := U_law_take.binds (ps := ["_law_box", "_law_wide"]) fun _ _ _ _ _ _ us hl => match us, hl with | [_, _], _ => rfl
  have U_law_pick := fun_mk (st := st_law_pick) l_law_pick c_law_pick k_law_pick
  have B_law_pick := U_law_pick.binds (ps := ["_law_box", "_law_some"]) fun _ _ _ _ _ _ us hl => match us, hl with | [_, _], _ => rfl
  have U_law_mixed := fun_mk (st := st_law_mixed) l_law_mixed c_law_mixed k_law_mixed
  have B_law_mixed := U_law_mixed.binds (ps := ["_law_box", "_law_some"]) fun _ _ _ _ _ _ us hl => match us, hl with | [_, _], _ => rfl
  have U_law_tests := fun_mk (st := st_law_tests) l_law_tests c_law_tests k_law_tests
  have B_law_tests := U_law_tests.binds (ps := ["_law_box", "_law_most"]) fun _ _ _ _ _ _ us hl => match us, hl with | [_, _], _ => rfl
  have U_law_deeds := fun_mk (st := st_law_deeds) l_law_deeds c_law_deeds k_law_deeds
  have B_law_deeds := U_law_deeds.binds (ps := ["_law_box", "_law_most"]) fun _ _ _ _ _ _ us hl => match us, hl with | [_, _], _ => rfl
  have U_law_usual := fun_mk (st := st_law_usual) l_law_usual c_law_usual k_law_usual
  have B_law_usual := U_law_usual.binds (ps := ["_law_box"]) fun _ _ _ _ _ _ us hl => match us, hl with | [_], _ => rfl
  have U_law_tool := fun_mk (st := st_law_tool) l_law_tool c_law_tool k_law_tool
  have B_law_tool := U_law_tool.binds (ps := ["_law_box", "_law_most"]) fun _ _ _ _ _ _ us hl => match us, hl with | [_, _], _ => rfl
  have U_law_part := fun_mk (st := st_law_part) l_law_part c_law_part k_law_part
  have B_law_part := U_law_part.binds (ps := ["_law_rows", "_law_sorts"]) fun _ _ _ _ _ _ us hl => match us, hl with | [_, _], _ => rfl
  have U_law_are_rows := fun_mk (st := st_law_are_rows) l_law_are_rows c_law_are_rows k_law_are_rows
  have B_law_are_rows := U_law_are_rows.binds (ps := ["_law_value"]) fun _ _ _ _ _ _ us hl => match us, hl with | [_], _ => rfl
  have U_law := fun_mk (st := st_law) l_law c_law k_law
  have D_is_sequence : DefOk l.prog w K mg base (tabT C_LayError C_InvalidRow C_InvalidTool C_Row C_Tool) "is_sequence" 1 1 F_is_sequence [] := ⟨f_is_sequence, _, ["value"], [], [], PySem.W.mg_of X G a_is_sequence, k_is_sequence, B_is_sequence, .nil, fun _ _ => .nil, ok_is_sequence U_is_sequence b_isinstance I_seq b_list b_tuple⟩
  have D_is_word : DefOk l.prog w K mg base (tabT C_LayError C_InvalidRow C_InvalidTool C_Row C_Tool) "is_word" 1 2 F_is_word [] := ⟨f_is_word, _, ["value", "some"], [], [], PySem.W.mg_of X G a_is_word, k_is_word, B_is_word, .nil, fun _ _ => .nil, ok_is_word U_is_word b_isinstance I_str b_str⟩
  have D_is_test : DefOk l.prog w K mg base (tabT C_LayError C_InvalidRow C_InvalidTool C_Row C_Tool) "is_test" 1 1 F_is_test [] := ⟨f_is_test, _, ["value"], [], [], PySem.W.mg_of X G a_is_test, k_is_test, B_is_test, .nil, fun _ _ => .nil, ok_is_test U_is_test b_isinstance I_str b_str C_NOT b_len C_TESTS⟩
  have K_Row : MakeOk l.prog w K mg base (tabT C_LayError C_InvalidRow C_InvalidTool C_Row C_Tool) "Row" 3 3 3 F_RowD_initD [] := ⟨f_RowD_initD, _, ["self", "tests", "deeds"], [], [], ⟨mk_Row, a_RowD_initD, i_RowD_initD, kc_Row⟩, PySem.W.mg_of X G aC_Row, B_RowD_initD, .nil, fun _ _ => .nil, ok_RowD_initD U_RowD_initD D_is_sequence D_is_test b_all E_InvalidRow b_len C_DEEDS D_is_word b_tuple Fl_tests Fl_deeds⟩
  have K_Tool_1 : MakeOk l.prog w K mg base (tabT C_LayError C_InvalidRow C_InvalidTool C_Row C_Tool) "Tool" 4 3 3 F_ToolD_initD [.bl false] := ⟨f_ToolD_initD, _, ["self", "rows", "sorts"], ds1_ToolD_initD, ([.bl false] : List V), ⟨mk_Tool, a_ToolD_initD, i_ToolD_initD, kc_Tool⟩, PySem.W.mg_of X G aC_Tool, B1_ToolD_initD, vd1_ToolD_initD, fun _ _ => (.cons (.bl false) .nil), ok_ToolD_initD U_ToolD_initD D_is_sequence b_isinstance O_Row b_all E_InvalidRow I_bool b_bool b_tuple Fl_rows Fl_sorts⟩
  have K_Tool_2 : MakeOk l.prog w K mg base (tabT C_LayError C_InvalidRow C_InvalidTool C_Row C_Tool) "Tool" 4 3 3 F_ToolD_initD [.tup [], .bl false] := ⟨f_ToolD_initD, _, ["self", "rows", "sorts"], ds2_ToolD_initD, ([.ref ft0_ToolD_initD, .bl false] : List V), ⟨mk_Tool, a_ToolD_initD, i_ToolD_initD, kc_Tool⟩, PySem.W.mg_of X G aC_Tool, B2_ToolD_initD, vd2_ToolD_initD, fun _ _ => (.cons (rv_nil fl0_ToolD_initD) (.cons (.bl false) .nil)), ok_ToolD_initD U_ToolD_initD D_is_sequence b_isinstance O_Row b_all E_InvalidRow I_bool b_bool b_tuple Fl_rows Fl_sorts⟩
  have K_Tool : MakeOk l.prog w K mg base (tabT C_LayError C_InvalidRow C_InvalidTool C_Row C_Tool) "Tool" 4 3 3 F_ToolD_initD [] := ⟨f_ToolD_initD, _, ["self", "rows", "sorts"], [], [], ⟨mk_Tool, a_ToolD_initD, i_ToolD_initD, kc_Tool⟩, PySem.W.mg_of X G aC_Tool, B_ToolD_initD, .nil, fun _ _ => .nil, ok_ToolD_initD U_ToolD_initD D_is_sequence b_isinstance O_Row b_all E_InvalidRow I_bool b_bool b_tuple Fl_rows Fl_sorts⟩
  have D_law_feed : DefOk l.prog w K mg base (tabT C_LayError C_InvalidRow C_InvalidTool C_Row C_Tool) "_law_feed" 1 2 F_law_feed [] := ⟨f_law_feed, _, ["_law_script", "_law_base"], [], [], PySem.W.mg_of X G a_law_feed, k_law_feed, B_law_feed, .nil, fun _ _ => .nil, ok_law_feed U_law_feed b_int b_abs⟩
  have D_law_take : DefOk l.prog w K mg base (tabT C_LayError C_InvalidRow C_InvalidTool C_Row C_Tool) "_law_take" 1 2 F_law_take [] := ⟨f_law_take, _, ["_law_box", "_law_wide"], [], [], PySem.W.mg_of X G a_law_take, k_law_take, B_law_take, .nil, fun _ _ => .nil, ok_law_take U_law_take b_int⟩
  have D_law_pick : DefOk l.prog w K mg base (tabT C_LayError C_InvalidRow C_InvalidTool C_Row C_Tool) "_law_pick" 2 2 F_law_pick [] := ⟨f_law_pick, _, ["_law_box", "_law_some"], [], [], PySem.W.mg_of X G a_law_pick, k_law_pick, B_law_pick, .nil, fun _ _ => .nil, ok_law_pick U_law_pick b_len D_law_take⟩
  have D_law_mixed : DefOk l.prog w K mg base (tabT C_LayError C_InvalidRow C_InvalidTool C_Row C_Tool) "_law_mixed" 2 2 F_law_mixed [] := ⟨f_law_mixed, _, ["_law_box", "_law_some"], [], [], PySem.W.mg_of X G a_law_mixed, k_law_mixed, B_law_mixed, .nil, fun _ _ => .nil, ok_law_mixed U_law_mixed b_list b_len D_law_take⟩
  have D_law_tests : DefOk l.prog w K mg base (tabT C_LayError C_InvalidRow C_InvalidTool C_Row C_Tool) "_law_tests" 3 2 F_law_tests [] := ⟨f_law_tests, _, ["_law_box", "_law_most"], [], [], PySem.W.mg_of X G a_law_tests, k_law_tests, B_law_tests, .nil, fun _ _ => .nil, ok_law_tests U_law_tests D_law_take b_range D_law_pick b_tuple⟩
  have D_law_deeds : DefOk l.prog w K mg base (tabT C_LayError C_InvalidRow C_InvalidTool C_Row C_Tool) "_law_deeds" 3 2 F_law_deeds [] := ⟨f_law_deeds, _, ["_law_box", "_law_most"], [], [], PySem.W.mg_of X G a_law_deeds, k_law_deeds, B_law_deeds, .nil, fun _ _ => .nil, ok_law_deeds U_law_deeds D_law_take b_range D_law_pick b_tuple⟩
  have D_law_usual : DefOk l.prog w K mg base (tabT C_LayError C_InvalidRow C_InvalidTool C_Row C_Tool) "_law_usual" 3 1 F_law_usual [] := ⟨f_law_usual, _, ["_law_box"], [], [], PySem.W.mg_of X G a_law_usual, k_law_usual, B_law_usual, .nil, fun _ _ => .nil, ok_law_usual U_law_usual D_law_mixed D_law_take⟩
  have D_law_tool : DefOk l.prog w K mg base (tabT C_LayError C_InvalidRow C_InvalidTool C_Row C_Tool) "_law_tool" 4 2 F_law_tool [] := ⟨f_law_tool, _, ["_law_box", "_law_most"], [], [], PySem.W.mg_of X G a_law_tool, k_law_tool, B_law_tool, .nil, fun _ _ => .nil, ok_law_tool U_law_tool D_law_take D_law_usual b_len b_range D_law_deeds D_law_tests b_tuple⟩
  have D_law_part : DefOk l.prog w K mg base (tabT C_LayError C_InvalidRow C_InvalidTool C_Row C_Tool) "_law_part" 5 2 F_law_part [] := ⟨f_law_part, _, ["_law_rows", "_law_sorts"], [], [], PySem.W.mg_of X G a_law_part, k_law_part, B_law_part, .nil, fun _ _ => .nil, ok_law_part U_law_part K_Tool Fl_sorts b_isinstance Su_law_part⟩
  have D_law_are_rows : DefOk l.prog w K mg base (tabT C_LayError C_InvalidRow C_InvalidTool C_Row C_Tool) "_law_are_rows" 1 1 F_law_are_rows [] := ⟨f_law_are_rows, _, ["_law_value"], [], [], PySem.W.mg_of X G a_law_are_rows, k_law_are_rows, B_law_are_rows, .nil, fun _ _ => .nil, ok_law_are_rows U_law_are_rows b_isinstance I_seq b_list b_tuple O_Row⟩
  exact (ok_law U_law b_len b_min b_max b_range D_law_feed D_law_tool K_Row K_Tool_1 D_law_pick D_law_take K_Tool_2 b_tuple b_isinstance I_bool b_bool D_law_are_rows D_law_part).imp (law_imp fun ns hn => law_true hn)
end Law
open PySem PySem.W PyProof.Rows
set_option maxRecDepth 100000 in
set_option maxHeartbeats 0 in
theorem PySem.Challenge.cw_laytwice_k14_tools_refused_holds : PySem.Challenge.rw_laytwice_k14_tools_refused.Holds := by
  w_on; o_law; k_head; (case hw => w_witness2)
  k_fill
  refine LT.walk_lt (l := PySem.Challenge.rw_laytwice_k14_tools_refused) (k := 6) (x := "_law_script") rfl rfl ⟨rfl, by decide, by decide⟩ (fun w h Y => PySem.W.kIn_of Y) ?F
  case F =>
    intro w mg fa h KX G hmg
    refine' Law.all_mk KX G hmg ?aC_LayError ?aC_InvalidRow ?aC_InvalidTool ?aC_Row ?aC_Tool ?z_abs ?z_all ?z_bool ?z_int ?z_isinstance ?z_len ?z_list ?z_max ?z_min ?z_range ?z_str ?z_tuple ?n_NOT ?n_TESTS ?l_TESTS ?y_TESTS ?w_TESTS ?n_DEEDS ?l_DEEDS ?y_DEEDS ?w_DEEDS ?pg_Row ?hd_Row ?po_Row ?sa_Row ?mk_Row ?kc_Row ?pg_Tool ?hd_Tool ?po_Tool ?sa_Tool ?mk_Tool ?kc_Tool ?ca_Row ?cn_Row ?ct_Row ?cm_Row ?ca_Tool ?cn_Tool ?ct_Tool ?cm_Tool ?sb_tuple_Row ?sb_list_Row ?sb_tuple_Tool ?sb_list_Tool ?sb_str_Row ?sb_str_Tool ?sb_bool_Row ?sb_bool_Tool ?ic_Row ?ty_Row ?oo_Row ?so_Tool_Row ?nqo_Tool_Row ?bo_NoneType_Row ?bo_bool_Row ?bo_int_Row ?bo_str_Row ?bo_tuple_Row ?bo_list_Row ?bo_dict_Row ?no_tests_Row ?no_deeds_Row ?no_rows_Tool ?no_sorts_Tool ?xL_InvalidRow ?xr_InvalidRow ?esa_InvalidRow ?eex_InvalidRow ?ety_InvalidRow ?ekc_InvalidRow ?eno_InvalidRow ?ea_InvalidRow ?et_InvalidRow ?el_InvalidRow ?ec_InvalidRow ?ek_InvalidRow ?bga ?brd ?bty ?bvV ?ic_InvalidRow ?ty_InvalidRow ?ic_LayError ?ty_LayError ?ic_InvalidTool ?ty_InvalidTool ?xb_Su_law_part_InvalidRow ?sx_Su_law_part_InvalidRow ?hg_Su_law_part_InvalidRow ?hk_Su_law_part_InvalidRow ?hs_Su_law_part_InvalidRow ?hd_Su_law_part_InvalidRow ?ha_Su_law_part_InvalidRow ?hn_Su_law_part_InvalidRow ?ht_Su_law_part_InvalidRow ?hm_Su_law_part_InvalidRow ?no_Su_law_part_InvalidRow ?sA_Su_law_part_InvalidRow ?sB_Su_law_part_InvalidRow ?nqB_Su_law_part_InvalidRow ?a_is_sequence ?l_is_sequence ?c_is_sequence ?k_is_sequence ?a_is_word ?l_is_word ?c_is_word ?k_is_word ?a_is_test ?l_is_test ?c_is_test ?k_is_test ?a_RowD_initD ?i_RowD_initD ?l_RowD_initD ?c_RowD_initD ?k_RowD_initD ?d_RowD_initD ?fl0_RowD_initD ?fl1_RowD_initD ?a_ToolD_initD ?i_ToolD_initD ?l_ToolD_initD ?c_ToolD_initD ?k_ToolD_initD ?d_ToolD_initD ?fl0_ToolD_initD ?a_law_feed ?l_law_feed ?c_law_feed ?k_law_feed ?a_law_take ?l_law_take ?c_law_take ?k_law_take ?a_law_pick ?l_law_pick ?c_law_pick ?k_law_pick ?a_law_mixed ?l_law_mixed ?c_law_mixed ?k_law_mixed ?a_law_tests ?l_law_tests ?c_law_tests ?k_law_tests ?a_law_deeds ?l_law_deeds ?c_law_deeds ?k_law_deeds ?a_law_usual ?l_law_usual ?c_law_usual ?k_law_usual ?a_law_tool ?l_law_tool ?c_law_tool ?k_law_tool ?a_law_part ?l_law_part ?c_law_part ?k_law_part ?a_law_are_rows ?l_law_are_rows ?c_law_are_rows ?k_law_are_rows ?a_law ?l_law ?c_law ?k_law
    (case aC_LayError => k_is)
    (case aC_InvalidRow => k_is)
    (case aC_InvalidTool => k_is)
    (case aC_Row => k_is)
    (case aC_Tool => k_is)
    (case z_abs => k_is)
    (case z_all => k_is)
    (case z_bool => k_is)
    (case z_int => k_is)
    (case z_isinstance => k_is)
    (case z_len => k_is)
    (case z_list => k_is)
    (case z_max => k_is)
    (case z_min => k_is)
    (case z_range => k_is)
    (case z_str => k_is)
    (case z_tuple => k_is)
    (case n_NOT => k_is)
    (case n_TESTS => k_is)
    (case l_TESTS => k_is)
    (case y_TESTS => decide)
    (case w_TESTS => first | rfl | decide +kernel | k_is)
    (case n_DEEDS => k_is)
    (case l_DEEDS => k_is)
    (case y_DEEDS => decide)
    (case w_DEEDS => first | rfl | decide +kernel | k_is)
    (case pg_Row => k_is)
    (case hd_Row => k_is)
    (case po_Row => k_is)
    (case sa_Row => k_is)
    (case mk_Row => k_is)
    (case kc_Row => k_is)
    (case pg_Tool => k_is)
    (case hd_Tool => k_is)
    (case po_Tool => k_is)
    (case sa_Tool => k_is)
    (case mk_Tool => k_is)
    (case kc_Tool => k_is)
    (case ca_Row => k_is)
    (case cn_Row => k_is)
    (case ct_Row => k_is)
    (case cm_Row => k_is)
    (case ca_Tool => k_is)
    (case cn_Tool => k_is)
    (case ct_Tool => k_is)
    (case cm_Tool => k_is)
    (case sb_tuple_Row => k_is)
    (case sb_list_Row => k_is)
    (case sb_tuple_Tool => k_is)
    (case sb_list_Tool => k_is)
    (case sb_str_Row => k_is)
    (case sb_str_Tool => k_is)
    (case sb_bool_Row => k_is)
    (case sb_bool_Tool => k_is)
    (case ic_Row => k_is)
    (case ty_Row => k_is)
    (case oo_Row => first | rfl | k_is)
    (case so_Tool_Row => k_is)
    (case nqo_Tool_Row => decide)
    (case bo_NoneType_Row => k_is)
    (case bo_bool_Row => k_is)
    (case bo_int_Row => k_is)
    (case bo_str_Row => k_is)
    (case bo_tuple_Row => k_is)
    (case bo_list_Row => k_is)
    (case bo_dict_Row => k_is)
    (case no_tests_Row => k_is)
    (case no_deeds_Row => k_is)
    (case no_rows_Tool => k_is)
    (case no_sorts_Tool => k_is)
    (case xL_InvalidRow => k_is)
    (case xr_InvalidRow => first | rfl | decide +kernel | k_is)
    (case esa_InvalidRow => k_is)
    (case eex_InvalidRow => k_is)
    (case ety_InvalidRow => k_is)
    (case ekc_InvalidRow => k_is)
    (case eno_InvalidRow => k_is)
    (case ea_InvalidRow => k_is)
    (case et_InvalidRow => k_is)
    (case el_InvalidRow => k_is)
    (case ec_InvalidRow => k_is)
    (case ek_InvalidRow => k_is)
    (case bga => k_is)
    (case brd => k_is)
    (case bty => k_is)
    (case bvV => k_is)
    (case ic_InvalidRow => k_is)
    (case ty_InvalidRow => k_is)
    (case ic_LayError => k_is)
    (case ty_LayError => k_is)
    (case ic_InvalidTool => k_is)
    (case ty_InvalidTool => k_is)
    (case xb_Su_law_part_InvalidRow => k_is)
    (case sx_Su_law_part_InvalidRow => first | rfl | k_is)
    (case hg_Su_law_part_InvalidRow => k_is)
    (case hk_Su_law_part_InvalidRow => k_is)
    (case hs_Su_law_part_InvalidRow => k_is)
    (case hd_Su_law_part_InvalidRow => k_is)
    (case ha_Su_law_part_InvalidRow => k_is)
    (case hn_Su_law_part_InvalidRow => k_is)
    (case ht_Su_law_part_InvalidRow => k_is)
    (case hm_Su_law_part_InvalidRow => k_is)
    (case no_Su_law_part_InvalidRow => k_is)
    (case sA_Su_law_part_InvalidRow => k_is)
    (case sB_Su_law_part_InvalidRow => k_is)
    (case nqB_Su_law_part_InvalidRow => decide)
    (case a_is_sequence => k_is)
    (case l_is_sequence => k_is)
    (case c_is_sequence => k_is)
    (case k_is_sequence => k_is)
    (case a_is_word => k_is)
    (case l_is_word => k_is)
    (case c_is_word => k_is)
    (case k_is_word => k_is)
    (case a_is_test => k_is)
    (case l_is_test => k_is)
    (case c_is_test => k_is)
    (case k_is_test => k_is)
    (case a_RowD_initD => k_is)
    (case i_RowD_initD => k_is)
    (case l_RowD_initD => k_is)
    (case c_RowD_initD => k_is)
    (case k_RowD_initD => k_is)
    (case d_RowD_initD => k_is)
    (case fl0_RowD_initD => k_is)
    (case fl1_RowD_initD => k_is)
    (case a_ToolD_initD => k_is)
    (case i_ToolD_initD => k_is)
    (case l_ToolD_initD => k_is)
    (case c_ToolD_initD => k_is)
    (case k_ToolD_initD => k_is)
    (case d_ToolD_initD => k_is)
    (case fl0_ToolD_initD => k_is)
    (case a_law_feed => k_is)
    (case l_law_feed => k_is)
    (case c_law_feed => k_is)
    (case k_law_feed => k_is)
    (case a_law_take => k_is)
    (case l_law_take => k_is)
    (case c_law_take => k_is)
    (case k_law_take => k_is)
    (case a_law_pick => k_is)
    (case l_law_pick => k_is)
    (case c_law_pick => k_is)
    (case k_law_pick => k_is)
    (case a_law_mixed => k_is)
    (case l_law_mixed => k_is)
    (case c_law_mixed => k_is)
    (case k_law_mixed => k_is)
    (case a_law_tests => k_is)
    (case l_law_tests => k_is)
    (case c_law_tests => k_is)
    (case k_law_tests => k_is)
    (case a_law_deeds => k_is)
    (case l_law_deeds => k_is)
    (case c_law_deeds => k_is)
    (case k_law_deeds => k_is)
    (case a_law_usual => k_is)
    (case l_law_usual => k_is)
    (case c_law_usual => k_is)
    (case k_law_usual => k_is)
    (case a_law_tool => k_is)
    (case l_law_tool => k_is)
    (case c_law_tool => k_is)
    (case k_law_tool => k_is)
    (case a_law_part => k_is)
    (case l_law_part => k_is)
    (case c_law_part => k_is)
    (case k_law_part => k_is)
    (case a_law_are_rows => k_is)
    (case l_law_are_rows => k_is)
    (case c_law_are_rows => k_is)
    (case k_law_are_rows => k_is)
    (case a_law => k_is)
    (case l_law => k_is)
    (case c_law => k_is)
    (case k_law => k_is)
