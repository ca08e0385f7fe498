import PyProof.Rows.All
import Wide.All
import OpenK.AllK
import Wide.FinOn
import HandS.ForMost
import HandS.ForExc
import HandS.IsInst
import HandS.FStr
import HandS.Zip
import HandS.Deep
import HandS.Wide
import HandS.Flow
import HandS.TupAny
import HandS.CallSlots
import HandS.Style
import PyProof.Rows.RuleB_pow
import PyProof.P3In
import HandS.TryOnly
import HandS.Defaults
import HandS.HeadHook4
import KE.GoesMore
import KE.GoesEnum
import HandS.HeadEnd
import HandS.Head2
import PySem.Challenge.RW_bothreaders_k50_texts_written_and_read
set_option Elab.async false
set_option linter.all false
set_option maxRecDepth 100000
set_option maxHeartbeats 2000000
/-! # The data semantics -/
namespace Bq
open PySem L2

abbrev D := PyData
/-- a value: data, or a mutable object by its place in the store -/
inductive Wv where
  | d (x : D)
  | loc (n : Nat)
  | scr (xs : List D)
/-- a mutable object -/
inductive Ob where
  | lst (xs : List D)
  | dK (kvs : List (Key × D))
  | ins (C : Str) (fs : List (Str × D))
structure Xn where
  cls : Str
  fs : List (Str × D)
inductive Rs (α : Type) where
  | ok (a : α)
  | ex (e : Xn)
abbrev Sto := List Ob
abbrev M (α : Type) := Sto → Option (Rs α × Sto)
abbrev Sl := List (Option Wv)
abbrev SE := Sl → M Wv
@[reducible] def M.ret {α : Type} (a : α) : M α := fun S => some (.ok a, S)
@[reducible] def M.no {α : Type} : M α := fun _ => none
def M.bnd {α β : Type} (m : M α) (k : α → M β) : M β := fun S =>
  match m S with
  | some (.ok a, S1) => k a S1
  | some (.ex e, S1) => some (.ex e, S1)
  | none => none
/-- a partial operation on data -/
def M.of {α : Type} : Option α → M α
  | some a => fun S => some (.ok a, S)
  | none => fun _ => none

theorem M.bnd_ok {α β : Type} {m : M α} {k : α → M β} {S S1 : Sto} {a : α} (h : m S = some (.ok a, S1)) : M.bnd m k S = k a S1 := by
  unfold M.bnd
  rw [h]
theorem M.bnd_of {α β : Type} {o : Option α} {k : α → M β} {S : Sto} {a : α} (h : o = some a) : M.bnd (M.of o) k S = k a S := by
  subst h
  rfl

/-! ## representation -/
/-- where the store's objects stand; objects that are being built, which nothing reads -/
structure Rh where
  l : List Addr
  x : List Addr
instance : Membership Addr Rh := ⟨fun ρ a => a ∈ ρ.l ∨ a ∈ ρ.x⟩
theorem Rh.inl {ρ : Rh} {a : Addr} (h : a ∈ ρ.l) : a ∈ ρ := .inl h
theorem Rh.inx {ρ : Rh} {a : Addr} (h : a ∈ ρ.x) : a ∈ ρ := .inr h
structure Gm where
  K : PySem.W.Frag
  mg : Str → Option Value
abbrev gmOf (X : Cx) : Gm := ⟨X.K, X.mg⟩

mutual
inductive RepD (K : PySem.W.Frag) (ρ : Rh) (H : Hp) : V → D → Prop
  | non : RepD K ρ H .non .none
  | bl (b : Bool) : RepD K ρ H (.bl b) (.bool b)
  | int (i : Int) : RepD K ρ H (.int i) (.int i)
  | str (x : Str) : RepD K ρ H (.str x) (.str x)
  | lst {a : Addr} {xs : List V} {ds : List D} : H a = some (.lst xs) → a ∉ ρ → RepDs K ρ H xs ds → RepD K ρ H (.ref a) (.list ds)
  | tup {a : Addr} {xs : List V} {ds : List D} : H a = some (.tup xs) → a ∉ ρ → RepDs K ρ H xs ds → RepD K ρ H (.ref a) (.tuple ds)
  | tupK {a : Addr} {o : Obj} {its : Array Value} {n : Nat} {xs : List V} {ds : List D} : K.lookup a = some o → o.cls = .type "tuple" → o.data = .seq its n → its.size ≤ sizeLine → Vals xs its.toList →
      RepDs K ρ H xs ds → RepD K ρ H (.ref a) (.tuple ds)
inductive RepDs (K : PySem.W.Frag) (ρ : Rh) (H : Hp) : List V → List D → Prop
  | nil : RepDs K ρ H [] []
  | cons {v : V} {vs : List V} {d : D} {ds : List D} : RepD K ρ H v d → RepDs K ρ H vs ds → RepDs K ρ H (v :: vs) (d :: ds)
end

/-- the script -/
def Scr (K : PySem.W.Frag) (ρ : Rh) (H : Hp) (a : Addr) (xs : List V) : Prop :=
  (∃ o, H a = some (.frz o (.lst xs)) ∧ a ∉ ρ) ∨ ∃ (o : Obj) (its : Array Value) (n : Nat), K.lookup a = some o ∧ o.cls = .type "list" ∧ o.dict = none ∧ o.data = .seq its n ∧ its.size ≤ sizeLine ∧ Vals xs its.toList
theorem Scr.sq {K : PySem.W.Frag} {ρ : Rh} {H : Hp} {a : Addr} {xs : List V} (h : Scr K ρ H a xs) : SqL K H a xs :=
  h.imp (fun ⟨o, e, _⟩ => .inr ⟨o, e⟩) id
def RepW (K : PySem.W.Frag) (ρ : Rh) (H : Hp) (v : V) : Wv → Prop
  | .d x => RepD K ρ H v x
  | .loc n => ∃ a, ρ.l[n]? = some a ∧ v = .ref a
  | .scr ds => ∃ a xs, v = .ref a ∧ Scr K ρ H a xs ∧ RepDs K ρ H xs ds
inductive RepWs (K : PySem.W.Frag) (ρ : Rh) (H : Hp) : List V → List Wv → Prop
  | nil : RepWs K ρ H [] []
  | cons {v : V} {vs : List V} {d : Wv} {ds : List Wv} : RepW K ρ H v d → RepWs K ρ H vs ds → RepWs K ρ H (v :: vs) (d :: ds)
inductive RepKs {κ : Type} (K : PySem.W.Frag) (ρ : Rh) (H : Hp) : List (κ × V) → List (κ × D) → Prop
  | nil : RepKs K ρ H [] []
  | cons {k : κ} {v : V} {vs : List (κ × V)} {d : D} {ds : List (κ × D)} : RepD K ρ H v d → RepKs K ρ H vs ds → RepKs K ρ H ((k, v) :: vs) ((k, d) :: ds)
def RepO (G : Gm) (ρ : Rh) (H : Hp) (a : Addr) : Ob → Prop
  | .lst ds => ∃ xs, H a = some (.lst xs) ∧ RepDs G.K ρ H xs ds
  | .dK kvs => ∃ xs, H a = some (.dK xs) ∧ RepKs G.K ρ H xs kvs
  | .ins C fs => ∃ c dx xs, G.mg C = some (.ref c) ∧ H a = some (.ins c dx xs) ∧ RepKs G.K ρ H xs fs

/-- the store is held -/
structure Wd (G : Gm) (ρ : Rh) (H : Hp) (S : Sto) : Prop where
  nd : ρ.l.Nodup
  len : ρ.l.length = S.length
  obj : ∀ (n : Nat) (a : Addr) (o : Ob), ρ.l[n]? = some a → S[n]? = some o → RepO G ρ H a o
  hid : ∀ a, a ∈ ρ.x → ∃ u, H a = some u
  dis : ∀ a, a ∈ ρ.l → a ∉ ρ.x
/-- what came after -/
structure Ge (ρ : Rh) (H : Hp) (ρ' : Rh) (H' : Hp) : Prop where
  pre : ∃ r, ρ'.l = ρ.l ++ r
  hx : ρ'.x = ρ.x
  new : ∀ a, a ∈ ρ'.l → a ∉ ρ.l → H a = none
  keep : ∀ a u, H a = some u → a ∉ ρ → H' a = some u
  hid : ∀ a, a ∈ ρ.x → H' a = H a
theorem rd_some {H : Hp} {a : Addr} {u : HO} (h : H a = some u) : H a ≠ none := by
  rw [h]
  intro z
  cases z
theorem Ge.refl (ρ : Rh) (H : Hp) : Ge ρ H ρ H := ⟨⟨[], by simp⟩, rfl, fun a h n => absurd h n, fun _ _ h _ => h, fun _ _ => rfl⟩
theorem Ge.sub {ρ ρ' : Rh} {H H' : Hp} (g : Ge ρ H ρ' H') {a : Addr} (h : a ∈ ρ.l) : a ∈ ρ'.l := by
  obtain ⟨r, e⟩ := g.pre
  rw [e]
  exact List.mem_append_left _ h
theorem Ge.out {ρ ρ' : Rh} {H H' : Hp} (g : Ge ρ H ρ' H') {a : Addr} {u : HO} (h : H a = some u) (n : a ∉ ρ) : a ∉ ρ' := fun z => by
  rcases z with z | z
  · exact rd_some h (g.new a z fun q => n (.inl q))
  · rw [g.hx] at z
    exact n (.inr z)
theorem Ge.trans {ρ ρ1 ρ2 : Rh} {H H1 H2 : Hp} (a : Ge ρ H ρ1 H1) (b : Ge ρ1 H1 ρ2 H2) : Ge ρ H ρ2 H2 := by
  refine ⟨?_, b.hx.trans a.hx, fun x h n => ?_, fun x u h n => b.keep x u (a.keep x u h n) (a.out h n), fun x h => (b.hid x (by rw [a.hx]; exact h)).trans (a.hid x h)⟩
  · obtain ⟨r, e1⟩ := a.pre
    obtain ⟨r2, e2⟩ := b.pre
    exact ⟨r ++ r2, by rw [e2, e1]; simp⟩
  · by_cases h1 : x ∈ ρ1.l
    · exact a.new x h1 n
    · have z := b.new x h h1
      cases e : H x with
      | none => rfl
      | some o =>
        by_cases hx : x ∈ ρ.x
        · rw [a.hid x hx, e] at z; cases z
        · exact absurd z (rd_some (a.keep x o e fun q => q.elim n hx))
theorem Ge.at {ρ ρ' : Rh} {H H' : Hp} (g : Ge ρ H ρ' H') {n : Nat} {a : Addr} (h : ρ.l[n]? = some a) : ρ'.l[n]? = some a := by
  obtain ⟨r, e⟩ := g.pre
  rw [e, List.getElem?_append_left (List.getElem?_eq_some_iff.mp h).1]
  exact h
/-- a new object that no store holds -/
theorem Ge.fresh {ρ : Rh} {H : Hp} {p : Addr} {o : HO} (h : H p = none) (nx : p ∉ ρ.x) : Ge ρ H ρ (upd H p o) :=
  ⟨⟨[], by simp⟩, rfl, fun a h n => absurd h n, fun a u r n => by
    have ne : a ≠ p := fun e => by subst e; exact rd_some r h
    rw [upd_ne ne]
    exact r, fun a ha => upd_ne fun e => by subst e; exact nx ha⟩
/-- an object of the store is written -/
theorem Ge.wrote {ρ : Rh} {H : Hp} {p : Addr} {o : HO} (h : p ∈ ρ.l) (nx : p ∉ ρ.x) : Ge ρ H ρ (upd H p o) :=
  ⟨⟨[], by simp⟩, rfl, fun a h n => absurd h n, fun a u r n => by
    have ne : a ≠ p := fun e => by subst e; exact n (.inl h)
    rw [upd_ne ne]
    exact r, fun a ha => upd_ne fun e => by subst e; exact nx ha⟩
/-- a new object of the store -/
abbrev Rh.push (ρ : Rh) (p : Addr) : Rh := ⟨ρ.l ++ [p], ρ.x⟩
theorem Ge.push {ρ : Rh} {H : Hp} {p : Addr} {o : HO} (h : H p = none) (nx : p ∉ ρ.x) : Ge ρ H (ρ.push p) (upd H p o) :=
  ⟨⟨[p], rfl⟩, rfl, fun a ha n => by
    rcases List.mem_append.mp ha with z | z
    · exact absurd z n
    · have e : a = p := by simpa using z
      rw [e]; exact h, (Ge.fresh h nx).keep, (Ge.fresh h nx).hid⟩

/-- what is read stays -/
structure Kp (ρ : Rh) (H : Hp) (ρ' : Rh) (H' : Hp) : Prop where
  pre : ∃ r, ρ'.l = ρ.l ++ r
  keep : ∀ a u, H a = some u → a ∉ ρ → H' a = some u
  out : ∀ a u, H a = some u → a ∉ ρ → a ∉ ρ'
theorem Ge.kp {ρ ρ' : Rh} {H H' : Hp} (g : Ge ρ H ρ' H') : Kp ρ H ρ' H' := ⟨g.pre, g.keep, fun _ _ h n => g.out h n⟩
theorem Kp.refl (ρ : Rh) (H : Hp) : Kp ρ H ρ H := (Ge.refl ρ H).kp
theorem Kp.trans {ρ ρ1 ρ2 : Rh} {H H1 H2 : Hp} (a : Kp ρ H ρ1 H1) (b : Kp ρ1 H1 ρ2 H2) : Kp ρ H ρ2 H2 := by
  refine ⟨?_, fun x u h n => b.keep x u (a.keep x u h n) (a.out x u h n), fun x u h n => b.out x u (a.keep x u h n) (a.out x u h n)⟩
  obtain ⟨r, e1⟩ := a.pre
  obtain ⟨r2, e2⟩ := b.pre
  exact ⟨r ++ r2, by rw [e2, e1]; simp⟩
theorem Kp.at {ρ ρ' : Rh} {H H' : Hp} (g : Kp ρ H ρ' H') {n : Nat} {a : Addr} (h : ρ.l[n]? = some a) : ρ'.l[n]? = some a := by
  obtain ⟨r, e⟩ := g.pre
  rw [e, List.getElem?_append_left (List.getElem?_eq_some_iff.mp h).1]
  exact h

section
variable {K : PySem.W.Frag} {ρ ρ' : Rh} {H H' : Hp}
mutual
theorem RepD.monoK (g : Kp ρ H ρ' H') : ∀ (d : D) (v : V), RepD K ρ H v d → RepD K ρ' H' v d
  | .none, _, h => by cases h; exact .non
  | .bool b, _, h => by cases h; exact .bl b
  | .int i, _, h => by cases h; exact .int i
  | .str x, _, h => by cases h; exact .str x
  | .list ds, _, h => by
    cases h with
    | lst h1 h2 h3 => exact .lst (g.keep _ _ h1 h2) (g.out _ _ h1 h2) (RepDs.monoK g ds _ h3)
  | .tuple ds, _, h => by
    cases h with
    | tup h1 h2 h3 => exact .tup (g.keep _ _ h1 h2) (g.out _ _ h1 h2) (RepDs.monoK g ds _ h3)
    | tupK h1 h2 h3 h4 h5 h6 => exact .tupK h1 h2 h3 h4 h5 (RepDs.monoK g ds _ h6)
  | .dict _, _, h => by cases h
theorem RepDs.monoK (g : Kp ρ H ρ' H') : ∀ (ds : List D) (vs : List V), RepDs K ρ H vs ds → RepDs K ρ' H' vs ds
  | [], _, h => by cases h; exact .nil
  | d :: ds, _, h => by
    cases h with
    | cons h1 h2 => exact .cons (RepD.monoK g d _ h1) (RepDs.monoK g ds _ h2)
end
theorem RepD.mono (g : Ge ρ H ρ' H') (d : D) (v : V) (h : RepD K ρ H v d) : RepD K ρ' H' v d := RepD.monoK g.kp d v h
theorem RepDs.mono (g : Ge ρ H ρ' H') (ds : List D) (vs : List V) (h : RepDs K ρ H vs ds) : RepDs K ρ' H' vs ds := RepDs.monoK g.kp ds vs h
/-! fewer objects of the store -/
mutual
theorem RepD.less (hs : ∀ a, a ∈ ρ' → a ∈ ρ) : ∀ (d : D) (v : V), RepD K ρ H v d → RepD K ρ' H v d
  | .none, _, h => by cases h; exact .non
  | .bool b, _, h => by cases h; exact .bl b
  | .int i, _, h => by cases h; exact .int i
  | .str x, _, h => by cases h; exact .str x
  | .list ds, _, h => by
    cases h with
    | lst h1 h2 h3 => exact .lst h1 (fun z => h2 (hs _ z)) (RepDs.less hs ds _ h3)
  | .tuple ds, _, h => by
    cases h with
    | tup h1 h2 h3 => exact .tup h1 (fun z => h2 (hs _ z)) (RepDs.less hs ds _ h3)
    | tupK h1 h2 h3 h4 h5 h6 => exact .tupK h1 h2 h3 h4 h5 (RepDs.less hs ds _ h6)
  | .dict _, _, h => by cases h
theorem RepDs.less (hs : ∀ a, a ∈ ρ' → a ∈ ρ) : ∀ (ds : List D) (vs : List V), RepDs K ρ H vs ds → RepDs K ρ' H vs ds
  | [], _, h => by cases h; exact .nil
  | d :: ds, _, h => by
    cases h with
    | cons h1 h2 => exact .cons (RepD.less hs d _ h1) (RepDs.less hs ds _ h2)
end
theorem RepW.monoK (g : Kp ρ H ρ' H') {v : V} {w : Wv} (h : RepW K ρ H v w) : RepW K ρ' H' v w := by
  cases w with
  | d x => exact RepD.monoK g x v h
  | loc n =>
    obtain ⟨a, h1, h2⟩ := h
    exact ⟨a, g.at h1, h2⟩
  | scr xs =>
    obtain ⟨a, xs, h0, h1, h3⟩ := h
    exact ⟨a, xs, h0, h1.imp (fun ⟨o, e, n⟩ => ⟨o, g.keep _ _ e n, g.out _ _ e n⟩) id, RepDs.monoK g _ _ h3⟩
theorem RepW.mono (g : Ge ρ H ρ' H') {v : V} {w : Wv} (h : RepW K ρ H v w) : RepW K ρ' H' v w := h.monoK g.kp
theorem RepWs.mono (g : Ge ρ H ρ' H') : ∀ {vs : List V} {ws : List Wv}, RepWs K ρ H vs ws → RepWs K ρ' H' vs ws
  | _, _, .nil => .nil
  | _, _, .cons a b => .cons (a.mono g) (RepWs.mono g b)
theorem RepKs.monoK {κ : Type} (g : Kp ρ H ρ' H') : ∀ {vs : List (κ × V)} {ws : List (κ × D)}, RepKs K ρ H vs ws → RepKs K ρ' H' vs ws
  | _, _, .nil => .nil
  | _, _, .cons a b => .cons (RepD.monoK g _ _ a) (RepKs.monoK g b)
theorem RepKs.mono {κ : Type} (g : Ge ρ H ρ' H') {vs : List (κ × V)} {ws : List (κ × D)} (h : RepKs K ρ H vs ws) : RepKs K ρ' H' vs ws := h.monoK g.kp
theorem RepKs.less {κ : Type} (hs : ∀ a, a ∈ ρ' → a ∈ ρ) : ∀ {vs : List (κ × V)} {ws : List (κ × D)}, RepKs K ρ H vs ws → RepKs K ρ' H vs ws
  | _, _, .nil => .nil
  | _, _, .cons a b => .cons (RepD.less hs _ _ a) (RepKs.less hs b)
theorem RepDs.length : ∀ {vs : List V} {ds : List D}, RepDs K ρ H vs ds → vs.length = ds.length
  | _, _, .nil => rfl
  | _, _, .cons _ b => congrArg (· + 1) (RepDs.length b)
theorem RepWs.length : ∀ {vs : List V} {ds : List Wv}, RepWs K ρ H vs ds → vs.length = ds.length
  | _, _, .nil => rfl
  | _, _, .cons _ b => congrArg (· + 1) (RepWs.length b)
theorem RepDs.get : ∀ {vs : List V} {ds : List D} {i : Nat} {d : D}, RepDs K ρ H vs ds → ds[i]? = some d → ∃ v, vs[i]? = some v ∧ RepD K ρ H v d
  | _, _, _, _, .nil, h => by simp at h
  | _, _, 0, d, .cons a b, h => by
    simp at h; subst h
    exact ⟨_, rfl, a⟩
  | _, _, i + 1, d, .cons a b, h => by
    obtain ⟨v, h1, h2⟩ := RepDs.get (i := i) b (by simpa using h)
    exact ⟨v, by simpa using h1, h2⟩
theorem RepDs.getV : ∀ {vs : List V} {ds : List D} {i : Nat} {v : V}, RepDs K ρ H vs ds → vs[i]? = some v → ∃ d, ds[i]? = some d ∧ RepD K ρ H v d
  | _, _, _, _, .nil, h => by simp at h
  | _, _, 0, d, .cons a b, h => by
    simp at h; subst h
    exact ⟨_, rfl, a⟩
  | _, _, i + 1, d, .cons a b, h => by
    obtain ⟨v, h1, h2⟩ := RepDs.getV (i := i) b (by simpa using h)
    exact ⟨v, by simpa using h1, h2⟩
theorem RepDs.append : ∀ {vs us : List V} {ds es : List D}, RepDs K ρ H vs ds → RepDs K ρ H us es → RepDs K ρ H (vs ++ us) (ds ++ es)
  | _, _, _, _, .nil, h => h
  | _, _, _, _, .cons a b, h => .cons a (RepDs.append b h)
theorem RepDs.take : ∀ {vs : List V} {ds : List D} (n : Nat), RepDs K ρ H vs ds → RepDs K ρ H (vs.take n) (ds.take n)
  | _, _, 0, _ => .nil
  | _, _, _ + 1, .nil => .nil
  | _, _, n + 1, .cons a b => .cons a (RepDs.take n b)
theorem RepDs.drop : ∀ {vs : List V} {ds : List D} (n : Nat), RepDs K ρ H vs ds → RepDs K ρ H (vs.drop n) (ds.drop n)
  | _, _, 0, h => h
  | _, _, _ + 1, .nil => .nil
  | _, _, n + 1, .cons a b => RepDs.drop n b
theorem RepDs.set {v : V} {d : D} (r : RepD K ρ H v d) : ∀ {vs : List V} {ds : List D} (n : Nat), RepDs K ρ H vs ds → RepDs K ρ H (vs.set n v) (ds.set n d)
  | _, _, _, .nil => .nil
  | _, _, 0, .cons a b => .cons r b
  | _, _, n + 1, .cons a b => .cons a (RepDs.set r n b)
theorem RepO.monoK {G : Gm} (g : Kp ρ H ρ' H') {a : Addr} {o : Ob} (h : RepO G ρ H a o) (e : H' a = H a) : RepO G ρ' H' a o := by
  cases o with
  | lst ds =>
    obtain ⟨xs, h1, h2⟩ := h
    exact ⟨xs, e.trans h1, RepDs.monoK g _ _ h2⟩
  | dK ds =>
    obtain ⟨xs, h1, h2⟩ := h
    exact ⟨xs, e.trans h1, h2.monoK g⟩
  | ins C fs =>
    obtain ⟨c, dx, xs, h0, h1, h2⟩ := h
    exact ⟨c, dx, xs, h0, e.trans h1, h2.monoK g⟩
theorem RepO.mono {G : Gm} (g : Ge ρ H ρ' H') {a : Addr} {o : Ob} (h : RepO G ρ H a o) (e : H' a = H a) : RepO G ρ' H' a o := h.monoK g.kp e
theorem RepO.less {G : Gm} (hs : ∀ a, a ∈ ρ' → a ∈ ρ) {a : Addr} {o : Ob} (h : RepO G ρ H a o) : RepO G ρ' H a o := by
  cases o with
  | lst ds =>
    obtain ⟨xs, h1, h2⟩ := h
    exact ⟨xs, h1, RepDs.less hs _ _ h2⟩
  | dK ds =>
    obtain ⟨xs, h1, h2⟩ := h
    exact ⟨xs, h1, h2.less hs⟩
  | ins C fs =>
    obtain ⟨c, dx, xs, h0, h1, h2⟩ := h
    exact ⟨c, dx, xs, h0, h1, h2.less hs⟩
theorem RepO.there {G : Gm} {a : Addr} {o : Ob} (h : RepO G ρ H a o) : ∃ u, H a = some u := by
  cases o with
  | lst ds => exact let ⟨xs, h1, _⟩ := h; ⟨_, h1⟩
  | dK ds => exact let ⟨xs, h1, _⟩ := h; ⟨_, h1⟩
  | ins C fs => exact let ⟨_, _, xs, _, h1, _⟩ := h; ⟨_, h1⟩
end

section
variable {G : Gm} {ρ : Rh} {H : Hp} {S : Sto} {p : Addr}
theorem nodup_at {α : Type} {l : List α} (h : l.Nodup) {i j : Nat} {x : α} (a : l[i]? = some x) (b : l[j]? = some x) : i = j := by
  obtain ⟨h1, e1⟩ := List.getElem?_eq_some_iff.mp a
  obtain ⟨h2, e2⟩ := List.getElem?_eq_some_iff.mp b
  exact (List.getElem_inj h).mp (e1.trans e2.symm)
theorem Wd.tracked (w : Wd G ρ H S) {a : Addr} (h : a ∈ ρ) : ∃ u, H a = some u := by
  rcases h with h | h
  · obtain ⟨n, hn⟩ := List.mem_iff_getElem?.mp h
    have hl : n < S.length := by rw [← w.len]; exact (List.getElem?_eq_some_iff.mp hn).1
    exact (w.obj n a _ hn (List.getElem?_eq_some_iff.mpr ⟨hl, rfl⟩)).there
  · exact w.hid a h
theorem Wd.notin (w : Wd G ρ H S) (h : H p = none) : p ∉ ρ := fun z => by
  obtain ⟨u, hu⟩ := w.tracked z
  rw [h] at hu; cases hu
theorem Wd.notx (w : Wd G ρ H S) (h : H p = none) : p ∉ ρ.x := fun z => w.notin h (.inr z)
theorem Wd.geF {o : HO} (w : Wd G ρ H S) (h : H p = none) : Ge ρ H ρ (upd H p o) := Ge.fresh h (w.notx h)
theorem Wd.geP {o : HO} (w : Wd G ρ H S) (h : H p = none) : Ge ρ H (ρ.push p) (upd H p o) := Ge.push h (w.notx h)
/-- a new object that the store does not hold -/
theorem Wd.fresh {o : HO} (w : Wd G ρ H S) (h : H p = none) : Wd G ρ (upd H p o) S :=
  ⟨w.nd, w.len, fun n a ob h1 h2 => (w.obj n a ob h1 h2).mono (w.geF h) (upd_ne fun e => by
    obtain ⟨u, hu⟩ := (w.obj n a ob h1 h2).there
    rw [e, h] at hu; cases hu), fun a ha => by
      obtain ⟨u, hu⟩ := w.hid a ha
      exact ⟨u, by rw [upd_ne (fun e => by subst e; exact w.notx h ha)]; exact hu⟩, w.dis⟩
/-- an object of the store written -/
theorem Wd.wrote {o : HO} {ob : Ob} {n : Nat} (w : Wd G ρ H S) (hn : ρ.l[n]? = some p) (ho : RepO G ρ (upd H p o) p ob) : Wd G ρ (upd H p o) (S.set n ob) := by
  have hp : p ∈ ρ.l := List.mem_of_getElem? hn
  refine ⟨w.nd, by rw [List.length_set]; exact w.len, fun m a o' h1 h2 => ?_, fun a ha => ?_, w.dis⟩
  · by_cases e : n = m
    · subst e
      rw [hn] at h1
      cases h1
      have hl : n < S.length := by rw [← w.len]; exact (List.getElem?_eq_some_iff.mp hn).1
      rw [List.getElem?_set_self hl] at h2
      cases h2
      exact ho
    · rw [List.getElem?_set_ne e] at h2
      exact (w.obj m a o' h1 h2).mono (Ge.wrote hp (w.dis p hp)) (upd_ne fun z => e (nodup_at w.nd hn (z ▸ h1)))
  · obtain ⟨u, hu⟩ := w.hid a ha
    exact ⟨u, by rw [upd_ne (fun e => by subst e; exact w.dis a hp ha)]; exact hu⟩
/-- a new object of the store -/
theorem Wd.push {o : HO} {ob : Ob} (w : Wd G ρ H S) (h : H p = none) (ho : RepO G (ρ.push p) (upd H p o) p ob) : Wd G (ρ.push p) (upd H p o) (S ++ [ob]) := by
  have np : p ∉ ρ.l := fun z => w.notin h (.inl z)
  refine ⟨?_, by simp [w.len], fun m a o' h1 h2 => ?_, fun a ha => ?_, fun a ha hx => ?_⟩
  · show (ρ.l ++ [p]).Nodup
    rw [List.nodup_append]
    refine ⟨w.nd, by simp, fun a ha b hb e => ?_⟩
    have eb : b = p := by simpa using hb
    rw [e, eb] at ha
    exact np ha
  · have h1 : (ρ.l ++ [p])[m]? = some a := h1
    by_cases hm : m < ρ.l.length
    · rw [List.getElem?_append_left hm] at h1
      rw [List.getElem?_append_left (by rw [← w.len]; exact hm)] at h2
      exact (w.obj m a o' h1 h2).mono (w.geP h) (upd_ne fun e => np (e ▸ List.mem_of_getElem? h1))
    · rw [List.getElem?_append_right (by omega)] at h1
      rw [List.getElem?_append_right (by rw [← w.len]; omega), ← w.len] at h2
      have e0 : m - ρ.l.length = 0 := by
        cases q : m - ρ.l.length with
        | zero => rfl
        | succ k => rw [q] at h1; simp at h1
      rw [e0] at h1 h2
      simp at h1 h2
      subst h1 h2
      exact ho
  · obtain ⟨u, hu⟩ := w.hid a ha
    exact ⟨u, by rw [upd_ne (fun e => by subst e; exact w.notx h ha)]; exact hu⟩
  · rcases List.mem_append.mp ha with z | z
    · exact w.dis a z hx
    · have e : a = p := by simpa using z
      subst e
      exact w.notx h hx
theorem Wd.take (w : Wd G ρ H S) (n : Nat) : Wd G ⟨ρ.l.take n, ρ.x⟩ H (S.take n) := by
  have hs : ∀ a, a ∈ (⟨ρ.l.take n, ρ.x⟩ : Rh) → a ∈ ρ := fun a h => h.imp List.mem_of_mem_take id
  refine ⟨w.nd.sublist (List.take_sublist _ _), by simp [w.len], fun m a o h1 h2 => ?_, w.hid, fun a ha => w.dis a (List.mem_of_mem_take ha)⟩
  have h1 : (ρ.l.take n)[m]? = some a := h1
  have hm : m < n := by
    have := (List.getElem?_eq_some_iff.mp h1).1
    rw [List.length_take] at this
    omega
  rw [List.getElem?_take_of_lt hm] at h1 h2
  exact (w.obj m a o h1 h2).less hs
end

/-! ## slots -/
def RelE (K : PySem.W.Frag) (ρ : Rh) (H : Hp) (σ : St) (env : Sl) : Prop :=
  σ.length = env.length ∧ ∀ (i : Nat) (w : Wv), env[i]? = some (some w) → ∃ v, σ[i]? = some (some v) ∧ RepW K ρ H v w
theorem RelE.monoK {K : PySem.W.Frag} {ρ ρ' : Rh} {H H' : Hp} {σ : St} {env : Sl} (g : Kp ρ H ρ' H') (h : RelE K ρ H σ env) : RelE K ρ' H' σ env :=
  ⟨h.1, fun i w e => let ⟨v, h1, h2⟩ := h.2 i w e; ⟨v, h1, h2.monoK g⟩⟩
theorem RelE.mono {K : PySem.W.Frag} {ρ ρ' : Rh} {H H' : Hp} {σ : St} {env : Sl} (g : Ge ρ H ρ' H') (h : RelE K ρ H σ env) : RelE K ρ' H' σ env := h.monoK g.kp
theorem RelE.set {K : PySem.W.Frag} {ρ : Rh} {H : Hp} {σ : St} {env : Sl} (h : RelE K ρ H σ env) {v : V} {w : Wv} (r : RepW K ρ H v w) (i : Nat) : RelE K ρ H (σ.set i (some v)) (env.set i (some w)) := by
  refine ⟨by simp [h.1], fun j w' e => ?_⟩
  by_cases hj : i = j
  · subst hj
    by_cases hi : i < env.length
    · rw [List.getElem?_set_self hi] at e
      cases e
      exact ⟨v, List.getElem?_set_self (by rw [h.1]; exact hi), r⟩
    · rw [List.getElem?_eq_none (by simpa using hi)] at e
      cases e
  · rw [List.getElem?_set_ne hj] at e
    obtain ⟨v', h1, h2⟩ := h.2 j w' e
    exact ⟨v', by rw [List.getElem?_set_ne hj]; exact h1, h2⟩
theorem RelE.wipe {K : PySem.W.Frag} {ρ : Rh} {H : Hp} {σ : St} {env : Sl} (h : RelE K ρ H σ env) (i : Nat) : RelE K ρ H (σ.set i none) (env.set i none) := by
  refine ⟨by simp [h.1], fun j w' e => ?_⟩
  by_cases hj : i = j
  · subst hj
    by_cases hi : i < env.length
    · rw [List.getElem?_set_self hi] at e
      cases e
    · rw [List.getElem?_eq_none (by simpa using hi)] at e
      cases e
  · rw [List.getElem?_set_ne hj] at e
    obtain ⟨v', h1, h2⟩ := h.2 j w' e
    exact ⟨v', by rw [List.getElem?_set_ne hj]; exact h1, h2⟩
end Bq
set_option Elab.async false
set_option linter.all false
set_option maxRecDepth 100000
set_option maxHeartbeats 2000000
/-! # The judgement: an expression of the program computes a function of the data semantics -/
namespace Bq
open PySem L2

def RepX (G : Gm) (ρ : Rh) (H : Hp) (e : Xn) (c : Value) (d : Option Addr) : Prop :=
  (∃ ca, G.mg e.cls = some (.ref ca) ∧ c = .ref ca) ∧ (e.fs = [] ∨ ∃ dx xs, d = some dx ∧ H dx = some (.xd xs) ∧ dx ∉ ρ ∧ RepKs G.K ρ H xs e.fs)
theorem RepX.mono {G : Gm} {ρ ρ' : Rh} {H H' : Hp} {e : Xn} {c : Value} {d : Option Addr} (g : Ge ρ H ρ' H') (h : RepX G ρ H e c d) : RepX G ρ' H' e c d :=
  ⟨h.1, h.2.imp id fun ⟨dx, xs, h1, h2, h3, h4⟩ => ⟨dx, xs, h1, g.keep _ _ h2 h3, g.out h2 h3, h4.mono g⟩⟩

abbrev RelT (β α : Type) := Rh → Hp → β → α → Prop
def Po {α β : Type} (G : Gm) (R : RelT β α) (Wx : WX) (σ : St) (ρ : Rh) (H : Hp) (r : Rs α) (S' : Sto) (Q : β → Hp → Prop) : Prop :=
  match r with
  | .ok w => ∀ v H' ρ', Ge ρ H ρ' H' → Wd G ρ' H' S' → R ρ' H' v w → Q v H'
  | .ex e => ∀ c d H' ρ', Ge ρ H ρ' H' → Wd G ρ' H' S' → RepX G ρ' H' e c d → Wx c d σ H'
section
variable {α β γ δ : Type} {G : Gm} {R : RelT β α} {R' : RelT δ γ} {Wx : WX} {σ : St} {ρ ρ' : Rh} {H H' : Hp} {S S' : Sto} {Q : δ → Hp → Prop} {Q1 : β → Hp → Prop} {env : Sl}
theorem Po.mono {r : Rs α} (g : Ge ρ H ρ' H') (h : Po G R Wx σ ρ H r S' Q1) : Po G R Wx σ ρ' H' r S' Q1 := by
  cases r with
  | ok w => exact fun v H2 ρ2 g2 w2 r2 => h v H2 ρ2 (g.trans g2) w2 r2
  | ex e => exact fun c d H2 ρ2 g2 w2 r2 => h c d H2 ρ2 (g.trans g2) w2 r2
theorem Po.ok {w : α} {v : β} (h : Po G R Wx σ ρ H (.ok w) S' Q1) (hw : Wd G ρ H S') (r : R ρ H v w) : Q1 v H := h v H ρ (Ge.refl _ _) hw r

def tG (G : Gm) (R : RelT β α) (Wx : WX) (f : Sl → M α) : St → Hp → (β → Hp → Prop) → Prop := fun σ H Q =>
  ∃ env S ρ r S', RelE G.K ρ H σ env ∧ Wd G ρ H S ∧ f env S = some (r, S') ∧ Po G R Wx σ ρ H r S' Q

/-- the first part of a sequence -/
theorem tG_bnd {f : Sl → M α} {k : α → M γ} {r : Rs γ} (he : RelE G.K ρ H σ env) (hw : Wd G ρ H S) (h : M.bnd (f env) k S = some (r, S')) (hp : Po G R' Wx σ ρ H r S' Q)
    (hk : ∀ x S1 v H1 ρ1, k x S1 = some (r, S') → Ge ρ H ρ1 H1 → Wd G ρ1 H1 S1 → R ρ1 H1 v x → RelE G.K ρ1 H1 σ env → Po G R' Wx σ ρ1 H1 r S' Q → Q1 v H1) :
    tG G R Wx f σ H Q1 := by
  unfold M.bnd at h
  cases e : f env S with
  | none => rw [e] at h; cases h
  | some p =>
    obtain ⟨r1, S1⟩ := p
    rw [e] at h
    cases r1 with
    | ok x => exact ⟨env, S, ρ, .ok x, S1, he, hw, e, fun v H1 ρ1 g w1 r1 => hk x S1 v H1 ρ1 h g w1 r1 (he.mono g) (hp.mono g)⟩
    | ex z =>
      have h' : some (Rs.ex z, S1) = some (r, S') := h
      cases h'
      exact ⟨env, S, ρ, .ex z, _, he, hw, e, fun c d H1 ρ1 g w1 r1 => hp c d H1 ρ1 g w1 r1⟩
end

section
variable {X : Cx} {e : Expr}
theorem pe_imp {t t' : TE} (h : PE X e t) (k : ∀ σ H Q, t' σ H Q → t σ H Q) : PE X e t' := ⟨fun pins s σ H Q I q => h.run pins s σ H Q I (k σ H Q q)⟩
theorem pt_imp {t t' : TT} (h : PT X e t) (k : ∀ σ H Q, t' σ H Q → t σ H Q) : PT X e t' := ⟨fun pins s σ H Q I q => h.run pins s σ H Q I (k σ H Q q)⟩
theorem pw_imp {t t' : TT} (h : PW X e t) (k : ∀ σ H Q, t' σ H Q → t σ H Q) : PW X e t' := ⟨fun wh pins s σ H Q I q => h.run wh pins s σ H Q I (k σ H Q q)⟩
theorem pa_imp {es : List Expr} {t t' : TA} (h : PA X es t) (k : ∀ σ H Q, t' σ H Q → t σ H Q) : PA X es t' := ⟨fun pos pins s σ H Q I q => h.run pos pins s σ H Q I (k σ H Q q)⟩
theorem ps_imp {st : Stmt} {t t' : TS} (h : PS X st t) (k : ∀ D σ H, t' D σ H → t D σ H) : PS X st t' := ⟨fun pins s σ H D I q => h.run pins s σ H D I (k D σ H q)⟩
theorem pss_imp {st : List Stmt} {t t' : TS} (h : PSs X st t) (k : ∀ D σ H, t' D σ H → t D σ H) : PSs X st t' := ⟨fun pins s σ H D I q => h.run pins s σ H D I (k D σ H q)⟩
end
def REq {α : Type} : RelT α α := fun _ _ x y => x = y

/-- the judgements -/
def PD (X : Cx) (Wx : WX) (e : Expr) (f : SE) : Prop := PE X e (tG (gmOf X) (RepW X.K) Wx f)
def PTD (X : Cx) (Wx : WX) (e : Expr) (f : Sl → M Bool) : Prop := PT X e (tG (gmOf X) REq Wx f)
def PWD (X : Cx) (Wx : WX) (e : Expr) (f : Sl → M Bool) : Prop := PW X e (tG (gmOf X) REq Wx f)
def PAD (X : Cx) (Wx : WX) (es : List Expr) (f : Sl → M (List Wv)) : Prop := PA X es (tG (gmOf X) (RepWs X.K) Wx f)

/-- an operator by values -/
def OpD (G : Gm) (r : R2) (g : Wv → Wv → M Wv) : Prop :=
  ∀ (ρ : Rh) (H : Hp) (S : Sto) (x y : V) (wx wy : Wv) (Q : VK) (rr : Rs Wv) (S' : Sto) (Wx : WX) (σ : St), Wd G ρ H S → RepW G.K ρ H x wx → RepW G.K ρ H y wy → g wx wy S = some (rr, S') →
    Po G (RepW G.K) Wx σ ρ H rr S' Q → r x y H Q
def CallD (G : Gm) (r : List V → Hp → VK → Prop) (g : List Wv → M Wv) : Prop :=
  ∀ (ρ : Rh) (H : Hp) (S : Sto) (xs : List V) (ws : List Wv) (Q : VK) (rr : Rs Wv) (S' : Sto) (Wx : WX) (σ : St), Wd G ρ H S → RepWs G.K ρ H xs ws → g ws S = some (rr, S') →
    Po G (RepW G.K) Wx σ ρ H rr S' Q → r xs H Q

/-! ## expressions -/
@[reducible] def eVar (i : Nat) : SE := fun env => match env[i]? with
  | some (some w) => M.ret w
  | _ => M.no
@[reducible] def eC (x : D) : SE := fun _ => M.ret (.d x)
@[reducible] def eBin (g : Wv → Wv → M Wv) (a b : SE) : SE := fun env => M.bnd (a env) fun x => M.bnd (b env) fun y => g x y
@[reducible] def aNil : Sl → M (List Wv) := fun _ => M.ret []
@[reducible] def aCons (a : SE) (r : Sl → M (List Wv)) : Sl → M (List Wv) := fun env => M.bnd (a env) fun x => M.bnd (r env) fun xs => M.ret (x :: xs)
@[reducible] def eCall (g : List Wv → M Wv) (a : Sl → M (List Wv)) : SE := fun env => M.bnd (a env) g
@[reducible] def eIf (c : Sl → M Bool) (a b : SE) : SE := fun env => M.bnd (c env) fun k => if k = true then a env else b env
@[reducible] def cNot (c : Sl → M Bool) : Sl → M Bool := fun env => M.bnd (c env) fun k => M.ret (!k)
@[reducible] def cAnd (c d : Sl → M Bool) : Sl → M Bool := fun env => M.bnd (c env) fun k => if k = true then d env else M.ret false
@[reducible] def cOr (c d : Sl → M Bool) : Sl → M Bool := fun env => M.bnd (c env) fun k => if k = true then M.ret true else d env
@[reducible] def toB : Wv → M Bool
  | .d (.bool b) => M.ret b
  | _ => M.no
@[reducible] def cVal (a : SE) : Sl → M Bool := fun env => M.bnd (a env) toB
@[reducible] def eAnd (a b : SE) : SE := fun env => M.bnd (a env) fun x => M.bnd (toB x) fun k => if k = true then b env else M.ret (.d (.bool false))
@[reducible] def eOr (a b : SE) : SE := fun env => M.bnd (a env) fun x => M.bnd (toB x) fun k => if k = true then M.ret (.d (.bool true)) else b env
@[reducible] def eNot (a : SE) : SE := fun env => M.bnd (a env) fun x => M.bnd (toB x) fun k => M.ret (.d (.bool (!k)))
/-- a op b op' c -/
@[reducible] def eChain (g g' : Wv → Wv → M Wv) (a b c : SE) : SE := fun env => M.bnd (a env) fun x => M.bnd (b env) fun y => M.bnd (g x y) fun z => M.bnd (toB z) fun k =>
  if k = true then M.bnd (c env) fun w => g' y w else M.ret (.d (.bool false))

theorem M.ret_eq {α : Type} {a : α} {S S' : Sto} {r : Rs α} (h : M.ret a S = some (r, S')) : r = .ok a ∧ S' = S := by
  have h' : some (Rs.ok a, S) = some (r, S') := h
  cases h'
  exact ⟨rfl, rfl⟩

section
variable {X : Cx} {Wx : WX} {a b c : Expr} {fa fb fc : SE} {pos : Pos}

theorem pd_var (i : Nat) {x : Str} {pos : Pos} (hN : X.N[i]? = some x := by rfl) (hv : Vis X.env.scope x := by first | exact Or.inl rfl | exact Or.inr (Or.inl rfl) | exact Or.inr (Or.inr rfl)) (hd : (x == ("__debug__" : Str)) = false := by decide)
    (hcd : (x == ("__classdict__" : Str)) = false := by decide) : PD X Wx (.Name x pos) (eVar i) := by
  refine pe_imp (pe_var hN hv hd hcd) fun σ H Q ⟨env, S, ρ, r, S', he, hw, hf, hp⟩ => ?_
  unfold eVar at hf
  cases e : env[i]? with
  | none => rw [e] at hf; cases hf
  | some o =>
    cases o with
    | none => rw [e] at hf; cases hf
    | some w =>
      rw [e] at hf
      obtain ⟨rfl, rfl⟩ := M.ret_eq hf
      obtain ⟨v, h1, h2⟩ := he.2 i w e
      exact ⟨v, h1, hp.ok hw h2⟩
theorem pd_const {e : Expr} {v : V} {x : D} (h : PE X e (tC v)) (r : ∀ ρ H, RepD X.K ρ H v x) : PD X Wx e (eC x) := by
  refine pe_imp h fun σ H Q ⟨env, S, ρ, rr, S', he, hw, hf, hp⟩ => ?_
  obtain ⟨rfl, rfl⟩ := M.ret_eq hf
  exact hp.ok hw (show RepW X.K ρ H v (.d x) from r ρ H)
theorem pd_int {i : Int} {j : Nat} : PD X Wx (.Constant (.int i) j pos) (eC (.int i)) := pd_const pe_int fun _ _ => .int i
theorem pd_bl {b : Bool} {j : Nat} : PD X Wx (.Constant (.bool b) j pos) (eC (.bool b)) := pd_const pe_bl fun _ _ => .bl b
theorem pd_non {j : Nat} : PD X Wx (.Constant .none j pos) (eC .none) := pd_const pe_non fun _ _ => .non
theorem pd_str {x : Str} {j : Nat} : PD X Wx (.Constant (.str x) j pos) (eC (.str x)) := pd_const pe_str fun _ _ => .str x

theorem pd_op {op : Operator} {r : R2} {g : Wv → Wv → M Wv} (ho : OpR X (binaryOp op) r) (hg : OpD (gmOf X) r g) (ha : PD X Wx a fa) (hb : PD X Wx b fb) : PD X Wx (.BinOp a op b pos) (eBin g fa fb) :=
  pe_imp (pe_op ho ha hb) fun σ H Q ⟨env, S, ρ, r, S', he, hw, hf, hp⟩ => tG_bnd he hw hf hp fun x S1 v H1 ρ1 hk g1 w1 rx he1 hp1 =>
    tG_bnd he1 w1 hk hp1 fun y S2 v2 H2 ρ2 hk2 g2 w2 ry he2 hp2 => hg ρ2 H2 S2 v v2 x y Q r S' Wx σ w2 (RepW.mono g2 rx) ry hk2 hp2
theorem pd_cmp {op : CmpOp} {r : R2} {g : Wv → Wv → M Wv} (ho : OpR X (compareOp op) r) (hg : OpD (gmOf X) r g) (ha : PD X Wx a fa) (hb : PD X Wx b fb) (hm : behindInMarks op b = false) : PD X Wx (.Compare a [op] [b] pos) (eBin g fa fb) :=
  pe_imp (pe_cmpR ho ha hb hm) fun σ H Q ⟨env, S, ρ, r, S', he, hw, hf, hp⟩ => tG_bnd he hw hf hp fun x S1 v H1 ρ1 hk g1 w1 rx he1 hp1 =>
    tG_bnd he1 w1 hk hp1 fun y S2 v2 H2 ρ2 hk2 g2 w2 ry he2 hp2 => hg ρ2 H2 S2 v v2 x y Q r S' Wx σ w2 (RepW.mono g2 rx) ry hk2 hp2
/-- from an operator's end to a bool -/
theorem toB_end {G : Gm} {K : PySem.W.Frag} {σ : St} {ρ : Rh} {H : Hp} {z : Wv} {v : V} {S S' : Sto} {α β : Type} {R : RelT β α} {r : Rs α} {k : Bool → M α} (h : M.bnd (toB z) k S = some (r, S')) (rz : RepW K ρ H v z) : ∃ b, v = .bl b ∧ z = .d (.bool b) ∧ k b S = some (r, S') := by
  cases z with
  | d x =>
    cases x with
    | bool b =>
      cases (show RepD K ρ H v (.bool b) from rz)
      exact ⟨b, rfl, rfl, h⟩
    | _ => cases h
  | loc n => cases h
  | scr n => cases h
theorem toB_end' {K : PySem.W.Frag} {ρ : Rh} {H : Hp} {z : Wv} {v : V} {S S' : Sto} {r : Rs Bool} (h : toB z S = some (r, S')) (rz : RepW K ρ H v z) : ∃ b, v = .bl b ∧ r = .ok b ∧ S' = S := by
  cases z with
  | d x =>
    cases x with
    | bool b =>
      cases (show RepD K ρ H v (.bool b) from rz)
      obtain ⟨rfl, rfl⟩ := M.ret_eq h
      exact ⟨b, rfl, rfl, rfl⟩
    | _ => cases h
  | loc n => cases h
  | scr n => cases h
theorem ptd_cmp {op : CmpOp} {r : R2} {g : Wv → Wv → M Wv} (ho : OpR X (compareOp op) r) (hg : OpD (gmOf X) r g) (ha : PD X Wx a fa) (hb : PD X Wx b fb) (hm : behindInMarks op b = false) : PTD X Wx (.Compare a [op] [b] pos) (cVal (eBin g fa fb)) := by
  refine pt_imp (pt_cmpR ho ha hb hm) fun σ H Q ⟨env, S, ρ, rr, S', he, hw, hf, hp⟩ => ?_
  have h2 : M.bnd (fa env) (fun x => M.bnd (fb env) fun y => M.bnd (g x y) toB) S = some (rr, S') := by
    rw [← hf]
    unfold cVal eBin M.bnd
    dsimp only
    cases e : fa env S with
    | none => rfl
    | some p =>
      obtain ⟨r1, S1⟩ := p
      cases r1 with
      | ex z => rfl
      | ok x =>
        dsimp only
        cases e2 : fb env S1 with
        | none => rfl
        | some p =>
          obtain ⟨r2, S2⟩ := p
          cases r2 <;> rfl
  refine tG_bnd he hw h2 hp fun x S1 v H1 ρ1 hk g1 w1 rx he1 hp1 =>
    tG_bnd he1 w1 hk hp1 fun y S2 v2 H2 ρ2 hk2 g2 w2 ry he2 hp2 => ?_
  unfold M.bnd at hk2
  cases e : g x y S2 with
  | none => rw [e] at hk2; cases hk2
  | some p =>
    obtain ⟨r3, S3⟩ := p
    rw [e] at hk2
    cases r3 with
    | ex z =>
      have h' : some (Rs.ex z, S3) = some (rr, S') := hk2
      cases h'
      exact hg ρ2 H2 S2 v v2 x y _ (.ex z) _ Wx σ w2 (RepW.mono g2 rx) ry e fun c d H3 ρ3 g3 w3 r3 => hp2 c d H3 ρ3 g3 w3 r3
    | ok z =>
      refine hg ρ2 H2 S2 v v2 x y _ (.ok z) S3 Wx σ w2 (RepW.mono g2 rx) ry e fun vz H3 ρ3 g3 w3 r3 => ?_
      obtain ⟨bb, rfl, rfl, rfl⟩ := toB_end' hk2 r3
      exact ⟨bb, rfl, (hp2.mono g3).ok w3 rfl⟩
/-- a test by its value -/
theorem ptd_val (h : PD X Wx a fa) (he : ∀ whole, isTrue a X.env whole = (do let v ← whole; standAt a.pos; holding [v] (truthy v)) := by intro _; rfl) : PTD X Wx a (cVal fa) := by
  refine pt_imp (pt_val h he) fun σ H Q ⟨env, S, ρ, rr, S', he, hw, hf, hp⟩ => ?_
  refine tG_bnd he hw hf hp fun x S1 v H1 ρ1 hk g1 w1 rx he1 hp1 => ?_
  obtain ⟨bb, rfl, rfl, rfl⟩ := toB_end' hk rx
  exact ⟨bb, rfl, hp1.ok w1 rfl⟩

variable {ca cb : Sl → M Bool} {rest : List Expr}
theorem ptd_not (h : PTD X Wx a ca) : PTD X Wx (.UnaryOp .Not a pos) (cNot ca) := by
  refine pt_imp (pt_not h) fun σ H Q ⟨env, S, ρ, rr, S', he, hw, hf, hp⟩ => ?_
  refine tG_bnd he hw hf hp fun x S1 v H1 ρ1 hk g1 w1 rx he1 hp1 => ?_
  obtain ⟨rfl, rfl⟩ := M.ret_eq hk
  cases (show v = x from rx)
  exact hp1.ok w1 rfl
theorem pwd_pt (h : PWD X Wx a ca) : PTD X Wx a ca := PW.pt h
theorem pwd_and1 (h : PTD X Wx a ca) : PWD X Wx (.BoolOp .And [a] pos) ca := pw_and1 h
theorem pwd_or1 (h : PTD X Wx a ca) : PWD X Wx (.BoolOp .Or [a] pos) ca := pw_or1 h
theorem pwd_and (ha : PTD X Wx a ca) (hb : PWD X Wx (.BoolOp .And (b :: rest) pos) cb) : PWD X Wx (.BoolOp .And (a :: b :: rest) pos) (cAnd ca cb) := by
  refine pw_imp (pw_and ha hb) fun σ H Q ⟨env, S, ρ, rr, S', he, hw, hf, hp⟩ => ?_
  refine tG_bnd he hw hf hp fun x S1 v H1 ρ1 hk g1 w1 rx he1 hp1 => ?_
  cases (show v = x from rx)
  cases x with
  | true =>
    rw [if_pos rfl] at hk ⊢
    exact ⟨env, S1, ρ1, rr, S', he1, w1, hk, hp1⟩
  | false =>
    rw [if_neg Bool.false_ne_true] at hk ⊢
    obtain ⟨rfl, rfl⟩ := M.ret_eq hk
    exact hp1.ok w1 rfl
theorem pwd_or (ha : PTD X Wx a ca) (hb : PWD X Wx (.BoolOp .Or (b :: rest) pos) cb) : PWD X Wx (.BoolOp .Or (a :: b :: rest) pos) (cOr ca cb) := by
  refine pw_imp (pw_or ha hb) fun σ H Q ⟨env, S, ρ, rr, S', he, hw, hf, hp⟩ => ?_
  refine tG_bnd he hw hf hp fun x S1 v H1 ρ1 hk g1 w1 rx he1 hp1 => ?_
  cases (show v = x from rx)
  cases x with
  | false =>
    rw [if_neg Bool.false_ne_true] at hk ⊢
    exact ⟨env, S1, ρ1, rr, S', he1, w1, hk, hp1⟩
  | true =>
    rw [if_pos rfl] at hk ⊢
    obtain ⟨rfl, rfl⟩ := M.ret_eq hk
    exact hp1.ok w1 rfl
theorem pd_one {op : BoolOp} (h : PD X Wx a fa) : PD X Wx (.BoolOp op [a] pos) fa := pe_one h
theorem pd_and (ha : PD X Wx a fa) (hb : PD X Wx (.BoolOp .And (b :: rest) pos) fb) : PD X Wx (.BoolOp .And (a :: b :: rest) pos) (eAnd fa fb) := by
  refine pe_imp (pe_and ha hb) fun σ H Q ⟨env, S, ρ, rr, S', he, hw, hf, hp⟩ => ?_
  refine tG_bnd he hw hf hp fun x S1 v H1 ρ1 hk g1 w1 rx he1 hp1 => ?_
  obtain ⟨k, rfl, rfl, hk2⟩ := toB_end (G := gmOf X) (σ := σ) (R := RepW X.K) hk rx
  clear hk
  have hk := hk2
  clear hk2
  refine ⟨k, rfl, ?_⟩
  cases k with
  | true =>
    rw [if_pos rfl] at hk ⊢
    exact ⟨env, S1, ρ1, rr, S', he1, w1, hk, hp1⟩
  | false =>
    rw [if_neg Bool.false_ne_true] at hk ⊢
    obtain ⟨rfl, rfl⟩ := M.ret_eq hk
    exact hp1.ok w1 (show RepD _ _ _ _ _ from .bl false)
theorem pd_or (ha : PD X Wx a fa) (hb : PD X Wx (.BoolOp .Or (b :: rest) pos) fb) : PD X Wx (.BoolOp .Or (a :: b :: rest) pos) (eOr fa fb) := by
  refine pe_imp (pe_or ha hb) fun σ H Q ⟨env, S, ρ, rr, S', he, hw, hf, hp⟩ => ?_
  refine tG_bnd he hw hf hp fun x S1 v H1 ρ1 hk g1 w1 rx he1 hp1 => ?_
  obtain ⟨k, rfl, rfl, hk2⟩ := toB_end (G := gmOf X) (σ := σ) (R := RepW X.K) hk rx
  clear hk
  have hk := hk2
  clear hk2
  refine ⟨k, rfl, ?_⟩
  cases k with
  | false =>
    rw [if_neg Bool.false_ne_true] at hk ⊢
    exact ⟨env, S1, ρ1, rr, S', he1, w1, hk, hp1⟩
  | true =>
    rw [if_pos rfl] at hk ⊢
    obtain ⟨rfl, rfl⟩ := M.ret_eq hk
    exact hp1.ok w1 (show RepD _ _ _ _ _ from .bl true)
theorem pd_not (ha : PD X Wx a fa) : PD X Wx (.UnaryOp .Not a pos) (eNot fa) := by
  refine pe_imp (pe_not ha) fun σ H Q ⟨env, S, ρ, rr, S', he, hw, hf, hp⟩ => ?_
  refine tG_bnd he hw hf hp fun x S1 v H1 ρ1 hk g1 w1 rx he1 hp1 => ?_
  obtain ⟨k, rfl, rfl, hk2⟩ := toB_end (G := gmOf X) (σ := σ) (R := RepW X.K) hk rx
  clear hk
  have hk := hk2
  clear hk2
  obtain ⟨rfl, rfl⟩ := M.ret_eq hk
  exact ⟨k, rfl, hp1.ok w1 (show RepD _ _ _ _ _ from .bl _)⟩
theorem pd_if (hc : PTD X Wx c ca) (ha : PD X Wx a fa) (hb : PD X Wx b fb) : PD X Wx (.IfExp c a b pos) (eIf ca fa fb) := by
  refine pe_imp (pe_ifExp hc ha hb) fun σ H Q ⟨env, S, ρ, rr, S', he, hw, hf, hp⟩ => ?_
  refine tG_bnd he hw hf hp fun x S1 v H1 ρ1 hk g1 w1 rx he1 hp1 => ?_
  cases (show v = x from rx)
  cases x with
  | true =>
    rw [if_pos rfl] at hk ⊢
    exact ⟨env, S1, ρ1, rr, S', he1, w1, hk, hp1⟩
  | false =>
    rw [if_neg Bool.false_ne_true] at hk ⊢
    exact ⟨env, S1, ρ1, rr, S', he1, w1, hk, hp1⟩
theorem pad_nil : PAD X Wx [] aNil := by
  refine pa_imp pa_nil fun σ H Q ⟨env, S, ρ, rr, S', he, hw, hf, hp⟩ => ?_
  obtain ⟨rfl, rfl⟩ := M.ret_eq hf
  exact hp.ok hw .nil
theorem pad_cons {es : List Expr} {fr : Sl → M (List Wv)} (ha : PD X Wx a fa) (hr : PAD X Wx es fr) (hs : starEach (a :: es) X.env = (false, eval a X.env) :: starEach es X.env := by rfl) : PAD X Wx (a :: es) (aCons fa fr) := by
  refine pa_imp (pa_cons ha hr hs) fun σ H Q ⟨env, S, ρ, rr, S', he, hw, hf, hp⟩ => ?_
  refine tG_bnd he hw hf hp fun x S1 v H1 ρ1 hk g1 w1 rx he1 hp1 => tG_bnd he1 w1 hk hp1 fun y S2 v2 H2 ρ2 hk2 g2 w2 ry he2 hp2 => ?_
  obtain ⟨rfl, rfl⟩ := M.ret_eq hk2
  exact hp2.ok w2 (.cons (RepW.mono g2 rx) ry)
/-- a call of something built in -/
theorem pd_cb {r : List V → Hp → VK → Prop} {g : List Wv → M Wv} {e : Expr} {es : List Expr} {f : Sl → M (List Wv)} (hc : ∀ {t : TA}, PA X es t → PE X e (tCB r t)) (hg : CallD (gmOf X) r g) (ha : PAD X Wx es f) : PD X Wx e (eCall g f) :=
  pe_imp (hc ha) fun σ H Q ⟨env, S, ρ, rr, S', he, hw, hf, hp⟩ => tG_bnd he hw hf hp fun xs S1 vs H1 ρ1 hk g1 w1 rx he1 hp1 => hg ρ1 H1 S1 vs xs Q rr S' Wx σ w1 rx hk hp1
theorem pd_chain {op op' : CmpOp} {r r' : R2} {g g' : Wv → Wv → M Wv} (ho : OpR X (compareOp op) r) (hg : OpD (gmOf X) r g) (ho' : OpR X (compareOp op') r') (hg' : OpD (gmOf X) r' g') (ha : PD X Wx a fa) (hb : PD X Wx b fb) (hc : PD X Wx c fc)
    (hm : lastMarks [op, op'] [b, c] = false := by with_unfolding_all rfl) : PD X Wx (.Compare a [op, op'] [b, c] pos) (eChain g g' fa fb fc) := by
  refine pe_imp (pe_chain ho ho' ha hb hc hm) fun σ H Q ⟨env, S, ρ, rr, S', he, hw, hf, hp⟩ => ?_
  refine tG_bnd he hw hf hp fun x S1 v H1 ρ1 hk g1 w1 rx he1 hp1 => tG_bnd he1 w1 hk hp1 fun y S2 v2 H2 ρ2 hk2 g2 w2 ry he2 hp2 => ?_
  unfold M.bnd at hk2
  cases e : g x y S2 with
  | none => rw [e] at hk2; cases hk2
  | some p =>
    obtain ⟨r3, S3⟩ := p
    rw [e] at hk2
    cases r3 with
    | ex z =>
      have h' : some (Rs.ex z, S3) = some (rr, S') := hk2
      cases h'
      exact hg ρ2 H2 S2 v v2 x y _ (.ex z) _ Wx σ w2 (RepW.mono g2 rx) ry e fun c d H3 ρ3 g3 w3 r3 => hp2 c d H3 ρ3 g3 w3 r3
    | ok z =>
      refine hg ρ2 H2 S2 v v2 x y _ (.ok z) S3 Wx σ w2 (RepW.mono g2 rx) ry e fun vz H3 ρ3 g3 w3 r3 => ?_
      have hk3 : M.bnd (toB z) (fun k => if k = true then M.bnd (fc env) fun w => g' y w else M.ret (.d (.bool false))) S3 = some (rr, S') := hk2
      obtain ⟨k, rfl, rfl, hk⟩ := toB_end (G := gmOf X) (σ := σ) (R := RepW X.K) hk3 r3
      refine ⟨k, rfl, ?_⟩
      cases k with
      | false =>
        rw [if_neg Bool.false_ne_true] at hk ⊢
        obtain ⟨rfl, rfl⟩ := M.ret_eq hk
        exact (hp2.mono g3).ok w3 (show RepD _ _ _ _ _ from .bl false)
      | true =>
        rw [if_pos rfl] at hk ⊢
        exact tG_bnd (he2.mono g3) w3 hk (hp2.mono g3) fun w S4 v4 H4 ρ4 hk4 g4 w4 r4 he4 hp4 => hg' ρ4 H4 S4 v2 v4 y w Q rr S' Wx σ w4 (RepW.mono (g3.trans g4) ry) r4 hk4 hp4
end
end Bq
set_option Elab.async false
set_option linter.all false
set_option maxRecDepth 100000
set_option maxHeartbeats 2000000
/-! # Operators by values -/
namespace Bq
open PySem L2

section
variable {K : PySem.W.Frag} {ρ : Rh} {H : Hp}
theorem RepD.sqT {v : V} {ds : List D} (h : RepD K ρ H v (.tuple ds)) : ∃ a xs, v = .ref a ∧ SqT K H a xs ∧ RepDs K ρ H xs ds := by
  cases h with
  | tup h1 h2 h3 => exact ⟨_, _, rfl, SqT.of h1, h3⟩
  | tupK h1 h2 h3 h4 h5 h6 => exact ⟨_, _, rfl, .inr ⟨_, _, _, h1, h2, h3, h4, h5⟩, h6⟩
theorem RepD.sqL {v : V} {ds : List D} (h : RepD K ρ H v (.list ds)) : ∃ a xs, v = .ref a ∧ H a = some (.lst xs) ∧ a ∉ ρ ∧ RepDs K ρ H xs ds := by
  cases h with
  | lst h1 h2 h3 => exact ⟨_, _, rfl, h1, h2, h3⟩
mutual
theorem RepD.dp : ∀ (d : D) (v : V), RepD K ρ H v d → Dp K H v d
  | .none, _, h => by cases h; exact .non
  | .bool b, _, h => by cases h; exact .bl b
  | .int i, _, h => by cases h; exact .int i
  | .str x, _, h => by cases h; exact .str x
  | .list ds, _, h => by
    cases h with
    | lst h1 h2 h3 => exact .lst (SqL.of h1) (RepDs.dp ds _ h3)
  | .tuple ds, _, h => by
    cases h with
    | tup h1 h2 h3 => exact .tup (SqT.of h1) (RepDs.dp ds _ h3)
    | tupK h1 h2 h3 h4 h5 h6 => exact .tup (.inr ⟨_, _, _, h1, h2, h3, h4, h5⟩) (RepDs.dp ds _ h6)
  | .dict _, _, h => by cases h
theorem RepDs.dp : ∀ (ds : List D) (vs : List V), RepDs K ρ H vs ds → DpAll K H vs ds
  | [], _, h => by cases h; exact .nil
  | d :: ds, _, h => by
    cases h with
    | cons h1 h2 => exact .cons (RepD.dp d _ h1) (RepDs.dp ds _ h2)
end
theorem RepD.tupN {p : Addr} {xs : List V} {ds : List D} (hp : H p = some (.tup xs)) (n : p ∉ ρ) (h : RepDs K ρ H xs ds) : RepD K ρ H (.ref p) (.tuple ds) := .tup hp n h
end
section
variable {G : Gm} {ρ : Rh} {H : Hp} {S S' : Sto} {σ : St} {Wx : WX} {Q : VK}
/-- a new tuple, a new list that no store holds, as the answer -/
theorem Po.newT {ds : List D} {xs : List V} (hp : Po G (RepW G.K) Wx σ ρ H (.ok (.d (.tuple ds))) S Q) (hw : Wd G ρ H S) (r : RepDs G.K ρ H xs ds) : ∀ p, H p = none → Q (.ref p) (upd H p (.tup xs)) := fun p h =>
  hp _ _ ρ (hw.geF h) (hw.fresh h) (show RepD _ _ _ _ _ from .tup upd_same (hw.notin h) (RepDs.mono (hw.geF h) _ _ r))
theorem Po.newL {ds : List D} {xs : List V} (hp : Po G (RepW G.K) Wx σ ρ H (.ok (.d (.list ds))) S Q) (hw : Wd G ρ H S) (r : RepDs G.K ρ H xs ds) : ∀ p, H p = none → Q (.ref p) (upd H p (.lst xs)) := fun p h =>
  hp _ _ ρ (hw.geF h) (hw.fresh h) (show RepD _ _ _ _ _ from .lst upd_same (hw.notin h) (RepDs.mono (hw.geF h) _ _ r))
end

@[reducible] def retI (i : Int) : M Wv := M.ret (.d (.int i))
@[reducible] def retB (b : Bool) : M Wv := M.ret (.d (.bool b))
@[reducible] def retS (x : Str) : M Wv := M.ret (.d (.str x))
@[reducible] def retT (x : List D) : M Wv := M.ret (.d (.tuple x))
@[reducible] def retL (x : List D) : M Wv := M.ret (.d (.list x))

/-- both ints -/
@[reducible] def op2I (C : Int → Int → Bool) (g : Int → Int → D) (x y : Wv) : M Wv := match x, y with
  | .d (.int i), .d (.int j) => if C i j = true then M.ret (.d (g i j)) else M.no
  | _, _ => M.no
theorem op2I_inv {C : Int → Int → Bool} {g : Int → Int → D} {x y : Wv} {S S' : Sto} {rr : Rs Wv} (h : op2I C g x y S = some (rr, S')) : ∃ i j, x = .d (.int i) ∧ y = .d (.int j) ∧ C i j = true ∧ rr = .ok (.d (g i j)) ∧ S' = S := by
  unfold op2I at h
  split at h
  · rename_i i j
    split at h
    · rename_i hc
      obtain ⟨rfl, rfl⟩ := M.ret_eq h
      exact ⟨i, j, rfl, rfl, hc, rfl, rfl⟩
    · cases h
  · cases h
theorem rep_int {K : PySem.W.Frag} {ρ : Rh} {H : Hp} {v : V} {i : Int} (h : RepW K ρ H v (.d (.int i))) : v = .int i := by
  cases (show RepD K ρ H v (.int i) from h); rfl
theorem rep_str {K : PySem.W.Frag} {ρ : Rh} {H : Hp} {v : V} {i : Str} (h : RepW K ρ H v (.d (.str i))) : v = .str i := by
  cases (show RepD K ρ H v (.str i) from h); rfl
theorem rep_bl {K : PySem.W.Frag} {ρ : Rh} {H : Hp} {v : V} {i : Bool} (h : RepW K ρ H v (.d (.bool i))) : v = .bl i := by
  cases (show RepD K ρ H v (.bool i) from h); rfl
theorem rep_non {K : PySem.W.Frag} {ρ : Rh} {H : Hp} {v : V} (h : RepW K ρ H v (.d .none)) : v = .non := by
  cases (show RepD K ρ H v .none from h); rfl

theorem od_I {G : Gm} {C : Int → Int → Prop} {C' : Int → Int → Bool} {g : Int → Int → Int} (hc : ∀ i j, C' i j = true → C i j) : OpD G (rI C fun i j => .int (g i j)) (op2I C' fun i j => .int (g i j)) := by
  intro ρ H S x y wx wy Q rr S' Wx σ hw rx ry h hp
  obtain ⟨i, j, rfl, rfl, c, rfl, rfl⟩ := op2I_inv h
  exact ⟨i, j, rep_int rx, rep_int ry, hc i j c, hp.ok hw (show RepD _ _ _ _ _ from .int _)⟩
theorem od_I0 {G : Gm} {g : Int → Int → Int} : OpD G (rI0 fun i j => .int (g i j)) (op2I (fun _ _ => true) fun i j => .int (g i j)) := by
  intro ρ H S x y wx wy Q rr S' Wx σ hw rx ry h hp
  obtain ⟨i, j, rfl, rfl, c, rfl, rfl⟩ := op2I_inv h
  exact ⟨i, j, rep_int rx, rep_int ry, hp.ok hw (show RepD _ _ _ _ _ from .int _)⟩
theorem od_B0 {G : Gm} {g : Int → Int → Bool} : OpD G (rI0 fun i j => .bl (g i j)) (op2I (fun _ _ => true) fun i j => .bool (g i j)) := by
  intro ρ H S x y wx wy Q rr S' Wx σ hw rx ry h hp
  obtain ⟨i, j, rfl, rfl, c, rfl, rfl⟩ := op2I_inv h
  exact ⟨i, j, rep_int rx, rep_int ry, hp.ok hw (show RepD _ _ _ _ _ from .bl _)⟩
theorem OpD.orL {G : Gm} {r r' : R2} {g : Wv → Wv → M Wv} (h : OpD G r g) : OpD G (fun x y H Q => r x y H Q ∨ r' x y H Q) g :=
  fun ρ H S x y wx wy Q rr S' Wx σ hw rx ry e hp => .inl (h ρ H S x y wx wy Q rr S' Wx σ hw rx ry e hp)

abbrev opSub := op2I (fun _ _ => true) fun i j => .int (i - j)
abbrev opMul := op2I (fun i j => decide (i.natAbs.log2 + j.natAbs.log2 < 1000000)) fun i j => .int (i * j)
abbrev opMod := op2I (fun _ j => decide (0 < j)) fun i j => .int (i % j)
abbrev opFdiv := op2I (fun _ j => decide (0 < j ∧ j.natAbs.log2 < 9000)) fun i j => .int (i / j)
abbrev opPow := op2I (fun i j => decide (0 ≤ j ∧ (Builtin.Int.intBits i : Int) * j ≤ 2 ^ 27)) fun i j => .int (i ^ j.toNat)
abbrev opLt := op2I (fun _ _ => true) fun i j => .bool (decide (i < j))
abbrev opLe := op2I (fun _ _ => true) fun i j => .bool (decide (i ≤ j))
abbrev opGt := op2I (fun _ _ => true) fun i j => .bool (decide (j < i))
abbrev opGe := op2I (fun _ _ => true) fun i j => .bool (decide (j ≤ i))

def opAdd (x y : Wv) : M Wv := match x, y with
  | .d (.int i), .d (.int j) => retI (i + j)
  | .d (.str a), .d (.str b) => if a.length + b.length ≤ sizeLine then retS (a ++ b) else M.no
  | .d (.tuple a), .d (.tuple b) => if a.length + b.length ≤ sizeLine then retT (a ++ b) else M.no
  | .d (.list a), .d (.list b) => if a.length + b.length ≤ sizeLine then retL (a ++ b) else M.no
  | _, _ => M.no
def rAddA (K : PySem.W.Frag) : R2 := fun x y H Q => (rI0 (fun i j => .int (i + j)) x y H Q ∨ (∃ i j, x = .str i ∧ y = .str j ∧ i.length + j.length ≤ sizeLine ∧ Q (.str (i ++ j)) H)) ∨ (rCatA K x y H Q ∨ rCat x y H Q)
theorem op_addA {X : Cx} : OpR X (binaryOp .Add) (rAddA X.K) := (op_add.or op_add_str).or (op_catA.or op_cat)
theorem od_add {G : Gm} : OpD G (rAddA G.K) opAdd := by
  intro ρ H S x y wx wy Q rr S' Wx σ hw rx ry h hp
  unfold opAdd at h
  split at h
  · obtain ⟨rfl, rfl⟩ := M.ret_eq h
    exact .inl (.inl ⟨_, _, rep_int rx, rep_int ry, hp.ok hw (show RepD _ _ _ _ _ from .int _)⟩)
  · split at h
    · rename_i hz
      obtain ⟨rfl, rfl⟩ := M.ret_eq h
      exact .inl (.inr ⟨_, _, rep_str rx, rep_str ry, hz, hp.ok hw (show RepD _ _ _ _ _ from .str _)⟩)
    · cases h
  · split at h
    · rename_i a b hz
      obtain ⟨rfl, rfl⟩ := M.ret_eq h
      obtain ⟨p, xs, rfl, h1, h2⟩ := RepD.sqT rx
      obtain ⟨q, ys, rfl, h3, h4⟩ := RepD.sqT ry
      refine .inr (.inl ⟨p, q, xs, ys, rfl, rfl, h1, h3, by rw [h2.length, h4.length]; exact hz, fun e => ?_, fun e1 e => ?_, fun _ _ => hp.newT hw (h2.append h4)⟩)
      · subst e
        cases h2
        exact hp.ok hw ry
      · subst e
        cases h4
        rw [List.append_nil] at hp
        exact hp.ok hw rx
    · cases h
  · split at h
    · rename_i a b hz
      obtain ⟨rfl, rfl⟩ := M.ret_eq h
      obtain ⟨p, xs, rfl, h1, n1, h2⟩ := RepD.sqL rx
      obtain ⟨q, ys, rfl, h3, n3, h4⟩ := RepD.sqL ry
      exact .inr (.inr ⟨p, q, xs, ys, rfl, rfl, h1, h3, by rw [h2.length, h4.length]; exact hz, hp.newL hw (h2.append h4)⟩)
    · cases h
  · cases h

/-! ### == and != -/
def okEq (x y : D) : Bool := match x, y with
  | .str _, .str _ => true
  | _, _ => SeqAt.shaped x && SeqAt.shaped y
def opEq (x y : Wv) : M Wv := match x, y with
  | .d a, .d b => if okEq a b = true then retB (PyData.eqv a b) else M.no
  | _, _ => M.no
def opNe (x y : Wv) : M Wv := match x, y with
  | .d a, .d b => if okEq a b = true then retB (!PyData.eqv a b) else M.no
  | _, _ => M.no
def rEqA (K : PySem.W.Frag) : R2 := fun x y H Q => rEq x y H Q ∨ rEqD K x y H Q
def rNeA (K : PySem.W.Frag) : R2 := fun x y H Q => rNe x y H Q ∨ rNeD K x y H Q
theorem op_eqA {X : Cx} (hu : X.A.units + 64 < cLine) : OpR X (compareOp .Eq) (rEqA X.K) := op_eq.or (op_eqD hu)
theorem op_neA {X : Cx} (hu : X.A.units + 64 < cLine) : OpR X (compareOp .NotEq) (rNeA X.K) := op_ne.or (op_neD hu)
theorem okEq_inv {x y : D} (h : okEq x y = true) : (∃ a b, x = .str a ∧ y = .str b) ∨ (SeqAt.shaped x = true ∧ SeqAt.shaped y = true) := by
  unfold okEq at h
  split at h
  · exact .inl ⟨_, _, rfl, rfl⟩
  · exact .inr (by simpa using h)
theorem od_eq {G : Gm} : OpD G (rEqA G.K) opEq := by
  intro ρ H S x y wx wy Q rr S' Wx σ hw rx ry h hp
  unfold opEq at h
  split at h
  · rename_i a b
    split at h
    · rename_i hk
      obtain ⟨rfl, rfl⟩ := M.ret_eq h
      have q := hp.ok (v := V.bl (PyData.eqv a b)) hw (show RepD _ _ _ _ _ from .bl _)
      rcases okEq_inv hk with ⟨s, t, rfl, rfl⟩ | ⟨h1, h2⟩
      · have e1 := rep_str rx
        have e2 := rep_str ry
        subst e1 e2
        refine .inl ⟨rfl, ?_⟩
        rw [dec_str]
        exact q
      · exact .inr ⟨a, b, RepD.dp a x rx, RepD.dp b y ry, h1, h2, q⟩
    · cases h
  · cases h
theorem od_ne {G : Gm} : OpD G (rNeA G.K) opNe := by
  intro ρ H S x y wx wy Q rr S' Wx σ hw rx ry h hp
  unfold opNe at h
  split at h
  · rename_i a b
    split at h
    · rename_i hk
      obtain ⟨rfl, rfl⟩ := M.ret_eq h
      have q := hp.ok (v := V.bl (!PyData.eqv a b)) hw (show RepD _ _ _ _ _ from .bl _)
      rcases okEq_inv hk with ⟨s, t, rfl, rfl⟩ | ⟨h1, h2⟩
      · have e1 := rep_str rx
        have e2 := rep_str ry
        subst e1 e2
        refine .inl ⟨rfl, ?_⟩
        rw [dec_str]
        exact q
      · exact .inr ⟨a, b, RepD.dp a x rx, RepD.dp b y ry, h1, h2, q⟩
    · cases h
  · cases h

/-! ### is -/
def isNo : Wv → Bool
  | .d .none => true
  | _ => false
theorem isNo_dec {K : PySem.W.Frag} {ρ : Rh} {H : Hp} {v : V} {w : Wv} (r : RepW K ρ H v w) : decide (v = .non) = isNo w := by
  cases w with
  | d x =>
    cases x <;> (cases (show RepD K ρ H v _ from r) <;> rfl)
  | loc n =>
    obtain ⟨a, _, rfl⟩ := r
    rfl
  | scr xs =>
    obtain ⟨a, _, rfl, _⟩ := r
    rfl
def opIs (x y : Wv) : M Wv := match x, y with
  | x, .d .none => retB (isNo x)
  | .d (.bool a), .d (.bool b) => retB (decide (a = b))
  | _, _ => M.no
def opIsNot (x y : Wv) : M Wv := match x, y with
  | x, .d .none => retB (!isNo x)
  | .d (.bool a), .d (.bool b) => retB (!decide (a = b))
  | _, _ => M.no
def rIsA : R2 := fun x y H Q => (y = .non ∧ Q (.bl (decide (x = .non))) H) ∨ rIsB x y H Q
def rIsNotA : R2 := fun x y H Q => (y = .non ∧ Q (.bl (!decide (x = .non))) H) ∨ rNotB x y H Q
theorem op_isA {X : Cx} : OpR X (compareOp .Is) rIsA := op_isN.or op_isBl
theorem op_isNotA {X : Cx} : OpR X (compareOp .IsNot) rIsNotA := op_notN.or op_notBl
theorem od_is {G : Gm} : OpD G rIsA opIs := by
  intro ρ H S x y wx wy Q rr S' Wx σ hw rx ry h hp
  unfold opIs at h
  split at h
  · obtain ⟨rfl, rfl⟩ := M.ret_eq h
    refine .inl ⟨rep_non ry, ?_⟩
    rw [isNo_dec rx]
    exact hp.ok hw (show RepD _ _ _ _ _ from .bl _)
  · obtain ⟨rfl, rfl⟩ := M.ret_eq h
    exact .inr ⟨_, _, rep_bl rx, rep_bl ry, hp.ok hw (show RepD _ _ _ _ _ from .bl _)⟩
  · cases h
theorem od_isNot {G : Gm} : OpD G rIsNotA opIsNot := by
  intro ρ H S x y wx wy Q rr S' Wx σ hw rx ry h hp
  unfold opIsNot at h
  split at h
  · obtain ⟨rfl, rfl⟩ := M.ret_eq h
    refine .inl ⟨rep_non ry, ?_⟩
    rw [isNo_dec rx]
    exact hp.ok hw (show RepD _ _ _ _ _ from .bl _)
  · obtain ⟨rfl, rfl⟩ := M.ret_eq h
    exact .inr ⟨_, _, rep_bl rx, rep_bl ry, hp.ok hw (show RepD _ _ _ _ _ from .bl _)⟩
  · cases h

/-! ### in -/
def sub_in (i j : Str) : Bool := !(Builtin.Str.occurrences j i 0 j.length 1).isEmpty
def rInT (K : PySem.W.Frag) : R2 := fun x y H Q => ∃ d ds, Dp K H x d ∧ Dp K H y (.tuple ds) ∧ SeqAt.shaped d = true ∧ SeqAt.shaped (.tuple ds) = true ∧ Q (.bl (ds.any fun z => PyData.eqv z d)) H
def rNotInT (K : PySem.W.Frag) : R2 := fun x y H Q => ∃ d ds, Dp K H x d ∧ Dp K H y (.tuple ds) ∧ SeqAt.shaped d = true ∧ SeqAt.shaped (.tuple ds) = true ∧ Q (.bl (!ds.any fun z => PyData.eqv z d)) H
section
open PyProof.Rows
variable {X : Cx}
theorem op_inT (hu : X.A.units + 65 < cLine) : OpR X (compareOp .In) (rInT X.K) := by
  intro pins s σ H x y v u Q I rx ry h
  obtain ⟨d, ds, hd, he, sd, se, q⟩ := h
  obtain ⟨as, r1⟩ := Dp.reads I d x v hd rx
  obtain ⟨bs, r2⟩ := Dp.reads I (.tuple ds) y u he ry
  exact SeqAt.in_tuple_reads r2 r1 (SeqAt.canLay_of_shaped se) (SeqAt.canLay_of_shaped sd) (room_in_shaped sd hu) ⟨.bl _, H, I, rfl, q⟩
theorem op_notInT (hu : X.A.units + 65 < cLine) : OpR X (compareOp .NotIn) (rNotInT X.K) := by
  intro pins s σ H x y v u Q I rx ry h
  obtain ⟨d, ds, hd, he, sd, se, q⟩ := h
  obtain ⟨as, r1⟩ := Dp.reads I d x v hd rx
  obtain ⟨bs, r2⟩ := Dp.reads I (.tuple ds) y u he ry
  exact SeqAt.notIn_tuple_reads r2 r1 (SeqAt.canLay_of_shaped se) (SeqAt.canLay_of_shaped sd) (room_in_shaped sd hu) ⟨.bl _, H, I, rfl, q⟩
end
def opInB (neg : Bool) (x y : Wv) : M Wv := match x, y with
  | .d (.str a), .d (.str b) => retB (if neg then !sub_in a b else sub_in a b)
  | .d a, .d (.tuple b) => if (SeqAt.shaped a && SeqAt.shaped (.tuple b)) = true then retB (if neg then !(b.any fun z => PyData.eqv z a) else b.any fun z => PyData.eqv z a) else M.no
  | .d a, .d (.list b) => if (SeqAt.shaped a && SeqAt.shaped (.list b)) = true then retB (if neg then !(b.any fun z => PyData.eqv z a) else b.any fun z => PyData.eqv z a) else M.no
  | _, _ => M.no
abbrev opIn := opInB false
abbrev opNotIn := opInB true
def rInA (K : PySem.W.Frag) : R2 := fun x y H Q => ((∃ i j, x = .str i ∧ y = .str j ∧ Q (.bl (!(Builtin.Str.occurrences j i 0 j.length 1).isEmpty)) H) ∨ rInT K x y H Q) ∨ rInD K x y H Q
def rNotInA (K : PySem.W.Frag) : R2 := fun x y H Q => ((∃ i j, x = .str i ∧ y = .str j ∧ Q (.bl (!(!(Builtin.Str.occurrences j i 0 j.length 1).isEmpty))) H) ∨ rNotInT K x y H Q) ∨ rNotInD K x y H Q
theorem op_inA {X : Cx} (hu : X.A.units + 65 < cLine) : OpR X (compareOp .In) (rInA X.K) := (op_in_str.or (op_inT hu)).or (op_inD hu)
theorem op_notInA {X : Cx} (hu : X.A.units + 65 < cLine) : OpR X (compareOp .NotIn) (rNotInA X.K) := (op_notin_str.or (op_notInT hu)).or (op_notInD hu)
theorem od_in {G : Gm} : OpD G (rInA G.K) opIn := by
  intro ρ H S x y wx wy Q rr S' Wx σ hw rx ry h hp
  unfold opIn opInB at h
  split at h
  · obtain ⟨rfl, rfl⟩ := M.ret_eq h
    exact .inl (.inl ⟨_, _, rep_str rx, rep_str ry, hp.ok hw (show RepD _ _ _ _ _ from .bl _)⟩)
  · split at h
    · rename_i hk
      obtain ⟨rfl, rfl⟩ := M.ret_eq h
      rw [Bool.and_eq_true] at hk
      exact .inl (.inr ⟨_, _, RepD.dp _ _ rx, RepD.dp _ _ ry, hk.1, hk.2, hp.ok hw (show RepD _ _ _ _ _ from .bl _)⟩)
    · cases h
  · split at h
    · rename_i hk
      obtain ⟨rfl, rfl⟩ := M.ret_eq h
      rw [Bool.and_eq_true] at hk
      exact .inr ⟨_, _, RepD.dp _ _ rx, RepD.dp _ _ ry, hk.1, hk.2, hp.ok hw (show RepD _ _ _ _ _ from .bl _)⟩
    · cases h
  · cases h
theorem od_notIn {G : Gm} : OpD G (rNotInA G.K) opNotIn := by
  intro ρ H S x y wx wy Q rr S' Wx σ hw rx ry h hp
  unfold opNotIn opInB at h
  split at h
  · obtain ⟨rfl, rfl⟩ := M.ret_eq h
    exact .inl (.inl ⟨_, _, rep_str rx, rep_str ry, hp.ok hw (show RepD _ _ _ _ _ from .bl _)⟩)
  · split at h
    · rename_i hk
      obtain ⟨rfl, rfl⟩ := M.ret_eq h
      rw [Bool.and_eq_true] at hk
      exact .inl (.inr ⟨_, _, RepD.dp _ _ rx, RepD.dp _ _ ry, hk.1, hk.2, hp.ok hw (show RepD _ _ _ _ _ from .bl _)⟩)
    · cases h
  · split at h
    · rename_i hk
      obtain ⟨rfl, rfl⟩ := M.ret_eq h
      rw [Bool.and_eq_true] at hk
      exact .inr ⟨_, _, RepD.dp _ _ rx, RepD.dp _ _ ry, hk.1, hk.2, hp.ok hw (show RepD _ _ _ _ _ from .bl _)⟩
    · cases h
  · cases h

/-! ### the rules -/
section
variable {X : Cx} {Wx : WX} {a b : Expr} {fa fb : SE} {pos : Pos}
theorem op_powA {X : Cx} : OpR X (binaryOp .Pow) (rI (fun i j => 0 ≤ j ∧ (Builtin.Int.intBits i : Int) * j ≤ 2 ^ 27) fun i j => .int (i ^ j.toNat)) := opI fun _ _ _ _ _ _ _ hc q => PyProof.Rows.pow_int hc.1 hc.2 q
theorem pd_add (ha : PD X Wx a fa) (hb : PD X Wx b fb) : PD X Wx (.BinOp a .Add b pos) (eBin opAdd fa fb) := pd_op op_addA od_add ha hb
theorem pd_sub (ha : PD X Wx a fa) (hb : PD X Wx b fb) : PD X Wx (.BinOp a .Sub b pos) (eBin opSub fa fb) := pd_op op_sub od_I0 ha hb
theorem pd_mul (ha : PD X Wx a fa) (hb : PD X Wx b fb) : PD X Wx (.BinOp a .Mult b pos) (eBin opMul fa fb) := pd_op op_mulW (od_I fun i j h => by unfold CMulW; exact of_decide_eq_true h) ha hb
theorem pd_mod (ha : PD X Wx a fa) (hb : PD X Wx b fb) : PD X Wx (.BinOp a .Mod b pos) (eBin opMod fa fb) := pd_op op_mod (od_I fun i j h => of_decide_eq_true h) ha hb
theorem pd_fdiv (ha : PD X Wx a fa) (hb : PD X Wx b fb) : PD X Wx (.BinOp a .FloorDiv b pos) (eBin opFdiv fa fb) := pd_op op_fdivW (od_I fun i j h => by unfold CDivW; exact of_decide_eq_true h) ha hb
theorem pd_pow (ha : PD X Wx a fa) (hb : PD X Wx b fb) : PD X Wx (.BinOp a .Pow b pos) (eBin opPow fa fb) := pd_op op_powA (od_I fun i j h => of_decide_eq_true h) ha hb
theorem pd_lt (ha : PD X Wx a fa) (hb : PD X Wx b fb) : PD X Wx (.Compare a [.Lt] [b] pos) (eBin opLt fa fb) := pd_cmp op_lt od_B0 ha hb (nomark _)
theorem pd_le (ha : PD X Wx a fa) (hb : PD X Wx b fb) : PD X Wx (.Compare a [.LtE] [b] pos) (eBin opLe fa fb) := pd_cmp op_le od_B0 ha hb (nomark _)
theorem pd_gt (ha : PD X Wx a fa) (hb : PD X Wx b fb) : PD X Wx (.Compare a [.Gt] [b] pos) (eBin opGt fa fb) := pd_cmp op_gt od_B0 ha hb (nomark _)
theorem pd_ge (ha : PD X Wx a fa) (hb : PD X Wx b fb) : PD X Wx (.Compare a [.GtE] [b] pos) (eBin opGe fa fb) := pd_cmp op_ge od_B0 ha hb (nomark _)
theorem pd_is (ha : PD X Wx a fa) (hb : PD X Wx b fb) : PD X Wx (.Compare a [.Is] [b] pos) (eBin opIs fa fb) := pd_cmp op_isA od_is ha hb (nomark _)
theorem pd_isNot (ha : PD X Wx a fa) (hb : PD X Wx b fb) : PD X Wx (.Compare a [.IsNot] [b] pos) (eBin opIsNot fa fb) := pd_cmp op_isNotA od_isNot ha hb (nomark _)
theorem pd_eq (hu : X.A.units + 65 < cLine) (ha : PD X Wx a fa) (hb : PD X Wx b fb) : PD X Wx (.Compare a [.Eq] [b] pos) (eBin opEq fa fb) := pd_cmp (op_eqA (by omega)) od_eq ha hb (nomark _)
theorem pd_ne (hu : X.A.units + 65 < cLine) (ha : PD X Wx a fa) (hb : PD X Wx b fb) : PD X Wx (.Compare a [.NotEq] [b] pos) (eBin opNe fa fb) := pd_cmp (op_neA (by omega)) od_ne ha hb (nomark _)
theorem pd_in (hu : X.A.units + 65 < cLine) (ha : PD X Wx a fa) (hb : PD X Wx b fb) (hm : behindInMarks .In b = false := by with_unfolding_all rfl) : PD X Wx (.Compare a [.In] [b] pos) (eBin opIn fa fb) := pd_cmp (op_inA hu) od_in ha hb hm
theorem pd_notIn (hu : X.A.units + 65 < cLine) (ha : PD X Wx a fa) (hb : PD X Wx b fb) (hm : behindInMarks .NotIn b = false := by with_unfolding_all rfl) : PD X Wx (.Compare a [.NotIn] [b] pos) (eBin opNotIn fa fb) := pd_cmp (op_notInA hu) od_notIn ha hb hm
theorem ptd_lt (ha : PD X Wx a fa) (hb : PD X Wx b fb) : PTD X Wx (.Compare a [.Lt] [b] pos) (cVal (eBin opLt fa fb)) := ptd_cmp op_lt od_B0 ha hb (nomark _)
theorem ptd_le (ha : PD X Wx a fa) (hb : PD X Wx b fb) : PTD X Wx (.Compare a [.LtE] [b] pos) (cVal (eBin opLe fa fb)) := ptd_cmp op_le od_B0 ha hb (nomark _)
theorem ptd_gt (ha : PD X Wx a fa) (hb : PD X Wx b fb) : PTD X Wx (.Compare a [.Gt] [b] pos) (cVal (eBin opGt fa fb)) := ptd_cmp op_gt od_B0 ha hb (nomark _)
theorem ptd_ge (ha : PD X Wx a fa) (hb : PD X Wx b fb) : PTD X Wx (.Compare a [.GtE] [b] pos) (cVal (eBin opGe fa fb)) := ptd_cmp op_ge od_B0 ha hb (nomark _)
theorem ptd_is (ha : PD X Wx a fa) (hb : PD X Wx b fb) : PTD X Wx (.Compare a [.Is] [b] pos) (cVal (eBin opIs fa fb)) := ptd_cmp op_isA od_is ha hb (nomark _)
theorem ptd_isNot (ha : PD X Wx a fa) (hb : PD X Wx b fb) : PTD X Wx (.Compare a [.IsNot] [b] pos) (cVal (eBin opIsNot fa fb)) := ptd_cmp op_isNotA od_isNot ha hb (nomark _)
theorem ptd_eq (hu : X.A.units + 65 < cLine) (ha : PD X Wx a fa) (hb : PD X Wx b fb) : PTD X Wx (.Compare a [.Eq] [b] pos) (cVal (eBin opEq fa fb)) := ptd_cmp (op_eqA (by omega)) od_eq ha hb (nomark _)
theorem ptd_ne (hu : X.A.units + 65 < cLine) (ha : PD X Wx a fa) (hb : PD X Wx b fb) : PTD X Wx (.Compare a [.NotEq] [b] pos) (cVal (eBin opNe fa fb)) := ptd_cmp (op_neA (by omega)) od_ne ha hb (nomark _)
theorem ptd_in (hu : X.A.units + 65 < cLine) (ha : PD X Wx a fa) (hb : PD X Wx b fb) (hm : behindInMarks .In b = false := by with_unfolding_all rfl) : PTD X Wx (.Compare a [.In] [b] pos) (cVal (eBin opIn fa fb)) := ptd_cmp (op_inA hu) od_in ha hb hm
theorem ptd_notIn (hu : X.A.units + 65 < cLine) (ha : PD X Wx a fa) (hb : PD X Wx b fb) (hm : behindInMarks .NotIn b = false := by with_unfolding_all rfl) : PTD X Wx (.Compare a [.NotIn] [b] pos) (cVal (eBin opNotIn fa fb)) := ptd_cmp (op_notInA hu) od_notIn ha hb hm
end
end Bq
set_option Elab.async false
set_option linter.all false
set_option maxRecDepth 100000
set_option maxHeartbeats 2000000
/-! # Displays, items, built-in functions and methods -/
namespace Bq
open PySem L2

def asDs : List Wv → Option (List D)
  | [] => some []
  | .d x :: r => match asDs r with
    | some xs => some (x :: xs)
    | none => none
  | _ :: _ => none
theorem asDs_rep {K : PySem.W.Frag} {ρ : Rh} {H : Hp} : ∀ {vs : List V} {ws : List Wv} {ds : List D}, RepWs K ρ H vs ws → asDs ws = some ds → RepDs K ρ H vs ds
  | _, _, _, .nil, h => by
    cases h
    exact .nil
  | _, _, ds, .cons (d := w) (ds := r) a b, h => by
    cases w with
    | d x =>
      have h' : (match asDs r with | some xs => some (x :: xs) | none => none) = some ds := h
      cases e : asDs r with
      | none => rw [e] at h'; cases h'
      | some xs =>
        rw [e] at h'
        cases h'
        exact .cons a (asDs_rep b e)
    | loc n => cases h
    | scr n => cases h
@[reducible] def mkT (ws : List Wv) : M Wv := match asDs ws with
  | some ds => if ds.length ≤ sizeLine then retT ds else M.no
  | none => M.no
@[reducible] def mkL (ws : List Wv) : M Wv := match asDs ws with
  | some ds => if ds.length ≤ sizeLine then retL ds else M.no
  | none => M.no
/-- a list that is changed later -/
@[reducible] def mkM (ws : List Wv) : M Wv := match asDs ws with
  | some ds => fun S => if ds.length ≤ sizeLine then some (.ok (.loc S.length), S ++ [.lst ds]) else none
  | none => M.no
@[reducible] def mkDict : SE := fun _ S => some (.ok (.loc S.length), S ++ [.dK []])
section
variable {X : Cx} {Wx : WX} {a b : Expr} {fa fb : SE} {pos : Pos} {es : List Expr} {fs : Sl → M (List Wv)}
theorem pd_tup {k : Nat} (h : PAD X Wx es fs) : PD X Wx (.Tuple es k pos) (eCall mkT fs) := by
  refine pe_imp (pe_tup h) fun σ H Q ⟨env, S, ρ, rr, S', he, hw, hf, hp⟩ => ?_
  refine tG_bnd he hw hf hp fun ws S1 vs H1 ρ1 hk g1 w1 rx he1 hp1 => ?_
  unfold mkT at hk
  cases e : asDs ws with
  | none => rw [e] at hk; cases hk
  | some ds =>
    rw [e] at hk
    have hk' : (if ds.length ≤ sizeLine then retT ds else M.no) S1 = some (rr, S') := hk
    split at hk'
    · rename_i hz
      obtain ⟨rfl, rfl⟩ := M.ret_eq hk'
      have r := asDs_rep rx e
      exact ⟨by rw [r.length]; exact hz, hp1.newT w1 r⟩
    · cases hk'
theorem pd_lst (h : PAD X Wx es fs) : PD X Wx (.List es pos) (eCall mkL fs) := by
  refine pe_imp (pe_lst h) fun σ H Q ⟨env, S, ρ, rr, S', he, hw, hf, hp⟩ => ?_
  refine tG_bnd he hw hf hp fun ws S1 vs H1 ρ1 hk g1 w1 rx he1 hp1 => ?_
  unfold mkL at hk
  cases e : asDs ws with
  | none => rw [e] at hk; cases hk
  | some ds =>
    rw [e] at hk
    have hk' : (if ds.length ≤ sizeLine then retL ds else M.no) S1 = some (rr, S') := hk
    split at hk'
    · rename_i hz
      obtain ⟨rfl, rfl⟩ := M.ret_eq hk'
      have r := asDs_rep rx e
      exact ⟨by rw [r.length]; exact hz, hp1.newL w1 r⟩
    · cases hk'
theorem pd_lstM (h : PAD X Wx es fs) : PD X Wx (.List es pos) (eCall mkM fs) := by
  refine pe_imp (pe_lst h) fun σ H Q ⟨env, S, ρ, rr, S', he, hw, hf, hp⟩ => ?_
  refine tG_bnd he hw hf hp fun ws S1 vs H1 ρ1 hk g1 w1 rx he1 hp1 => ?_
  unfold mkM at hk
  cases e : asDs ws with
  | none => rw [e] at hk; cases hk
  | some ds =>
    rw [e] at hk
    have hk' : (if ds.length ≤ sizeLine then some (Rs.ok (Wv.loc S1.length), S1 ++ [Ob.lst ds]) else none) = some (rr, S') := hk
    split at hk'
    · rename_i hz
      cases hk'
      have r := asDs_rep rx e
      refine ⟨by rw [r.length]; exact hz, fun p h => ?_⟩
      refine hp1 (.ref p) _ (ρ1.push p) (w1.geP h) (w1.push h ⟨vs, upd_same, RepDs.mono (w1.geP h) _ _ r⟩) ⟨p, ?_, rfl⟩
      show (ρ1.l ++ [p])[S1.length]? = some p
      rw [List.getElem?_append_right (by rw [w1.len]; exact Nat.le_refl _), w1.len]
      simp
    · cases hk'
theorem pd_dict (h : PE X (.Dict [] [] pos) (fun _ H Q => ∀ p, H p = none → Q (.ref p) (upd H p (.dK [])))) : PD X Wx (.Dict [] [] pos) mkDict := by
  refine pe_imp h fun σ H Q ⟨env, S, ρ, rr, S', he, hw, hf, hp⟩ p hn => ?_
  have hk' : some (Rs.ok (Wv.loc S.length), S ++ [Ob.dK []]) = some (rr, S') := hf
  cases hk'
  refine hp (.ref p) _ (ρ.push p) (hw.geP hn) (hw.push hn ⟨[], upd_same, .nil⟩) ⟨p, ?_, rfl⟩
  show (ρ.l ++ [p])[S.length]? = some p
  rw [List.getElem?_append_right (by rw [hw.len]; exact Nat.le_refl _), hw.len]
  simp
end

/-! ### isinstance -/
def tyName (S : Sto) : Wv → Option String
  | .d .none => some "NoneType"
  | .d (.bool _) => some "bool"
  | .d (.int _) => some "int"
  | .d (.str _) => some "str"
  | .d (.list _) => some "list"
  | .d (.tuple _) => some "tuple"
  | .d (.dict _) => none
  | .scr _ => some "list"
  | .loc n => match S[n]? with
    | some (.lst _) => some "list"
    | some (.dK _) => some "dict"
    | _ => none
def isiB (t T : String) : Bool := t == T || (t == "bool" && T == "int")
@[reducible] def eIsi (T : String) (a : SE) : SE := fun env => M.bnd (a env) fun w S => match tyName S w with
  | some t => some (.ok (.d (.bool (isiB t T))), S)
  | none => none
@[reducible] def eIsi2 (T U : String) (a : SE) : SE := fun env => M.bnd (a env) fun w S => match tyName S w with
  | some t => some (.ok (.d (.bool (isiB t T || isiB t U))), S)
  | none => none
def tyNames : List String := ["NoneType", "bool", "int", "str", "list", "tuple", "dict"]
def clNames : List String := ["bool", "int", "str", "list", "tuple", "dict"]
theorem kit_table : (tyNames.all fun t => clNames.all fun T => decide (kitB t T = some (isiB t T))) = true := by decide +kernel
theorem kit_at {t T : String} (h1 : t ∈ tyNames) (h2 : T ∈ clNames) : kitB t T = some (isiB t T) := by
  have h := List.all_eq_true.mp kit_table t h1
  exact of_decide_eq_true (List.all_eq_true.mp h T h2)
theorem tyName_in {S : Sto} {w : Wv} {t : String} (h : tyName S w = some t) : t ∈ tyNames := by
  unfold tyName at h
  split at h <;> first
    | (cases h; done)
    | (cases h; decide)
    | (split at h <;> first
        | (cases h; done)
        | (cases h; decide))
theorem tyName_ty {G : Gm} {ρ : Rh} {H : Hp} {S : Sto} {v : V} {w : Wv} {t : String} (hw : Wd G ρ H S) (r : RepW G.K ρ H v w) (h : tyName S w = some t) : TyX G.K H v (.type t) := by
  cases w with
  | d x =>
    cases x with
    | none => cases h; rw [rep_non r]; exact .base .non
    | bool b => cases h; rw [rep_bl r]; exact .base (.bl _)
    | int b => cases h; rw [rep_int r]; exact .base (.int _)
    | str b => cases h; rw [rep_str r]; exact .base (.str _)
    | list b =>
      cases h
      obtain ⟨a, xs, rfl, h1, _⟩ := RepD.sqL r
      exact .base (.lst h1)
    | tuple b =>
      cases h
      cases (show RepD G.K ρ H v (.tuple b) from r) with
      | tup h1 h2 h3 => exact .base (.tup h1)
      | tupK h1 h2 h3 h4 h5 h6 => exact .kTuple h1 h2
    | dict b => cases h
  | scr xs =>
    cases h
    obtain ⟨a, ys, rfl, h1, _⟩ := r
    rcases h1 with ⟨o, h1, _⟩ | ⟨o, its, n, h1, h2, _⟩
    · exact .base (.frz h1)
    · exact .kList h1 h2
  | loc n =>
    obtain ⟨a, h1, rfl⟩ := r
    have h' : (match S[n]? with | some (.lst _) => some "list" | some (.dK _) => some "dict" | _ => none) = some t := h
    cases e : S[n]? with
    | none => rw [e] at h'; cases h'
    | some o =>
      rw [e] at h'
      have ho := hw.obj n a o h1 e
      cases o with
      | lst xs =>
        cases h'
        obtain ⟨ys, h2, _⟩ := ho
        exact .base (.lst h2)
      | dK xs =>
        cases h'
        obtain ⟨ys, h2, _⟩ := ho
        exact .base (.dK h2)
      | ins C fs => cases h'
section
variable {X : Cx} {Wx : WX} {a b : Expr} {fa fb : SE} {pos p p1 p2 p3 : Pos}
theorem pd_isi {T : String} {x : Str} (hT : T ∈ clNames) (hg : Gl X "isinstance") (hm : X.mg "isinstance" = none) (hx : PE X (.Name x p1) (tC (.ty T))) (ha : PD X Wx a fa)
    (h1 : starEach [a, .Name x p1] X.env = (false, eval a X.env) :: starEach [.Name x p1] X.env := by rfl) (h2 : starEach [.Name x p1] X.env = [(false, eval (.Name x p1) X.env)] := by rfl) (hpl : (backTo pos (starEach [.Name x p1] X.env)).any (·.1) = false := by rfl) :
    PD X Wx (.Call (.Name "isinstance" p) [a, .Name x p1] [] pos) (eIsi T fa) := by
  refine pe_imp (pe_callB call_isi hg hm (by decide +kernel) (pa_cons ha (pa_cons hx pa_nil h2) h1) (by decide) (by decide) h1 hpl) fun σ H Q ⟨env, S, ρ, rr, S', he, hw, hf, hp⟩ => ?_
  refine tG_bnd he hw hf hp fun w S1 v H1 ρ1 hk g1 w1 rx he1 hp1 => ?_
  have hk' : (match tyName S1 w with | some t => some (Rs.ok (Wv.d (.bool (isiB t T))), S1) | none => none) = some (rr, S') := hk
  cases e : tyName S1 w with
  | none => rw [e] at hk'; cases hk'
  | some t =>
    rw [e] at hk'
    cases hk'
    exact ⟨v, .ty T, .type t, .type T, isiB t T, rfl, .ty T, tyName_ty w1 rx e, kit_ty (kit_at (tyName_in e) hT), hp1.ok w1 (show RepD _ _ _ _ _ from .bl _)⟩
theorem pd_isi2 {T U : String} {x y : Str} {k : Nat} (hT : T ∈ clNames) (hU : U ∈ clNames) (hg : Gl X "isinstance") (hm : X.mg "isinstance" = none) (hx : PE X (.Name x p1) (tC (.ty T))) (hy : PE X (.Name y p2) (tC (.ty U))) (ha : PD X Wx a fa)
    (h1 : starEach [a, .Tuple [.Name x p1, .Name y p2] k p3] X.env = (false, eval a X.env) :: starEach [.Tuple [.Name x p1, .Name y p2] k p3] X.env := by rfl) (h2 : starEach [.Tuple [.Name x p1, .Name y p2] k p3] X.env = [(false, eval (.Tuple [.Name x p1, .Name y p2] k p3) X.env)] := by rfl)
    (h3 : starEach [.Name x p1, .Name y p2] X.env = (false, eval (.Name x p1) X.env) :: starEach [.Name y p2] X.env := by rfl) (h4 : starEach [.Name y p2] X.env = [(false, eval (.Name y p2) X.env)] := by rfl)
    (hpl : (backTo pos (starEach [.Tuple [.Name x p1, .Name y p2] k p3] X.env)).any (·.1) = false := by rfl) :
    PD X Wx (.Call (.Name "isinstance" p) [a, .Tuple [.Name x p1, .Name y p2] k p3] [] pos) (eIsi2 T U fa) := by
  refine pe_imp (pe_callB call_isiT hg hm (by decide +kernel) (pa_cons ha (pa_cons (pe_tup (pa_cons hx (pa_cons hy pa_nil h4) h3)) pa_nil h2) h1) (by decide) (by decide) h1 hpl) fun σ H Q ⟨env, S, ρ, rr, S', he, hw, hf, hp⟩ => ?_
  refine tG_bnd he hw hf hp fun w S1 v H1 ρ1 hk g1 w1 rx he1 hp1 => ?_
  have hk' : (match tyName S1 w with | some t => some (Rs.ok (Wv.d (.bool (isiB t T || isiB t U))), S1) | none => none) = some (rr, S') := hk
  cases e : tyName S1 w with
  | none => rw [e] at hk'; cases hk'
  | some t =>
    rw [e] at hk'
    cases hk'
    refine ⟨by show 2 ≤ sizeLine; decide, fun q hq => ?_⟩
    have g2 : Ge ρ1 H1 ρ1 (upd H1 q (.tup [.ty T, .ty U])) := w1.geF hq
    have w2 := w1.fresh (o := .tup [.ty T, .ty U]) hq
    refine ⟨v, q, [.ty T, .ty U], .type t, [.type T, .type U], isiB t T || isiB t U, rfl, upd_same, .cons (.ty T) (.cons (.ty U) .nil), tyName_ty w2 (RepW.mono g2 rx) e, ?_, (hp1.mono g2).ok w2 (show RepD _ _ _ _ _ from .bl _)⟩
    have k1 := kit_ty (K := X.K) (kit_at (tyName_in e) hT)
    have k2 := kit_ty (K := X.K) (kit_at (tyName_in e) hU)
    refine kitAny_cons k1 (fun z => ?_) (fun z => by rw [z]; rfl)
    rw [z, Bool.false_or]
    exact kitAny_cons k2 (fun z2 => by rw [z2]; rfl) (fun z2 => by rw [z2])
end

/-! ### len and other built-in functions -/
@[reducible] def f1 (g : Wv → M Wv) : List Wv → M Wv
  | [w] => g w
  | _ => M.no
def lenW (w : Wv) : M Wv := fun S => match w with
  | .d (.str x) => if x.length ≤ sizeLine then retI x.length S else none
  | .d (.list x) => retI x.length S
  | .d (.tuple x) => retI x.length S
  | .scr x => retI x.length S
  | .loc n => match S[n]? with
    | some (.lst x) => retI x.length S
    | _ => none
  | _ => none
theorem f1_inv {g : Wv → M Wv} {ws : List Wv} {S S' : Sto} {rr : Rs Wv} (h : f1 g ws S = some (rr, S')) : ∃ w, ws = [w] ∧ g w S = some (rr, S') := by
  cases ws with
  | nil => cases h
  | cons w r =>
    cases r with
    | nil => exact ⟨w, rfl, h⟩
    | cons _ _ => cases h
theorem RepWs.one {K : PySem.W.Frag} {ρ : Rh} {H : Hp} {vs : List V} {w : Wv} (r : RepWs K ρ H vs [w]) : ∃ v, vs = [v] ∧ RepW K ρ H v w := by
  cases r with
  | cons a b =>
    cases b
    exact ⟨_, rfl, a⟩
theorem RepWs.two {K : PySem.W.Frag} {ρ : Rh} {H : Hp} {vs : List V} {w u : Wv} (r : RepWs K ρ H vs [w, u]) : ∃ v z, vs = [v, z] ∧ RepW K ρ H v w ∧ RepW K ρ H z u := by
  cases r with
  | cons a b =>
    cases b with
    | cons c d =>
      cases d
      exact ⟨_, _, rfl, a, c⟩
/-- what a store's list is -/
theorem Wd.lst {G : Gm} {ρ : Rh} {H : Hp} {S : Sto} {n : Nat} {xs : List D} {v : V} (hw : Wd G ρ H S) (r : RepW G.K ρ H v (.loc n)) (h : S[n]? = some (.lst xs)) : ∃ a ys, v = .ref a ∧ ρ.l[n]? = some a ∧ H a = some (.lst ys) ∧ RepDs G.K ρ H ys xs := by
  obtain ⟨a, h1, rfl⟩ := r
  obtain ⟨ys, h2, h3⟩ := hw.obj n a _ h1 h
  exact ⟨a, ys, rfl, h1, h2, h3⟩
theorem Wd.dK {G : Gm} {ρ : Rh} {H : Hp} {S : Sto} {n : Nat} {xs : List (Key × D)} {v : V} (hw : Wd G ρ H S) (r : RepW G.K ρ H v (.loc n)) (h : S[n]? = some (.dK xs)) : ∃ a ys, v = .ref a ∧ ρ.l[n]? = some a ∧ H a = some (.dK ys) ∧ RepKs G.K ρ H ys xs := by
  obtain ⟨a, h1, rfl⟩ := r
  obtain ⟨ys, h2, h3⟩ := hw.obj n a _ h1 h
  exact ⟨a, ys, rfl, h1, h2, h3⟩
section
variable {G : Gm}
theorem cd_len : CallD G (fun xs H Q => ∃ x n, xs = [x] ∧ LenV G.K x H n ∧ Q (.int n) H) (f1 lenW) := by
  intro ρ H S xs ws Q rr S' Wx σ hw rx h hp
  replace h := f1_inv h
  obtain ⟨w, rfl, h⟩ := h
  obtain ⟨v, rfl, r⟩ := RepWs.one rx
  unfold lenW at h
  cases w with
  | d x =>
    cases x with
    | str z =>
      have h' : (if z.length ≤ sizeLine then retI z.length S else none) = some (rr, S') := h
      split at h'
      · rename_i hz
        obtain ⟨rfl, rfl⟩ := M.ret_eq h'
        have e := rep_str r
        subst e
        exact ⟨_, z.length, rfl, ⟨hz, rfl⟩, hp.ok hw (show RepD _ _ _ _ _ from .int _)⟩
      · cases h'
    | list z =>
      obtain ⟨rfl, rfl⟩ := M.ret_eq (show retI z.length S = some (rr, S') from h)
      obtain ⟨a, ys, rfl, h1, h2, h3⟩ := RepD.sqL r
      exact ⟨_, z.length, rfl, .inl ⟨ys, SqL.of h1, h3.length.symm⟩, hp.ok hw (show RepD _ _ _ _ _ from .int _)⟩
    | tuple z =>
      obtain ⟨rfl, rfl⟩ := M.ret_eq (show retI z.length S = some (rr, S') from h)
      obtain ⟨a, ys, rfl, h1, h3⟩ := RepD.sqT r
      exact ⟨_, z.length, rfl, .inr ⟨ys, h1, h3.length.symm⟩, hp.ok hw (show RepD _ _ _ _ _ from .int _)⟩
    | _ => cases h
  | scr z =>
    obtain ⟨rfl, rfl⟩ := M.ret_eq (show retI z.length S = some (rr, S') from h)
    obtain ⟨a, ys, rfl, h1, h3⟩ := r
    exact ⟨_, z.length, rfl, .inl ⟨ys, h1.sq, h3.length.symm⟩, hp.ok hw (show RepD _ _ _ _ _ from .int _)⟩
  | loc n =>
    have h' : (match S[n]? with | some (.lst x) => retI x.length S | _ => none) = some (rr, S') := h
    cases e : S[n]? with
    | none => rw [e] at h'; cases h'
    | some o =>
      rw [e] at h'
      cases o with
      | lst x =>
        obtain ⟨rfl, rfl⟩ := M.ret_eq (show retI x.length S = some (rr, S') from h')
        obtain ⟨a, ys, rfl, _, h2, h3⟩ := hw.lst r e
        exact ⟨_, x.length, rfl, .inl ⟨ys, SqL.of h2, h3.length.symm⟩, hp.ok hw (show RepD _ _ _ _ _ from .int _)⟩
      | dK x => cases h'
      | ins _ _ => cases h'

/-- the ints, bools, texts of a list -/
def intsOf : List D → Option (List Int)
  | [] => some []
  | .int i :: r => (intsOf r).map (i :: ·)
  | _ :: _ => none
def blsOf : List D → Option (List Bool)
  | [] => some []
  | .bool i :: r => (blsOf r).map (i :: ·)
  | _ :: _ => none
def strsOf : List D → Option (List Str)
  | [] => some []
  | .str i :: r => (strsOf r).map (i :: ·)
  | _ :: _ => none
theorem intsOf_rep {K : PySem.W.Frag} {ρ : Rh} {H : Hp} : ∀ {vs : List V} {ds : List D} {ns : List Int}, RepDs K ρ H vs ds → intsOf ds = some ns → vs = ns.map V.int
  | _, _, _, .nil, h => by cases h; rfl
  | _, _, ns, .cons (d := d) (ds := r) a b, h => by
    cases d with
    | int i =>
      have h' : (intsOf r).map (i :: ·) = some ns := h
      obtain ⟨m, h1, rfl⟩ := Option.map_eq_some_iff.mp h'
      rw [intsOf_rep b h1, rep_int (K := K) (ρ := ρ) (H := H) a]
      rfl
    | _ => cases h
theorem blsOf_rep {K : PySem.W.Frag} {ρ : Rh} {H : Hp} : ∀ {vs : List V} {ds : List D} {ns : List Bool}, RepDs K ρ H vs ds → blsOf ds = some ns → vs = ns.map V.bl
  | _, _, _, .nil, h => by cases h; rfl
  | _, _, ns, .cons (d := d) (ds := r) a b, h => by
    cases d with
    | bool i =>
      have h' : (blsOf r).map (i :: ·) = some ns := h
      obtain ⟨m, h1, rfl⟩ := Option.map_eq_some_iff.mp h'
      rw [blsOf_rep b h1, rep_bl (K := K) (ρ := ρ) (H := H) a]
      rfl
    | _ => cases h
theorem strsOf_rep {K : PySem.W.Frag} {ρ : Rh} {H : Hp} : ∀ {vs : List V} {ds : List D} {ns : List Str}, RepDs K ρ H vs ds → strsOf ds = some ns → vs = ns.map V.str
  | _, _, _, .nil, h => by cases h; rfl
  | _, _, ns, .cons (d := d) (ds := r) a b, h => by
    cases d with
    | str i =>
      have h' : (strsOf r).map (i :: ·) = some ns := h
      obtain ⟨m, h1, rfl⟩ := Option.map_eq_some_iff.mp h'
      rw [strsOf_rep b h1, rep_str (K := K) (ρ := ρ) (H := H) a]
      rfl
    | _ => cases h
def allW (w : Wv) : M Wv := match w with
  | .d (.list xs) => match blsOf xs with
    | some bs => retB (bs.all id)
    | none => M.no
  | _ => M.no
def anyW (w : Wv) : M Wv := match w with
  | .d (.list xs) => match blsOf xs with
    | some bs => retB (bs.any id)
    | none => M.no
  | _ => M.no
def sumW (w : Wv) : M Wv := match w with
  | .d (.list xs) => match intsOf xs with
    | some bs => retI bs.sum
    | none => M.no
  | _ => M.no
theorem cd_all : CallD G (rAll G.K) (f1 allW) := by
  intro ρ H S xs ws Q rr S' Wx σ hw rx h hp
  replace h := f1_inv h
  obtain ⟨w, rfl, h⟩ := h
  obtain ⟨v, rfl, r⟩ := RepWs.one rx
  unfold allW at h
  split at h
  · rename_i zs
    cases hb : blsOf zs with
    | none => rw [hb] at h; cases h
    | some bs =>
      rw [hb] at h
      obtain ⟨rfl, rfl⟩ := M.ret_eq h
      obtain ⟨a, ys, rfl, h1, h2, h3⟩ := RepD.sqL r
      have e := blsOf_rep h3 hb
      subst e
      exact ⟨a, bs, rfl, SqL.of h1, hp.ok hw (show RepD _ _ _ _ _ from .bl _)⟩
  · cases h
theorem cd_any : CallD G (rAny G.K) (f1 anyW) := by
  intro ρ H S xs ws Q rr S' Wx σ hw rx h hp
  replace h := f1_inv h
  obtain ⟨w, rfl, h⟩ := h
  obtain ⟨v, rfl, r⟩ := RepWs.one rx
  unfold anyW at h
  split at h
  · rename_i zs
    cases hb : blsOf zs with
    | none => rw [hb] at h; cases h
    | some bs =>
      rw [hb] at h
      obtain ⟨rfl, rfl⟩ := M.ret_eq h
      obtain ⟨a, ys, rfl, h1, h2, h3⟩ := RepD.sqL r
      have e := blsOf_rep h3 hb
      subst e
      exact ⟨a, bs, rfl, SqL.of h1, hp.ok hw (show RepD _ _ _ _ _ from .bl _)⟩
  · cases h
theorem cd_sum : CallD G (rSum G.K) (f1 sumW) := by
  intro ρ H S xs ws Q rr S' Wx σ hw rx h hp
  replace h := f1_inv h
  obtain ⟨w, rfl, h⟩ := h
  obtain ⟨v, rfl, r⟩ := RepWs.one rx
  unfold sumW at h
  split at h
  · rename_i zs
    cases hb : intsOf zs with
    | none => rw [hb] at h; cases h
    | some bs =>
      rw [hb] at h
      obtain ⟨rfl, rfl⟩ := M.ret_eq h
      obtain ⟨a, ys, rfl, h1, h2, h3⟩ := RepD.sqL r
      have e := intsOf_rep h3 hb
      subst e
      exact ⟨a, bs, rfl, SqL.of h1, hp.ok hw (show RepD _ _ _ _ _ from .int _)⟩
  · cases h
/-- tuple(..): of a list (frozen, of the store, the script's), of a tuple -/
def tupW (w : Wv) : M Wv := fun S => match w with
  | .d (.list x) => retT x S
  | .d (.tuple x) => retT x S
  | .loc n => match S[n]? with
    | some (.lst x) => retT x S
    | _ => none
  | _ => none
def rTupOf (K : PySem.W.Frag) : List V → Hp → VK → Prop := fun xs H Q => ∃ p ys, xs = [.ref p] ∧ ((SqL K H p ys ∧ ∀ l, H l = none → Q (.ref l) (upd H l (.tup ys))) ∨ (SqT K H p ys ∧ Q (.ref p) H))
theorem cd_tup : CallD G (rTupOf G.K) (f1 tupW) := by
  intro ρ H S xs ws Q rr S' Wx σ hw rx h hp
  replace h := f1_inv h
  obtain ⟨w, rfl, h⟩ := h
  obtain ⟨v, rfl, r⟩ := RepWs.one rx
  unfold tupW at h
  cases w with
  | d x =>
    cases x with
    | list z =>
      obtain ⟨rfl, rfl⟩ := M.ret_eq (show retT z S = some (rr, S') from h)
      obtain ⟨a, ys, rfl, h1, h2, h3⟩ := RepD.sqL r
      exact ⟨a, ys, rfl, .inl ⟨SqL.of h1, hp.newT hw h3⟩⟩
    | tuple z =>
      obtain ⟨rfl, rfl⟩ := M.ret_eq (show retT z S = some (rr, S') from h)
      obtain ⟨a, ys, rfl, h1, h3⟩ := RepD.sqT r
      exact ⟨a, ys, rfl, .inr ⟨h1, hp.ok hw r⟩⟩
    | _ => cases h
  | scr z => cases h
  | loc n =>
    have h' : (match S[n]? with | some (.lst x) => retT x S | _ => none) = some (rr, S') := h
    cases e : S[n]? with
    | none => rw [e] at h'; cases h'
    | some o =>
      rw [e] at h'
      cases o with
      | lst x =>
        obtain ⟨rfl, rfl⟩ := M.ret_eq (show retT x S = some (rr, S') from h')
        obtain ⟨a, ys, rfl, _, h2, h3⟩ := hw.lst r e
        exact ⟨a, ys, rfl, .inl ⟨SqL.of h2, hp.newT hw h3⟩⟩
      | dK x => cases h'
      | ins _ _ => cases h'
/-- int(..) of an int, a bool, a text -/
def intW (w : Wv) : M Wv := match w with
  | .d (.int i) => retI i
  | .d (.bool b) => retI (if b then 1 else 0)
  | .d (.str x) => if x.length ≤ 640 then (match PySem.intText? x with | some n => retI n | none => M.no) else M.no
  | _ => M.no
def rIntOf : List V → Hp → VK → Prop := fun xs H Q => ((∃ i, xs = [.int i] ∧ Q (.int i) H) ∨ ∃ k, xs = [.bl k] ∧ Q (.int (if k then 1 else 0)) H) ∨ ∃ a n, xs = [.str a] ∧ PySem.intText? a = some n ∧ a.length ≤ 640 ∧ Q (.int n) H
theorem call_intA {X : Cx} : CallR X (.type "int") rIntOf := call_int1.or call_int_str
theorem cd_int : CallD G rIntOf (f1 intW) := by
  intro ρ H S xs ws Q rr S' Wx σ hw rx h hp
  replace h := f1_inv h
  obtain ⟨w, rfl, h⟩ := h
  obtain ⟨v, rfl, r⟩ := RepWs.one rx
  unfold intW at h
  split at h
  · obtain ⟨rfl, rfl⟩ := M.ret_eq h
    rw [rep_int r]
    exact .inl (.inl ⟨_, rfl, hp.ok hw (show RepD _ _ _ _ _ from .int _)⟩)
  · obtain ⟨rfl, rfl⟩ := M.ret_eq h
    rw [rep_bl r]
    exact .inl (.inr ⟨_, rfl, hp.ok hw (show RepD _ _ _ _ _ from .int _)⟩)
  · split at h
    · rename_i x hz
      cases e : PySem.intText? x with
      | none => rw [e] at h; cases h
      | some n =>
        rw [e] at h
        obtain ⟨rfl, rfl⟩ := M.ret_eq (show retI n S = some (rr, S') from h)
        rw [rep_str r]
        exact .inr ⟨_, n, rfl, e, hz, hp.ok hw (show RepD _ _ _ _ _ from .int _)⟩
    · cases h
  · cases h
/-- str(int) -/
def strW (w : Wv) : M Wv := match w with
  | .d (.int i) => if i.natAbs.log2 < 1920 then retS (toString i) else M.no
  | _ => M.no
theorem cd_str : CallD G (fun xs H Q => ∃ i : Int, xs = [.int i] ∧ i.natAbs.log2 < 1920 ∧ Q (.str (toString i)) H) (f1 strW) := by
  intro ρ H S xs ws Q rr S' Wx σ hw rx h hp
  replace h := f1_inv h
  obtain ⟨w, rfl, h⟩ := h
  obtain ⟨v, rfl, r⟩ := RepWs.one rx
  unfold strW at h
  split at h
  · split at h
    · rename_i i hz
      obtain ⟨rfl, rfl⟩ := M.ret_eq h
      rw [rep_int r]
      exact ⟨_, rfl, hz, hp.ok hw (show RepD _ _ _ _ _ from .str _)⟩
    · cases h
  · cases h
@[reducible] def f1I (g : Int → Int) : List Wv → M Wv
  | [.d (.int i)] => retI (g i)
  | _ => M.no
@[reducible] def f2I (g : Int → Int → Int) : List Wv → M Wv
  | [.d (.int i), .d (.int j)] => retI (g i j)
  | _ => M.no
theorem cd_abs : CallD G (fun xs H Q => ∃ i, xs = [.int i] ∧ Q (.int (if i < 0 then -i else i)) H) (f1I fun i => if i < 0 then -i else i) := by
  intro ρ H S xs ws Q rr S' Wx σ hw rx h hp
  unfold f1I at h
  split at h
  · obtain ⟨rfl, rfl⟩ := M.ret_eq h
    obtain ⟨v, rfl, r⟩ := RepWs.one rx
    rw [rep_int r]
    exact ⟨_, rfl, hp.ok hw (show RepD _ _ _ _ _ from .int _)⟩
  · cases h
theorem cd_max2 : CallD G (fun xs H Q => ∃ i j, xs = [.int i, .int j] ∧ Q (.int (if j > i then j else i)) H) (f2I fun i j => if j > i then j else i) := by
  intro ρ H S xs ws Q rr S' Wx σ hw rx h hp
  unfold f2I at h
  split at h
  · obtain ⟨rfl, rfl⟩ := M.ret_eq h
    obtain ⟨v, z, rfl, r, r2⟩ := RepWs.two rx
    rw [rep_int r, rep_int r2]
    exact ⟨_, _, rfl, hp.ok hw (show RepD _ _ _ _ _ from .int _)⟩
  · cases h
theorem cd_min2 : CallD G (fun xs H Q => ∃ i j, xs = [.int i, .int j] ∧ Q (.int (if j < i then j else i)) H) (f2I fun i j => if j < i then j else i) := by
  intro ρ H S xs ws Q rr S' Wx σ hw rx h hp
  unfold f2I at h
  split at h
  · obtain ⟨rfl, rfl⟩ := M.ret_eq h
    obtain ⟨v, z, rfl, r, r2⟩ := RepWs.two rx
    rw [rep_int r, rep_int r2]
    exact ⟨_, _, rfl, hp.ok hw (show RepD _ _ _ _ _ from .int _)⟩
  · cases h
end

/-! ### items -/
def ixW (x y : Wv) : M Wv := fun S => match y with
  | .d (.int i) => (match x with
    | .d (.tuple xs) => (match atI xs i with | some d => some (.ok (.d d), S) | none => none)
    | .d (.list xs) => (match atI xs i with | some d => some (.ok (.d d), S) | none => none)
    | .scr xs => (match atI xs i with | some d => some (.ok (.d d), S) | none => none)
    | .d (.str z) => if z.length ≤ sizeLine then (match atI z.cps.toList i with | some c => some (.ok (.d (.str ⟨#[c]⟩)), S) | none => none) else none
    | .loc n => (match S[n]? with
      | some (.lst xs) => (match atI xs i with | some d => some (.ok (.d d), S) | none => none)
      | _ => none)
    | _ => none)
  | _ => none
theorem atI_rep {K : PySem.W.Frag} {ρ : Rh} {H : Hp} {vs : List V} {ds : List D} {i : Int} {d : D} (r : RepDs K ρ H vs ds) (h : atI ds i = some d) : ∃ v, atI vs i = some v ∧ RepD K ρ H v d := by
  unfold atI at h ⊢
  rw [r.length]
  cases e : ixN ds.length i with
  | none => rw [e] at h; cases h
  | some j =>
    rw [e] at h
    obtain ⟨v, h1, h2⟩ := r.get (i := j) h
    exact ⟨v, h1, h2⟩
theorem od_ix {G : Gm} : OpD G (rIx G.K) ixW := by
  intro ρ H S x y wx wy Q rr S' Wx σ hw rx ry h hp
  unfold ixW at h
  cases wy with
  | d yd =>
    cases yd with
    | int i =>
      have ei := rep_int ry
      subst ei
      have seq : ∀ {ds : List D} {vs : List V}, RepDs G.K ρ H vs ds → (match atI ds i with | some d => some (Rs.ok (Wv.d d), S) | none => none) = some (rr, S') → ∃ v, atI vs i = some v ∧ Q v H := by
        intro ds vs r h
        cases e : atI ds i with
        | none => rw [e] at h; cases h
        | some d =>
          rw [e] at h
          cases h
          obtain ⟨v, h1, h2⟩ := atI_rep r e
          exact ⟨v, h1, hp.ok hw h2⟩
      cases wx with
      | d xd =>
        cases xd with
        | tuple xs =>
          obtain ⟨a, ys, rfl, h1, h3⟩ := RepD.sqT rx
          obtain ⟨v, h4, q⟩ := seq h3 h
          exact .inr (.inl ⟨a, ys, i, v, rfl, rfl, h1, h4, q⟩)
        | list xs =>
          obtain ⟨a, ys, rfl, h1, _, h3⟩ := RepD.sqL rx
          obtain ⟨v, h4, q⟩ := seq h3 h
          exact .inl ⟨a, ys, i, v, rfl, rfl, SqL.of h1, h4, q⟩
        | str z =>
          have h' : (if z.length ≤ sizeLine then (match atI z.cps.toList i with | some c => some (Rs.ok (Wv.d (.str ⟨#[c]⟩)), S) | none => none) else none) = some (rr, S') := h
          split at h'
          · rename_i hz
            cases e : atI z.cps.toList i with
            | none => rw [e] at h'; cases h'
            | some c =>
              rw [e] at h'
              cases h'
              exact .inr (.inr ⟨z, i, c, rep_str rx, rfl, hz, e, hp.ok hw (show RepD _ _ _ _ _ from .str _)⟩)
          · cases h'
        | _ => cases h
      | scr xs =>
        obtain ⟨a, ys, rfl, h1, h3⟩ := rx
        obtain ⟨v, h4, q⟩ := seq h3 h
        exact .inl ⟨a, ys, i, v, rfl, rfl, h1.sq, h4, q⟩
      | loc n =>
        have h' : (match S[n]? with | some (.lst xs) => (match atI xs i with | some d => some (Rs.ok (Wv.d d), S) | none => none) | _ => none) = some (rr, S') := h
        cases e : S[n]? with
        | none => rw [e] at h'; cases h'
        | some o =>
          rw [e] at h'
          cases o with
          | lst xs =>
            obtain ⟨a, ys, rfl, _, h2, h3⟩ := hw.lst rx e
            obtain ⟨v, h4, q⟩ := seq h3 h'
            exact .inl ⟨a, ys, i, v, rfl, rfl, SqL.of h2, h4, q⟩
          | dK _ => cases h'
          | ins _ _ => cases h'
    | _ => cases h
  | _ => cases h

/-! ### slices -/
@[reducible] def oNone : Sl → M (Option Int) := fun _ => M.ret none
@[reducible] def oSome (a : SE) : Sl → M (Option Int) := fun env => M.bnd (a env) fun w => match w with
  | .d (.int i) => M.ret (some i)
  | _ => M.no
def POD (X : Cx) (Wx : WX) (e : Option Expr) (f : Sl → M (Option Int)) : Prop := PO X e (tG (gmOf X) REq Wx f)
def cutD (xs : List D) (lo hi : Option Int) : List D := (xs.drop (HT.sIx xs.length 0 lo)).take (HT.sIx xs.length xs.length hi - HT.sIx xs.length 0 lo)
def slW (x : Wv) (lo hi : Option Int) : M Wv := match x with
  | .d (.tuple xs) => retT (cutD xs lo hi)
  | .d (.list xs) => retL (cutD xs lo hi)
  | .d (.str z) => if z.length ≤ sizeLine then retS (cutS z lo hi) else M.no
  | _ => M.no
@[reducible] def eSl (a : SE) (l h : Sl → M (Option Int)) : SE := fun env => M.bnd (a env) fun x => M.bnd (l env) fun lo => M.bnd (h env) fun hi => slW x lo hi
theorem cut_rep {K : PySem.W.Frag} {ρ : Rh} {H : Hp} {vs : List V} {ds : List D} {lo hi : Option Int} (r : RepDs K ρ H vs ds) : RepDs K ρ H (cutV vs lo hi) (cutD ds lo hi) := by
  unfold cutV cutD
  rw [r.length]
  exact (r.drop _).take _
def rSlAll (K : PySem.W.Frag) : V → Option Int → Option Int → Hp → VK → Prop := fun x lo hi H Q => (rSlA K x lo hi H Q ∨ rSlL K x lo hi H Q) ∨ rSlS x lo hi H Q
theorem sl_all {X : Cx} : SlR X (rSlAll X.K) := (sl_tupA.or sl_list).or sl_str
section
variable {X : Cx} {Wx : WX} {a b : Expr} {fa fb : SE} {pos p2 : Pos}
theorem pod_none : POD X Wx none oNone := by
  refine ⟨fun pins s σ H Q I hw => ?_⟩
  obtain ⟨env, S, ρ, rr, S', he, hw, hf, hp⟩ := hw
  obtain ⟨rfl, rfl⟩ := M.ret_eq hf
  exact po_none.run pins s σ H Q I (hp.ok hw rfl)
theorem pod_some (ha : PD X Wx a fa) : POD X Wx (some a) (oSome fa) := by
  refine ⟨fun pins s σ H Q I hw => ?_⟩
  obtain ⟨env, S, ρ, rr, S', he, hw, hf, hp⟩ := hw
  refine (po_some ha).run pins s σ H Q I (tG_bnd he hw hf hp fun x S1 v H1 ρ1 hk g1 w1 rx he1 hp1 => ?_)
  cases x with
  | d y =>
    cases y with
    | int i =>
      obtain ⟨rfl, rfl⟩ := M.ret_eq (show M.ret (some i) S1 = some (rr, S') from hk)
      exact ⟨i, rep_int rx, hp1.ok w1 rfl⟩
    | _ => cases hk
  | _ => cases hk
theorem pd_slice {lo hi : Option Expr} {fl fh : Sl → M (Option Int)} (ha : PD X Wx a fa) (hl : POD X Wx lo fl) (hh : POD X Wx hi fh) : PD X Wx (.Subscript a (.Slice lo hi none p2) pos) (eSl fa fl fh) := by
  refine pe_imp (pe_slice sl_all ha hl hh) fun σ H Q ⟨env, S, ρ, rr, S', he, hw, hf, hp⟩ => ?_
  refine tG_bnd he hw hf hp fun x S1 v H1 ρ1 hk g1 w1 rx he1 hp1 => tG_bnd he1 w1 hk hp1 fun l S2 l' H2 ρ2 hk2 g2 w2 rl he2 hp2 => tG_bnd he2 w2 hk2 hp2 fun h S3 h' H3 ρ3 hk3 g3 w3 rh he3 hp3 => ?_
  cases (show l' = l from rl)
  cases (show h' = h from rh)
  have rx3 := RepW.mono (g2.trans g3) rx
  unfold slW at hk3
  split at hk3
  · obtain ⟨rfl, rfl⟩ := M.ret_eq hk3
    rename_i xs
    obtain ⟨p, ys, rfl, h1, h3⟩ := RepD.sqT rx3
    refine .inl (.inl ⟨p, ys, rfl, h1, fun hz => ?_, fun _ => hp3.newT w3 (cut_rep h3)⟩)
    have e : cutD xs l h = xs := by
      unfold cutD
      rw [h3.length] at hz
      rw [hz.1, hz.2]
      simp
    rw [e] at hp3
    exact hp3.ok w3 rx3
  · obtain ⟨rfl, rfl⟩ := M.ret_eq hk3
    obtain ⟨p, ys, rfl, h1, _, h3⟩ := RepD.sqL rx3
    exact .inl (.inr ⟨p, ys, rfl, SqL.of h1, hp3.newL w3 (cut_rep h3)⟩)
  · split at hk3
    · rename_i hz
      obtain ⟨rfl, rfl⟩ := M.ret_eq hk3
      exact .inr ⟨_, rep_str rx3, hz, hp3.ok w3 (show RepD _ _ _ _ _ from .str _)⟩
    · cases hk3
  · cases hk3
theorem pd_ix (ha : PD X Wx a fa) (hb : PD X Wx b fb) (hs : PlainIx b := by intro _ _; rfl) : PD X Wx (.Subscript a b pos) (eBin ixW fa fb) :=
  pe_imp (pe_ix ix_seq ha hb hs) fun σ H Q ⟨env, S, ρ, r, S', he, hw, hf, hp⟩ => tG_bnd he hw hf hp fun x S1 v H1 ρ1 hk g1 w1 rx he1 hp1 =>
    tG_bnd he1 w1 hk hp1 fun y S2 v2 H2 ρ2 hk2 g2 w2 ry he2 hp2 => od_ix ρ2 H2 S2 v v2 x y Q r S' Wx σ w2 (RepW.mono g2 rx) ry hk2 hp2
end
end Bq
set_option Elab.async false
set_option linter.all false
set_option maxRecDepth 100000
set_option maxHeartbeats 2000000
/-! # Statements, targets, loops, comprehensions -/
namespace Bq
open PySem L2

inductive Out where
  | nx | bk | ct
  | rt (w : Wv)
  | ex (e : Xn)
abbrev SS := Sl → Sto → Option (Out × Sl × Sto)
def sE {α : Type} (f : Sl → M α) (k : α → SS) : SS := fun env S => match f env S with
  | some (.ok x, S1) => k x env S1
  | some (.ex e, S1) => some (.ex e, env, S1)
  | none => none
def SPo (G : Gm) (Wx : WX) (D : Ends) (ρ : Rh) (H : Hp) (o : Out) (env' : Sl) (S' : Sto) : Prop :=
  ∀ σ' H' ρ', Ge ρ H ρ' H' → Wd G ρ' H' S' → RelE G.K ρ' H' σ' env' → match o with
    | .nx => D.nx σ' H'
    | .bk => D.bk σ' H'
    | .ct => D.ct σ' H'
    | .rt w => ∀ v, RepW G.K ρ' H' v w → D.rt v H'
    | .ex e => ∀ c d, RepX G ρ' H' e c d → Wx c d σ' H'
def tS (G : Gm) (Wx : WX) (s : SS) : TS := fun D σ H => ∃ env S ρ o env' S', RelE G.K ρ H σ env ∧ Wd G ρ H S ∧ s env S = some (o, env', S') ∧ SPo G Wx D ρ H o env' S'
def PSD (X : Cx) (Wx : WX) (st : Stmt) (s : SS) : Prop := PS X st (tS (gmOf X) Wx s)
def PSsD (X : Cx) (Wx : WX) (st : List Stmt) (s : SS) : Prop := PSs X st (tS (gmOf X) Wx s)
section
variable {G : Gm} {Wx : WX} {D : Ends} {ρ ρ' : Rh} {H H' : Hp} {o : Out} {env env' : Sl} {S S' : Sto} {σ : St}
theorem SPo.mono (g : Ge ρ H ρ' H') (h : SPo G Wx D ρ H o env' S') : SPo G Wx D ρ' H' o env' S' := fun σ2 H2 ρ2 g2 w2 r2 => h σ2 H2 ρ2 (g.trans g2) w2 r2
theorem SPo.nx (h : SPo G Wx D ρ H .nx env' S') (hw : Wd G ρ H S') (r : RelE G.K ρ H σ env') : D.nx σ H := h σ H ρ (Ge.refl _ _) hw r
/-- the first part of a statement: an expression -/
theorem tS_bnd {α β : Type} {R : RelT β α} {Q1 : β → Hp → Prop} {f : Sl → M α} {k : α → Sl → Sto → Option (Out × Sl × Sto)} (he : RelE G.K ρ H σ env) (hw : Wd G ρ H S)
    (h : sE f k env S = some (o, env', S')) (hp : SPo G Wx D ρ H o env' S')
    (hk : ∀ x S1 v H1 ρ1, k x env S1 = some (o, env', S') → Ge ρ H ρ1 H1 → Wd G ρ1 H1 S1 → R ρ1 H1 v x → RelE G.K ρ1 H1 σ env → SPo G Wx D ρ1 H1 o env' S' → Q1 v H1) : tG G R Wx f σ H Q1 := by
  unfold sE at h
  cases e : f env S with
  | none => rw [e] at h; cases h
  | some p =>
    obtain ⟨r1, S1⟩ := p
    rw [e] at h
    cases r1 with
    | ok x => exact ⟨env, S, ρ, .ok x, S1, he, hw, e, fun v H1 ρ1 g w1 r1 => hk x S1 v H1 ρ1 h g w1 r1 (he.mono g) (hp.mono g)⟩
    | ex z =>
      have h' : some (Out.ex z, env, S1) = some (o, env', S') := h
      cases h'
      exact ⟨_, S, ρ, .ex z, _, he, hw, e, fun c d H1 ρ1 g w1 r1 => hp σ H1 ρ1 g w1 (he.mono g) c d r1⟩
end

/-! ## statements -/
@[reducible] def sNil : SS := fun env S => some (.nx, env, S)
def sSeq (s t : SS) : SS := fun env S => match s env S with
  | some (.nx, e1, S1) => t e1 S1
  | r => r
@[reducible] def sRet (f : SE) : SS := sE f fun w env S => some (.rt w, env, S)
@[reducible] def sRetN : SS := fun env S => some (.rt (.d .none), env, S)
@[reducible] def sDrop (f : SE) : SS := sE f fun _ env S => some (.nx, env, S)
@[reducible] def sIf (c : Sl → M Bool) (s t : SS) : SS := sE c fun b => if b = true then s else t
@[reducible] def sSet (i : Nat) (f : SE) : SS := sE f fun w env S => some (.nx, env.set i (some w), S)
@[reducible] def sAsg (g : Wv → Sl → Option Sl) (f : SE) : SS := sE f fun w env S => match g w env with
  | some e1 => some (.nx, e1, S)
  | none => none
section
variable {X : Cx} {Wx : WX} {st : Stmt} {rest : List Stmt} {s t : SS} {e c : Expr} {f : SE} {pos : Pos}
theorem psd_nil : PSsD X Wx [] sNil := by
  refine pss_imp pss_nil fun D σ H ⟨env, S, ρ, o, env', S', he, hw, hf, hp⟩ => ?_
  cases hf
  exact hp.nx hw he
theorem psd_cons (h1 : PSD X Wx st s) (h2 : PSsD X Wx rest t) : PSsD X Wx (st :: rest) (sSeq s t) := by
  refine pss_imp (pss_cons h1 h2) fun D σ H ⟨env, S, ρ, o, env', S', he, hw, hf, hp⟩ => ?_
  unfold sSeq at hf
  cases e : s env S with
  | none => rw [e] at hf; cases hf
  | some p =>
    obtain ⟨o1, e1, S1⟩ := p
    rw [e] at hf
    refine ⟨env, S, ρ, o1, e1, S1, he, hw, e, fun σ1 H1 ρ1 g1 w1 r1 => ?_⟩
    cases o1 with
    | nx => exact ⟨e1, S1, ρ1, o, env', S', r1, w1, hf, hp.mono g1⟩
    | bk => cases hf; exact hp σ1 H1 ρ1 g1 w1 r1
    | ct => cases hf; exact hp σ1 H1 ρ1 g1 w1 r1
    | rt w => cases hf; exact hp σ1 H1 ρ1 g1 w1 r1
    | ex z => cases hf; exact hp σ1 H1 ρ1 g1 w1 r1
theorem psd_one (h1 : PSD X Wx st s) : PSsD X Wx [st] s := pss_one h1
theorem psd_pass : PSD X Wx (.Pass pos) sNil := by
  refine ps_imp ps_pass fun D σ H ⟨env, S, ρ, o, env', S', he, hw, hf, hp⟩ => ?_
  cases hf
  exact hp.nx hw he
theorem psd_break : PSD X Wx (.Break pos) (fun env S => some (.bk, env, S)) := by
  refine ps_imp ps_break fun D σ H ⟨env, S, ρ, o, env', S', he, hw, hf, hp⟩ => ?_
  cases hf
  exact hp σ H ρ (Ge.refl _ _) hw he
theorem psd_continue : PSD X Wx (.Continue pos) (fun env S => some (.ct, env, S)) := by
  refine ps_imp ps_continue fun D σ H ⟨env, S, ρ, o, env', S', he, hw, hf, hp⟩ => ?_
  cases hf
  exact hp σ H ρ (Ge.refl _ _) hw he
theorem psd_ret (h : PD X Wx e f) : PSD X Wx (.Return (some e) pos) (sRet f) := by
  refine ps_imp (ps_ret h) fun D σ H ⟨env, S, ρ, o, env', S', he, hw, hf, hp⟩ => ?_
  refine tS_bnd he hw hf hp fun x S1 v H1 ρ1 hk g1 w1 rx he1 hp1 => ?_
  cases hk
  exact hp1 σ H1 ρ1 (Ge.refl _ _) w1 he1 v rx
theorem psd_retN : PSD X Wx (.Return none pos) sRetN := by
  refine ps_imp ps_retN fun D σ H ⟨env, S, ρ, o, env', S', he, hw, hf, hp⟩ => ?_
  cases hf
  exact hp σ H ρ (Ge.refl _ _) hw he .non .non
theorem psd_expr (h : PD X Wx e f) (hs : swapsWith e none pos.line X.env = pure false := by rfl) : PSD X Wx (.Expr e pos) (sDrop f) := by
  refine ps_imp (ps_expr h hs) fun D σ H ⟨env, S, ρ, o, env', S', he, hw, hf, hp⟩ => ?_
  refine tS_bnd he hw hf hp fun x S1 v H1 ρ1 hk g1 w1 rx he1 hp1 => ?_
  cases hk
  exact hp1.nx w1 he1
theorem psd_if {cc : Sl → M Bool} {p q : List Stmt} (hc : PTD X Wx c cc) (ha : PSsD X Wx p s) (hb : PSsD X Wx q t) : PSD X Wx (.If c p q pos) (sIf cc s t) := by
  refine ps_imp (ps_if hc ha hb) fun D σ H ⟨env, S, ρ, o, env', S', he, hw, hf, hp⟩ => ?_
  refine tS_bnd he hw hf hp fun x S1 v H1 ρ1 hk g1 w1 rx he1 hp1 => ?_
  cases (show v = x from rx)
  cases x with
  | true =>
    rw [if_pos rfl] at hk ⊢
    exact ⟨env, S1, ρ1, o, env', S', he1, w1, hk, hp1⟩
  | false =>
    rw [if_neg Bool.false_ne_true] at hk ⊢
    exact ⟨env, S1, ρ1, o, env', S', he1, w1, hk, hp1⟩
theorem psd_set {i : Nat} {x : Str} {pos' : Pos} (hN : X.N.Nodup) (hi : X.N[i]? = some x) (hx : Loc X.env.scope x) (h : PD X Wx e f) (hs : swapsWith e (some (.Name x pos')) pos.line X.env = pure false := by rfl) (hf : X.fn x = true ∨ X.env.scope.names.lookup x = some .local := by first | exact .inl rfl | exact .inr rfl) :
    PSD X Wx (.Assign [.Name x pos'] e pos) (sSet i f) := by
  refine ps_imp (ps_set hN hi hx h hs hf) fun D σ H ⟨env, S, ρ, o, env', S', he, hw, hf, hp⟩ => ?_
  refine tS_bnd he hw hf hp fun x S1 v H1 ρ1 hk g1 w1 rx he1 hp1 => ?_
  cases hk
  exact hp1.nx w1 (he1.set rx i)
end

/-! ## targets -/
def wipeS (env : Sl) : List Nat → Sl
  | [] => env
  | v :: vs => (wipeS env vs).set v none
theorem wipe_rel {K : PySem.W.Frag} {ρ : Rh} {H : Hp} {σ : St} {env : Sl} (h : RelE K ρ H σ env) : ∀ vs : List Nat, RelE K ρ H (wipe σ vs) (wipeS env vs)
  | [] => h
  | v :: vs => (wipe_rel h vs).wipe v
theorem wipe_set {σ : St} {i : Nat} {o : Option V} : ∀ {vs : List Nat}, i ∈ vs → wipe (σ.set i o) vs = wipe σ vs
  | [], h => by cases h
  | v :: vs, h => by
    show (wipe (σ.set i o) vs).set v none = (wipe σ vs).set v none
    by_cases e : v ∈ vs
    · rcases List.mem_cons.mp h with z | z
      · subst z
        rw [wipe_set e]
      · rw [wipe_set z]
    · rcases List.mem_cons.mp h with z | z
      · subst z
        clear h
        have key : ∀ us : List Nat, i ∉ us → wipe (σ.set i o) us = (wipe σ us).set i o := by
          intro us
          induction us with
          | nil => intro _; rfl
          | cons u us ih =>
            intro hn
            show (wipe (σ.set i o) us).set u none = ((wipe σ us).set u none).set i o
            rw [ih fun z => hn (List.mem_cons_of_mem _ z), List.set_comm _ _ (fun z => hn (by rw [z]; exact List.mem_cons_self))]
        rw [key vs e, List.set_set]
      · rw [wipe_set z]
abbrev SG := Wv → Sl → Option Sl
def gG (G : Gm) (g : SG) (vs : List Nat) : TG := fun v σ H Q => ∃ env ρ w env', RelE G.K ρ H σ env ∧ RepW G.K ρ H v w ∧ g w env = some env' ∧
  ∀ σ', RelE G.K ρ H σ' env' → (∀ own, (∀ i, i ∈ vs → i ∈ own) → wipe σ' own = wipe σ own) → Q σ' H
def PGD (X : Cx) (tg : Expr) (g : SG) (vs : List Nat) : Prop := PG X tg (gG (gmOf X) g vs)
abbrev SGs := List D → Sl → Option Sl
def gGs (G : Gm) (g : SGs) (vs : List Nat) : TGs := fun xs σ H Q => ∃ env ρ ds env', RelE G.K ρ H σ env ∧ RepDs G.K ρ H xs ds ∧ g ds env = some env' ∧
  ∀ σ', RelE G.K ρ H σ' env' → (∀ own, (∀ i, i ∈ vs → i ∈ own) → wipe σ' own = wipe σ own) → Q σ' H
def PGsD (X : Cx) (ts : List Expr) (g : SGs) (vs : List Nat) : Prop := PGs X ts (gGs (gmOf X) g vs)
@[reducible] def gN (i : Nat) : SG := fun w env => some (env.set i (some w))
@[reducible] def gsNil : SGs := fun ds env => match ds with
  | [] => some env
  | _ => none
@[reducible] def gsCons (g : SG) (r : SGs) : SGs := fun ds env => match ds with
  | d :: ds => (match g (.d d) env with
    | some e1 => r ds e1
    | none => none)
  | [] => none
@[reducible] def gT (n : Nat) (g : SGs) : SG := fun w env => match w with
  | .d (.tuple ds) => if ds.length = n then g ds env else none
  | .d (.list ds) => if ds.length = n then g ds env else none
  | _ => none
section
variable {X : Cx} {Wx : WX} {e tg : Expr} {es : List Expr} {g : SG} {gs : SGs} {vs us : List Nat} {pos : Pos} {f : SE}
theorem pgd_name (i : Nat) {x : Str} (hN : X.N.Nodup) (hi : X.N[i]? = some x := by rfl) (hx : Loc X.env.scope x := by first | exact Or.inl rfl | exact Or.inr rfl) (hf : X.fn x = true ∨ X.env.scope.names.lookup x = some .local := by first | exact .inl rfl | exact .inr rfl) : PGD X (.Name x pos) (gN i) [i] := by
  refine ⟨fun pins s σ H v u Q I r h => ?_⟩
  obtain ⟨env, ρ, w, env', he, hr, hg, hq⟩ := h
  cases hg
  exact (pg_name hN hi hx hf).run pins s σ H v u Q I r (hq _ (he.set hr i) fun own ho => wipe_set (ho i (by simp)))
theorem pgsd_nil : PGsD X [] gsNil [] := by
  refine ⟨fun pins s σ H xs us Q I r h => ?_⟩
  obtain ⟨env, ρ, ds, env', he, hr, hg, hq⟩ := h
  cases ds with
  | nil =>
    cases hg
    cases hr
    exact pgs_nil.run pins s σ H _ us Q I r ⟨rfl, hq σ he fun _ _ => rfl⟩
  | cons d ds => cases hg
theorem pgsd_cons (h1 : PGD X e g vs) (h2 : PGsD X es gs us) (hs : (assignEach (e :: es) X.env).map (·.2) = assign e X.env :: (assignEach es X.env).map (·.2) := by rfl) : PGsD X (e :: es) (gsCons g gs) (vs ++ us) := by
  refine ⟨fun pins s σ H xs uu Q I r h => ?_⟩
  obtain ⟨env, ρ, ds, env', he, hr, hg, hq⟩ := h
  cases ds with
  | nil => cases hg
  | cons d ds =>
    have hg : (match g (.d d) env with | some e1 => gs ds e1 | none => none) = some env' := hg
    cases eg : g (.d d) env with
    | none => rw [eg] at hg; cases hg
    | some e1 =>
      rw [eg] at hg
      cases hr with
      | cons hr1 hr2 =>
        refine (pgs_cons h1 h2 hs).run pins s σ H _ uu Q I r ⟨_, _, rfl, env, ρ, .d d, e1, he, hr1, eg, fun σ1 r1 w1 => ⟨e1, ρ, ds, env', r1, hr2, hg, fun σ2 r2 w2 => hq σ2 r2 fun own ho => ?_⟩⟩
        rw [w2 own fun i hi => ho i (List.mem_append_right _ hi), w1 own fun i hi => ho i (List.mem_append_left _ hi)]
theorem pgd_tup {k n : Nat} (hc : X.calm = true) (h : PGsD X es gs vs) (hn : (assignEach es X.env).length = n := by rfl) (hst : (assignEach es X.env).findIdx? (·.1) = none := by rfl) : PGD X (.Tuple es k pos) (gT n gs) vs := by
  refine ⟨fun pins s σ H v u Q I r hw => ?_⟩
  obtain ⟨env, ρ, w, env', he, hr, hg, hq⟩ := hw
  cases w with
  | d x =>
    cases x with
    | tuple ds =>
      have hg : (if ds.length = n then gs ds env else none) = some env' := hg
      split at hg
      · rename_i hl
        obtain ⟨a, xs, rfl, h1, h3⟩ := RepD.sqT hr
        exact (pg_tup hc h hn hst).run pins s σ H _ u Q I r ⟨a, xs, rfl, h1, by rw [h3.length]; exact hl, env, ρ, ds, env', he, h3, hg, hq⟩
      · cases hg
    | list ds =>
      have hg : (if ds.length = n then gs ds env else none) = some env' := hg
      split at hg
      · rename_i hl
        obtain ⟨a, xs, rfl, h1, _, h3⟩ := RepD.sqL hr
        exact (pg_lst hc h hn hst).run pins s σ H _ u Q I r ⟨a, xs, rfl, SqL.of h1, by rw [h3.length]; exact hl, env, ρ, ds, env', he, h3, hg, hq⟩
      · cases hg
    | _ => cases hg
  | _ => cases hg
theorem psd_asg (he : PD X Wx e f) (hg : PGD X tg g vs) (hs : swapsWithSole [tg] e pos.line X.env = pure false := by rfl) (hw : swappedStores [tg] e X.env = pure none := by rfl)
    (h1 : (assignEach [tg] X.env).map (·.2) = [assign tg X.env] := by rfl) : PSD X Wx (.Assign [tg] e pos) (sAsg g f) := by
  refine ps_imp (ps_asg he hg hs hw h1) fun D σ H ⟨env, S, ρ, o, env', S', he, hw, hf, hp⟩ => ?_
  refine tS_bnd he hw hf hp fun x S1 v H1 ρ1 hk g1 w1 rx he1 hp1 => ?_
  have hk : (match g x env with | some e1 => some (Out.nx, e1, S1) | none => none) = some (o, env', S') := hk
  cases eg : g x env with
  | none => rw [eg] at hk; cases hk
  | some e1 =>
    rw [eg] at hk
    cases hk
    exact ⟨env, ρ1, x, _, he1, rx, eg, fun σ' r' _ => hp1.nx w1 r'⟩
/-- a, b = x, y -/
@[reducible] def sPar (i j : Nat) (a : Sl → M (List Wv)) : SS := sE a fun ws env S => match ws with
  | [x, y] => some (.nx, (env.set i (some x)).set j (some y), S)
  | _ => none
theorem psd_par {i j : Nat} {x y : Str} {a b : Expr} {fa : Sl → M (List Wv)} {px py pt : Pos} {kt k2 pt2} (hc : X.calm = true) (hN : X.N.Nodup) (hi : X.N[i]? = some x) (hj : X.N[j]? = some y) (hij : i ≠ j)
    (hx : X.env.scope.names.lookup x = some .local) (hy : X.env.scope.names.lookup y = some .local) (ha : PAD X Wx [a, b] fa)
    (hw : swappedStores [.Tuple [.Name x px, .Name y py] kt pt] (.Tuple [a, b] k2 pt2) X.env = pure (some [x, y]) := by rfl)
    (hs : swapsWithSole [.Tuple [.Name x px, .Name y py] kt pt] (.Tuple [a, b] k2 pt2) pos.line X.env = pure false := by rfl) :
    PSD X Wx (.Assign [.Tuple [.Name x px, .Name y py] kt pt] (.Tuple [a, b] k2 pt2) pos) (sPar i j fa) := by
  refine ps_imp (ps_par hc hN hi hj hij hx hy ha hw hs) fun D σ H ⟨env, S, ρ, o, env', S', he, hw, hf, hp⟩ => ?_
  refine tS_bnd he hw hf hp fun ws S1 vs H1 ρ1 hk g1 w1 rx he1 hp1 => ?_
  cases rx with
  | nil => cases hk
  | cons r1 rx =>
    cases rx with
    | nil => cases hk
    | cons r2 rx =>
      cases rx with
      | nil =>
        cases hk
        exact ⟨_, _, rfl, hp1.nx w1 ((he1.set r1 i).set r2 j)⟩
      | cons _ _ => cases hk
end

/-! ## what is walked -/
def RIt (G : Gm) : RelT It (List D) := fun ρ H J items =>
  (∀ i ρ1 H1 S1, Kp ρ H ρ1 H1 → Wd G ρ1 H1 S1 → i < items.length → J.go i H1 ∧ ∀ x H2, J.yld i H1 x H2 → Ge ρ1 H1 ρ1 H2 ∧ Wd G ρ1 H2 S1 ∧ ∃ d, items[i]? = some d ∧ RepD G.K ρ1 H2 x d) ∧
  ∀ i ρ1 H1, Kp ρ H ρ1 H1 → items.length ≤ i → J.stop i H1
abbrev SI := Sl → M (List D)
def PID (X : Cx) (Wx : WX) (tg iter : Expr) (fi : SI) : Prop := PI X tg iter (tG (gmOf X) (RIt (gmOf X)) Wx fi)
theorem pi_imp {X : Cx} {tg iter : Expr} {t t' : TI} (h : PI X tg iter t) (k : ∀ σ H Q, t' σ H Q → t σ H Q) : PI X tg iter t' := ⟨fun pins s σ H Q I q => h.run pins s σ H Q I (k σ H Q q)⟩
@[reducible] def iSeq (f : SE) : SI := fun env => M.bnd (f env) fun w => match w with
  | .d (.list xs) => M.ret xs
  | _ => M.no
@[reducible] def iTupl (f : SE) : SI := fun env => M.bnd (f env) fun w => match w with
  | .d (.tuple xs) => M.ret xs
  | _ => M.no
def chars (x : Str) : List D := x.cps.toList.map fun c => .str ⟨#[c]⟩
@[reducible] def iChars (f : SE) : SI := fun env => M.bnd (f env) fun w => match w with
  | .d (.str x) => M.ret (chars x)
  | _ => M.no
def rangeD (lo : Int) (n : Nat) : List D := (List.range n).map fun k => .int (lo + (k : Nat))
@[reducible] def iRange1 (a : Sl → M (List Wv)) : SI := fun env => M.bnd (a env) fun ws => match ws with
  | [.d (.int j)] => if -(2 ^ 62) ≤ j ∧ j < 2 ^ 62 then M.ret (rangeD 0 j.toNat) else M.no
  | _ => M.no
@[reducible] def iRange2 (a : Sl → M (List Wv)) : SI := fun env => M.bnd (a env) fun ws => match ws with
  | [.d (.int i), .d (.int j)] => if -(2 ^ 62) ≤ i ∧ i < 2 ^ 62 ∧ -(2 ^ 62) ≤ j ∧ j < 2 ^ 62 then M.ret (rangeD i (j - i).toNat) else M.no
  | _ => M.no
section
variable {G : Gm} {ρ : Rh} {H : Hp}
theorem rit_list {a : Addr} {xs : List V} {ds : List D} (h1 : H a = some (.lst xs)) (n : a ∉ ρ) (h : RepDs G.K ρ H xs ds) : RIt G ρ H (Itl G.K a) ds := by
  refine ⟨fun i ρ1 H1 S1 k w hi => ?_, fun i ρ1 H1 k hi => ⟨xs, SqL.of (k.keep _ _ h1 n), by rw [h.length]; exact hi⟩⟩
  have h2 := k.keep _ _ h1 n
  obtain ⟨v, hv, rv⟩ := h.get (i := i) (d := ds[i]) (by simp [hi])
  refine ⟨⟨xs, v, SqL.of h2, hv⟩, fun x H2 ⟨e, y⟩ => ?_⟩
  subst e
  refine ⟨Ge.refl _ _, w, ds[i], by simp [hi], ?_⟩
  have ex := y xs (SqL.of h2)
  rw [hv] at ex
  cases ex
  exact RepD.monoK k _ _ rv
theorem sqT_keep {K : PySem.W.Frag} {ρ1 : Rh} {H1 : Hp} {a : Addr} {xs : List V} {ds : List D} (h : RepD K ρ H (.ref a) (.tuple ds)) (k : Kp ρ H ρ1 H1) : ∃ ys, SqT K H1 a ys ∧ RepDs K ρ1 H1 ys ds := by
  obtain ⟨b, ys, e, h1, h2⟩ := RepD.sqT (RepD.monoK k _ _ h)
  cases e
  exact ⟨ys, h1, h2⟩
theorem rit_tup {a : Addr} {ds : List D} (h : RepD G.K ρ H (.ref a) (.tuple ds)) : RIt G ρ H (Itt G.K a) ds := by
  refine ⟨fun i ρ1 H1 S1 k w hi => ?_, fun i ρ1 H1 k hi => ?_⟩
  · obtain ⟨ys, h2, h3⟩ := sqT_keep (xs := []) h k
    obtain ⟨v, hv, rv⟩ := h3.get (i := i) (d := ds[i]) (by simp [hi])
    refine ⟨⟨ys, v, h2, hv⟩, fun x H2 ⟨e, y⟩ => ?_⟩
    subst e
    refine ⟨Ge.refl _ _, w, ds[i], by simp [hi], ?_⟩
    have ex := y ys h2
    rw [hv] at ex
    cases ex
    exact rv
  · obtain ⟨ys, h2, h3⟩ := sqT_keep (xs := []) h k
    exact ⟨ys, h2, by rw [h3.length]; exact hi⟩
theorem rit_range {lo : Int} {n : Nat} : RIt G ρ H (Itr lo n) (rangeD lo n) := by
  refine ⟨fun i ρ1 H1 S1 k w hi => ?_, fun i ρ1 H1 k hi => ?_⟩
  · have hi : i < n := by simpa [rangeD] using hi
    refine ⟨hi, fun x H2 ⟨e, y⟩ => ?_⟩
    subst e y
    exact ⟨Ge.refl _ _, w, .int (lo + (i : Nat)), by simp [rangeD, hi], .int _⟩
  · show n ≤ i
    simpa [rangeD] using hi
theorem rit_str {z : Str} : RIt G ρ H (Its z) (chars z) := by
  refine ⟨fun i ρ1 H1 S1 k w hi => ?_, fun i ρ1 H1 k hi => ?_⟩
  · have hi : i < z.cps.size := by simpa [chars] using hi
    refine ⟨hi, fun x H2 ⟨e, c, hc, y⟩ => ?_⟩
    subst e y
    refine ⟨Ge.refl _ _, w, .str ⟨#[c]⟩, ?_, .str _⟩
    have h2 : z.cps.toList[i]? = some c := by simpa using hc
    unfold chars
    rw [List.getElem?_map, h2]
    rfl
  · show z.cps.size ≤ i
    simpa [chars] using hi
end
section
variable {X : Cx} {Wx : WX} {e tg : Expr} {f : SE} {p pos : Pos}
theorem pid_list (h : PD X Wx e f) : PID X Wx tg e (iSeq f) := by
  refine pi_imp (pi_list h) fun σ H Q ⟨env, S, ρ, r, S', he, hw, hf, hp⟩ => ?_
  refine tG_bnd he hw hf hp fun x S1 v H1 ρ1 hk g1 w1 rx he1 hp1 => ?_
  cases x with
  | d y =>
    cases y with
    | list ds =>
      obtain ⟨rfl, rfl⟩ := M.ret_eq (show M.ret ds S1 = some (r, S') from hk)
      obtain ⟨a, xs, rfl, h1, n1, h3⟩ := RepD.sqL rx
      exact ⟨a, rfl, ⟨xs, SqL.of h1⟩, hp1.ok w1 (rit_list h1 n1 h3)⟩
    | _ => cases hk
  | _ => cases hk
theorem pid_tup (h : PD X Wx e f) : PID X Wx tg e (iTupl f) := by
  refine pi_imp (pi_tup h) fun σ H Q ⟨env, S, ρ, r, S', he, hw, hf, hp⟩ => ?_
  refine tG_bnd he hw hf hp fun x S1 v H1 ρ1 hk g1 w1 rx he1 hp1 => ?_
  cases x with
  | d y =>
    cases y with
    | tuple ds =>
      obtain ⟨rfl, rfl⟩ := M.ret_eq (show M.ret ds S1 = some (r, S') from hk)
      obtain ⟨a, xs, rfl, h1, h3⟩ := RepD.sqT rx
      exact ⟨a, rfl, ⟨xs, h1⟩, hp1.ok w1 (rit_tup rx)⟩
    | _ => cases hk
  | _ => cases hk
theorem pid_chars (h : PD X Wx e f) : PID X Wx tg e (iChars f) := by
  refine pi_imp (pi_str h) fun σ H Q ⟨env, S, ρ, r, S', he, hw, hf, hp⟩ => ?_
  refine tG_bnd he hw hf hp fun x S1 v H1 ρ1 hk g1 w1 rx he1 hp1 => ?_
  cases x with
  | d y =>
    cases y with
    | str z =>
      obtain ⟨rfl, rfl⟩ := M.ret_eq (show M.ret (chars z) S1 = some (r, S') from hk)
      exact ⟨z, rep_str rx, hp1.ok w1 rit_str⟩
    | _ => cases hk
  | _ => cases hk
theorem pid_range1 {a : Expr} {fa : Sl → M (List Wv)} (hg : Gl X "range") (hm : X.mg "range" = none) (ha : PAD X Wx [a] fa) (hs : starEach [a] X.env = [(false, eval a X.env)] := by rfl) : PID X Wx tg (.Call (.Name "range" p) [a] [] pos) (iRange1 fa) := by
  refine pi_imp (pi_range1 hg hm ha hs) fun σ H Q ⟨env, S, ρ, r, S', he, hw, hf, hp⟩ => ?_
  refine tG_bnd he hw hf hp fun ws S1 vs H1 ρ1 hk g1 w1 rx he1 hp1 => ?_
  split at hk
  · rename_i j
    split at hk
    · rename_i hj
      obtain ⟨rfl, rfl⟩ := M.ret_eq hk
      obtain ⟨v, rfl, r1⟩ := RepWs.one rx
      exact ⟨j, by rw [rep_int r1], hj.1, hj.2, hp1.ok w1 rit_range⟩
    · cases hk
  · cases hk
theorem pid_range2 {a b : Expr} {fa : Sl → M (List Wv)} (hg : Gl X "range") (hm : X.mg "range" = none) (ha : PAD X Wx [a, b] fa) (hs : starEach [a, b] X.env = [(false, eval a X.env), (false, eval b X.env)] := by rfl) (hs2 : starEach [b] X.env = [(false, eval b X.env)] := by rfl) :
    PID X Wx tg (.Call (.Name "range" p) [a, b] [] pos) (iRange2 fa) := by
  refine pi_imp (pi_range2 hg hm ha hs hs2) fun σ H Q ⟨env, S, ρ, r, S', he, hw, hf, hp⟩ => ?_
  refine tG_bnd he hw hf hp fun ws S1 vs H1 ρ1 hk g1 w1 rx he1 hp1 => ?_
  split at hk
  · rename_i i j
    split at hk
    · rename_i hj
      obtain ⟨rfl, rfl⟩ := M.ret_eq hk
      obtain ⟨v, z, rfl, r1, r2⟩ := RepWs.two rx
      exact ⟨i, j, by rw [rep_int r1, rep_int r2], hj, hp1.ok w1 rit_range⟩
    · cases hk
  · cases hk
end
end Bq
set_option Elab.async false
set_option linter.all false
set_option maxRecDepth 100000
set_option maxHeartbeats 2000000
/-! # for, comprehensions, while -/
namespace Bq
open PySem L2

def forD (g : SG) (b : SS) : List D → SS
  | [] => fun env S => some (.nx, env, S)
  | x :: xs => fun env S => match g (.d x) env with
    | none => none
    | some e1 => match b e1 S with
      | some (.nx, e2, S2) => forD g b xs e2 S2
      | some (.ct, e2, S2) => forD g b xs e2 S2
      | some (.bk, e2, S2) => some (.nx, e2, S2)
      | some (.rt w, e2, S2) => some (.rt w, e2, S2)
      | some (.ex z, e2, S2) => some (.ex z, e2, S2)
      | none => none
@[reducible] def sFor (fi : SI) (g : SG) (b : SS) : SS := sE fi fun items => forD g b items
section
variable {X : Cx} {Wx : WX} {tg iter : Expr} {body : List Stmt} {fi : SI} {g : SG} {vs : List Nat} {b : SS} {pos : Pos}
theorem psd_for (hp : PassesOwn (model X.prog X.w) X.A X.env X.xe) (hc : X.calm = true) (hi : PID X Wx tg iter fi) (hg : PGD X tg g vs) (hb : PSsD X Wx body b)
    (hs : ∀ x, foldedSetIterable iter X.env x = pure x := by intro _; rfl) : PSD X Wx (.For tg iter body [] pos) (sFor fi g b) := by
  refine ps_imp (ps_for hp hc hi hg hb hs) fun D σ H ⟨env, S, ρ, o, env', S', he, hw, hf, hp⟩ => ?_
  refine tS_bnd he hw hf hp fun items S1 J H1 ρ1 hk g1 w1 rx he1 hp1 => ?_
  obtain ⟨ri, rs⟩ := rx
  refine ⟨fun i m σi Hi => m = items.length - i ∧ i ≤ items.length ∧ ∃ envi Si ρi, Ge ρ1 H1 ρi Hi ∧ Wd (gmOf X) ρi Hi Si ∧ RelE X.K ρi Hi σi envi ∧ forD g b (items.drop i) envi Si = some (o, env', S') ∧ SPo (gmOf X) Wx D ρi Hi o env' S',
    ⟨items.length, by simp, Nat.zero_le _, env, S1, ρ1, Ge.refl _ _, w1, he1, by simpa using hk, hp1⟩, ?_⟩
  rintro i m σi Hi ⟨rfl, hi2, envi, Si, ρi, gi, wi, hei, hki, hpi⟩
  by_cases hlt : i < items.length
  · right
    obtain ⟨hgo, hy⟩ := ri i ρi Hi Si gi.kp wi hlt
    refine ⟨hgo, fun σ' H' => ∃ m', m' < items.length - i ∧ m' = items.length - (i + 1) ∧ i + 1 ≤ items.length ∧ ∃ envi Si ρi, Ge ρ1 H1 ρi H' ∧ Wd (gmOf X) ρi H' Si ∧ RelE X.K ρi H' σ' envi ∧ forD g b (items.drop (i + 1)) envi Si = some (o, env', S') ∧ SPo (gmOf X) Wx D ρi H' o env' S',
      fun σ' H' ⟨m', h1, h2, h3, h4⟩ => ⟨m', h1, h2, h3, h4⟩, fun x H2 yl => ?_⟩
    obtain ⟨gy, wy, d, hd, rd⟩ := hy x H2 yl
    have ed : items.drop i = d :: items.drop (i + 1) := by
      rw [List.drop_eq_getElem_cons hlt]
      obtain ⟨_, e⟩ := List.getElem?_eq_some_iff.mp hd
      rw [e]
    rw [ed] at hki
    have hki : (match g (.d d) envi with
      | none => none
      | some e1 => match b e1 Si with
        | some (.nx, e2, S2) => forD g b (items.drop (i + 1)) e2 S2
        | some (.ct, e2, S2) => forD g b (items.drop (i + 1)) e2 S2
        | some (.bk, e2, S2) => some (Out.nx, e2, S2)
        | some (.rt w, e2, S2) => some (Out.rt w, e2, S2)
        | some (.ex z, e2, S2) => some (Out.ex z, e2, S2)
        | none => none) = some (o, env', S') := hki
    cases eg : g (.d d) envi with
    | none => rw [eg] at hki; cases hki
    | some e1 =>
      rw [eg] at hki
      dsimp only at hki
      refine ⟨envi, ρi, .d d, e1, hei.mono gy, rd, eg, fun σ1 r1 _ => ?_⟩
      cases eb : b e1 Si with
      | none => rw [eb] at hki; cases hki
      | some q =>
        obtain ⟨ob, e2, S2⟩ := q
        rw [eb] at hki
        refine ⟨e1, Si, ρi, ob, e2, S2, r1, wy, eb, fun σ3 H3 ρ3 g3 w3 r3 => ?_⟩
        have hpn := hpi.mono (gy.trans g3)
        cases ob with
        | nx => exact ⟨items.length - (i + 1), by omega, rfl, hlt, e2, S2, ρ3, (gi.trans gy).trans g3, w3, r3, hki, hpn⟩
        | ct => exact ⟨items.length - (i + 1), by omega, rfl, hlt, e2, S2, ρ3, (gi.trans gy).trans g3, w3, r3, hki, hpn⟩
        | bk => cases hki; exact hpn.nx w3 r3
        | rt w => cases hki; exact hpn σ3 H3 ρ3 (Ge.refl _ _) w3 r3
        | ex z => cases hki; exact hpn σ3 H3 ρ3 (Ge.refl _ _) w3 r3
  · left
    have ei : i = items.length := by omega
    subst ei
    rw [List.drop_length] at hki
    cases hki
    exact ⟨rs _ _ _ gi.kp (Nat.le_refl _), hpi.nx wi hei⟩
end

/-! ## comprehensions -/
def PTsD (X : Cx) (Wx : WX) (ifs : List Expr) (c : Sl → M Bool) : Prop := PTs X ifs (tG (gmOf X) REq Wx c)
@[reducible] def cYes : Sl → M Bool := fun _ => M.ret true
theorem ptsd_nil {X : Cx} {Wx : WX} : PTsD X Wx [] cYes := by
  refine ⟨fun pins s σ H Q I h => ?_⟩
  obtain ⟨env, S, ρ, rr, S', he, hw, hf, hp⟩ := h
  obtain ⟨rfl, rfl⟩ := M.ret_eq hf
  exact pts_nil.run pins s σ H Q I (hp.ok hw rfl)
theorem ptsd_one {X : Cx} {Wx : WX} {c : Expr} {f : Sl → M Bool} (h : PTD X Wx c f) : PTsD X Wx [c] f := pts_one h
def lcGo (g : SG) (c : Sl → M Bool) (f : SE) (env : Sl) : List D → List D → M (List D)
  | [], acc => M.ret acc
  | x :: xs, acc => fun S => match g (.d x) env with
    | none => none
    | some e1 => match c e1 S with
      | some (.ok true, S1) => (match f e1 S1 with
        | some (.ok (.d y), S2) => if acc.length < sizeLine then lcGo g c f env xs (acc ++ [y]) S2 else none
        | _ => none)
      | some (.ok false, S1) => lcGo g c f env xs acc S1
      | _ => none
@[reducible] def eLc (fi : SI) (g : SG) (c : Sl → M Bool) (f : SE) (own : List Nat) : SE := fun env => M.bnd (fi env) fun items => M.bnd (lcGo g c f (wipeS env own) items []) fun ys => M.ret (.d (.list ys))
/-- no exception -/
abbrev W0 : WX := fun _ _ _ _ => False

/-- the heap while a list is being built at D -/
structure Bld (ρ0 : Rh) (H0 : Hp) (ρi : Rh) (Hi : Hp) (D : Addr) : Prop where
  pre : ∃ r, ρi.l = ρ0.l ++ r
  hx : ρi.x = D :: ρ0.x
  new : ∀ a, a ∈ ρi.l → a ∉ ρ0.l → H0 a = none
  keep : ∀ a u, H0 a = some u → a ∉ ρ0 → Hi a = some u
  hid : ∀ a, a ∈ ρ0.x → Hi a = H0 a
section
variable {G : Gm} {ρ0 ρi ρj : Rh} {H0 Hi Hj : Hp} {D : Addr} {S : Sto}
theorem Bld.start (w : Wd G ρ0 H0 S) (hD : H0 D = none) (u : HO) : Bld ρ0 H0 ⟨ρ0.l, D :: ρ0.x⟩ (upd H0 D u) D :=
  ⟨⟨[], by simp⟩, rfl, fun a h n => absurd h n, fun a o h n => by
    rw [upd_ne fun e => by subst e; exact rd_some h hD]
    exact h, fun a ha => upd_ne fun e => by subst e; exact w.notx hD ha⟩
theorem Bld.startW (w : Wd G ρ0 H0 S) (hD : H0 D = none) (u : HO) : Kp ρ0 H0 ⟨ρ0.l, D :: ρ0.x⟩ (upd H0 D u) :=
  ⟨⟨[], by simp⟩, fun a o h n => by
    rw [upd_ne fun e => by subst e; exact rd_some h hD]
    exact h, fun a o h n z => by
      rcases z with z | z
      · exact n (.inl z)
      · rcases List.mem_cons.mp z with e | z
        · subst e; exact rd_some h hD
        · exact n (.inr z)⟩
theorem Bld.kp (b : Bld ρ0 H0 ρi Hi D) (hD : H0 D = none) : Kp ρ0 H0 ρi Hi :=
  ⟨b.pre, b.keep, fun a u h n z => by
    rcases z with z | z
    · exact rd_some h (b.new a z fun q => n (.inl q))
    · rw [b.hx] at z
      rcases List.mem_cons.mp z with e | z
      · subst e; exact rd_some h hD
      · exact n (.inr z)⟩
theorem Bld.go (b : Bld ρ0 H0 ρi Hi D) (hD : H0 D = none) (g : Ge ρi Hi ρj Hj) : Bld ρ0 H0 ρj Hj D := by
  refine ⟨?_, g.hx.trans b.hx, fun a h n => ?_, fun a u h n => g.keep a u (b.keep a u h n) ((b.kp hD).out a u h n), fun a h => ?_⟩
  · obtain ⟨r, e1⟩ := b.pre
    obtain ⟨r2, e2⟩ := g.pre
    exact ⟨r ++ r2, by rw [e2, e1]; simp⟩
  · by_cases h1 : a ∈ ρi.l
    · exact b.new a h1 n
    · have z := g.new a h h1
      cases e : H0 a with
      | none => rfl
      | some u =>
        by_cases hx : a ∈ ρ0.x
        · rw [b.hid a hx, e] at z; cases z
        · rw [b.keep a u e fun q => q.elim n hx] at z; cases z
  · rw [g.hid a (by rw [b.hx]; exact List.mem_cons_of_mem _ h)]
    exact b.hid a h
/-- the list grows -/
theorem Kp.hidden {ρ : Rh} {H : Hp} {D : Addr} {o : HO} (h : D ∈ ρ.x) : Kp ρ H ρ (upd H D o) :=
  ⟨⟨[], by simp⟩, fun a u e n => by
    rw [upd_ne fun z => by subst z; exact n (.inr h)]
    exact e, fun a u e n => n⟩
theorem Wd.hidden {ρ : Rh} {H : Hp} {o : HO} (w : Wd G ρ H S) (h : D ∈ ρ.x) : Wd G ρ (upd H D o) S :=
  ⟨w.nd, w.len, fun n a ob h1 h2 => (w.obj n a ob h1 h2).monoK (Kp.hidden h) (upd_ne fun e => by
    subst e
    exact w.dis a (List.mem_of_getElem? h1) h), fun a ha => by
      by_cases e : a = D
      · exact ⟨o, by rw [e]; exact upd_same⟩
      · obtain ⟨u, hu⟩ := w.hid a ha
        exact ⟨u, by rw [upd_ne e]; exact hu⟩, w.dis⟩
theorem Bld.grow (b : Bld ρ0 H0 ρi Hi D) (hD : H0 D = none) (nx : D ∉ ρ0.x) (o : HO) : Bld ρ0 H0 ρi (upd Hi D o) D :=
  ⟨b.pre, b.hx, b.new, fun a u h n => by
    rw [upd_ne fun e => by subst e; exact rd_some h hD]
    exact b.keep a u h n, fun a h => by
      rw [upd_ne fun e => by subst e; exact nx h]
      exact b.hid a h⟩
/-- at the end the list stands -/
theorem Bld.done (b : Bld ρ0 H0 ρi Hi D) : Ge ρ0 H0 ⟨ρi.l, ρ0.x⟩ Hi := ⟨b.pre, rfl, b.new, b.keep, b.hid⟩
theorem Bld.doneW (b : Bld ρ0 H0 ρi Hi D) (w : Wd G ρi Hi S) : Wd G ⟨ρi.l, ρ0.x⟩ Hi S := by
  have hs : ∀ a, a ∈ (⟨ρi.l, ρ0.x⟩ : Rh) → a ∈ ρi := fun a h => h.imp id fun z => by rw [b.hx]; exact List.mem_cons_of_mem _ z
  exact ⟨w.nd, w.len, fun n a o h1 h2 => (w.obj n a o h1 h2).less hs, fun a h => w.hid a (by rw [b.hx]; exact List.mem_cons_of_mem _ h), fun a h z => w.dis a h (by rw [b.hx]; exact List.mem_cons_of_mem _ z)⟩
end
theorem Rh.of {ρ : Rh} {D : Addr} {x : List Addr} (h : ρ.x = D :: x) : D ∈ ρ.x := by rw [h]; exact List.mem_cons_self

section
variable {X : Cx} {Wx : WX} {elt tg iter : Expr} {ifs : List Expr} {fi : SI} {g : SG} {vs : List Nat} {c : Sl → M Bool} {f : SE} {pos : Pos} {scope : Scope} {own : List (Str × Nat)}
/-- the block's context -/
abbrev blkA (X : Cx) (scope : Scope) (s : Shared) (H : Hp) (C : Addr) (cl : List (Str × Addr)) (fp : List Addr) : Cx := X.blk s H scope (compEnvC scope cl C X.env) fp
theorem lc_imp {σ : St} {H : Hp} {Q : VK} (hso : ∀ i, i ∈ vs → i ∈ own.map (·.2)) (h : tG (gmOf X) (RepW X.K) Wx (eLc fi g c f (own.map (·.2))) σ H Q) :
    tLc (tG (gmOf X) (RIt (gmOf X)) Wx fi) (gG (gmOf X) g vs) (tG (gmOf X) REq W0 c) (tG (gmOf X) (RepW X.K) W0 f) (own.map (·.2)) σ H Q := by
  obtain ⟨env, S, ρ, rr, S', he, hw, hf, hp⟩ := h
  refine tG_bnd he hw hf hp fun items S1 J H1 ρ1 hk g1 w1 rx he1 hp1 D hD => ?_
  obtain ⟨ri, rs⟩ := rx
  have nx := w1.notx hD
  -- the comprehension as a whole
  cases hL : lcGo g c f (wipeS env (own.map (·.2))) items [] S1 with
  | none => unfold M.bnd at hk; rw [hL] at hk; cases hk
  | some pr =>
    obtain ⟨rl, SL⟩ := pr
    have exNo : ∀ (its acc : List Bq.D) (T : Sto) (z : Xn) (T' : Sto), lcGo g c f (wipeS env (own.map (·.2))) its acc T ≠ some (.ex z, T') := by
      intro its
      induction its with
      | nil =>
        intro acc T z T' e
        obtain ⟨e1, _⟩ := M.ret_eq e
        cases e1
      | cons x xs ih =>
        intro acc T z T' e
        unfold lcGo at e
        split at e
        · cases e
        · split at e
          · split at e
            · split at e
              · exact ih _ _ _ _ e
              · cases e
            · cases e
          · exact ih _ _ _ _ e
          · cases e
    cases rl with
    | ex z => exact absurd hL (exNo _ _ _ _ _)
    | ok ys =>
      rw [M.bnd_ok hL] at hk
      obtain ⟨rfl, rfl⟩ := M.ret_eq hk
      refine ⟨fun i m Hi => m = items.length - i ∧ i ≤ items.length ∧ ∃ Si ρi acc us, Bld ρ1 H1 ρi Hi D ∧ Hi D = some (.lst us) ∧ Wd (gmOf X) ρi Hi Si ∧ RelE X.K ρi Hi σ env ∧ RepDs X.K ρi Hi us acc ∧ lcGo g c f (wipeS env (own.map (·.2))) (items.drop i) acc Si = some (.ok ys, S'),
        ⟨items.length, by simp, Nat.zero_le _, S1, ⟨ρ1.l, D :: ρ1.x⟩, [], [], Bld.start w1 hD _, upd_same, ?_, he1.monoK (Bld.startW w1 hD _), .nil, by simpa using hL⟩, ?_⟩
      · refine ⟨w1.nd, w1.len, fun n a o h1 h2 => (w1.obj n a o h1 h2).monoK (Bld.startW w1 hD _) (upd_ne fun e => ?_), fun a ha => ?_, fun a ha z => ?_⟩
        · obtain ⟨u, hu⟩ := (w1.obj n a o h1 h2).there
          rw [e, hD] at hu; cases hu
        · rcases List.mem_cons.mp ha with e | z
          · exact ⟨_, by rw [e]; exact upd_same⟩
          · obtain ⟨u, hu⟩ := w1.hid a z
            exact ⟨u, by rw [upd_ne fun e => by subst e; exact nx z]; exact hu⟩
        · rcases List.mem_cons.mp z with e | z
          · subst e
            exact w1.notin hD (.inl ha)
          · exact w1.dis a ha z
      · rintro i m Hi ⟨rfl, hi2, Si, ρi, acc, us, bi, hDi, wi, hei, ra, hki⟩
        by_cases hlt : i < items.length
        · right
          obtain ⟨hgo, hy⟩ := ri i ρi Hi Si (bi.kp hD) wi hlt
          refine ⟨hgo, fun H' => ∃ m', m' < items.length - i ∧ m' = items.length - (i + 1) ∧ i + 1 ≤ items.length ∧ ∃ Si ρi acc us, Bld ρ1 H1 ρi H' D ∧ H' D = some (.lst us) ∧ Wd (gmOf X) ρi H' Si ∧ RelE X.K ρi H' σ env ∧ RepDs X.K ρi H' us acc ∧ lcGo g c f (wipeS env (own.map (·.2))) (items.drop (i + 1)) acc Si = some (.ok ys, S'),
            fun H' ⟨m', h1, h2, h3, h4⟩ => ⟨m', h1, h2, h3, h4⟩, fun x H2 yl => ?_⟩
          obtain ⟨gy, wy, d, hd, rd⟩ := hy x H2 yl
          have ed : items.drop i = d :: items.drop (i + 1) := by
            rw [List.drop_eq_getElem_cons hlt]
            obtain ⟨_, e⟩ := List.getElem?_eq_some_iff.mp hd
            rw [e]
          rw [ed] at hki
          unfold lcGo at hki
          have bx := bi.hx
          have by2 := bi.go hD gy
          have hD2 : H2 D = some (.lst us) := by rw [gy.hid D (Rh.of bx)]; exact hDi
          cases eg : g (.d d) (wipeS env (own.map (·.2))) with
          | none => rw [eg] at hki; cases hki
          | some e1 =>
            rw [eg] at hki
            have hki : (match c e1 Si with
              | some (.ok true, S1) => (match f e1 S1 with
                | some (.ok (.d y), S2) => if acc.length < sizeLine then lcGo g c f (wipeS env (own.map (·.2))) (items.drop (i + 1)) (acc ++ [y]) S2 else none
                | _ => none)
              | some (.ok false, S1) => lcGo g c f (wipeS env (own.map (·.2))) (items.drop (i + 1)) acc S1
              | _ => none) = some (.ok ys, S') := hki
            refine ⟨wipeS env (own.map (·.2)), ρi, .d d, e1, wipe_rel (hei.mono gy) _, rd, eg, fun σ1 r1 w1' => ⟨?_, ?_⟩⟩
            · have e := w1' (own.map (·.2)) hso
              rw [e]
              have idem : ∀ (us : List Nat) (s : St), wipe (wipe s us) us = wipe s us := by
                intro us s
                have aux : ∀ (as bs : List Nat) (s : St), (∀ a, a ∈ as → a ∈ bs) → wipe (wipe s as) bs = wipe s bs := by
                  intro as
                  induction as with
                  | nil => intro bs s _; rfl
                  | cons a as ih =>
                    intro bs s h
                    show wipe ((wipe s as).set a none) bs = wipe s bs
                    rw [wipe_set (h a List.mem_cons_self)]
                    exact ih bs s fun x hx => h x (List.mem_cons_of_mem _ hx)
                exact aux us us s fun _ h => h
              exact idem _ _
            · cases ec : c e1 Si with
              | none => rw [ec] at hki; cases hki
              | some q =>
                obtain ⟨rc, S2⟩ := q
                rw [ec] at hki
                cases rc with
                | ex z => cases hki
                | ok k =>
                  refine ⟨e1, Si, ρi, .ok k, S2, r1, wy, ec, fun k' H3 ρ3 g3 w3 r3 => ?_⟩
                  cases (show k' = k from r3)
                  have b3 := by2.go hD g3
                  have hD3 : H3 D = some (.lst us) := by rw [g3.hid D (Rh.of by2.hx)]; exact hD2
                  have ra3 := RepDs.mono (gy.trans g3) _ _ ra
                  have he3 := hei.mono (gy.trans g3)
                  cases k with
                  | false =>
                    rw [if_neg Bool.false_ne_true]
                    exact ⟨items.length - (i + 1), by omega, rfl, hlt, S2, ρ3, acc, us, b3, hD3, w3, he3, ra3, hki⟩
                  | true =>
                    rw [if_pos rfl]
                    have hki : (match f e1 S2 with
                      | some (.ok (.d y), S2) => if acc.length < sizeLine then lcGo g c f (wipeS env (own.map (·.2))) (items.drop (i + 1)) (acc ++ [y]) S2 else none
                      | _ => none) = some (.ok ys, S') := hki
                    cases ef : f e1 S2 with
                    | none => rw [ef] at hki; cases hki
                    | some q =>
                      obtain ⟨rf, S3⟩ := q
                      rw [ef] at hki
                      cases rf with
                      | ex z => cases hki
                      | ok wf =>
                        cases wf with
                        | loc n => cases hki
                        | scr n => cases hki
                        | d y =>
                          have hki : (if acc.length < sizeLine then lcGo g c f (wipeS env (own.map (·.2))) (items.drop (i + 1)) (acc ++ [y]) S3 else none) = some (.ok ys, S') := hki
                          split at hki
                          · rename_i hz
                            refine ⟨e1, S2, ρ3, .ok (.d y), S3, r1.mono g3, w3, ef, fun v4 H4 ρ4 g4 w4 r4 => ?_⟩
                            have b4 := b3.go hD g4
                            have hD4 : H4 D = some (.lst us) := by rw [g4.hid D (Rh.of b3.hx)]; exact hD3
                            have hDx := Rh.of b4.hx
                            refine ⟨us, hD4, by rw [ra.length]; exact hz, items.length - (i + 1), by omega, rfl, hlt, S3, ρ4, acc ++ [y], us ++ [v4], b4.grow hD nx _, upd_same, w4.hidden hDx, (he3.mono g4).monoK (Kp.hidden hDx), ?_, hki⟩
                            exact RepDs.monoK (Kp.hidden hDx) _ _ ((RepDs.mono g4 _ _ ra3).append (.cons r4 .nil))
                          · cases hki
        · left
          have ei : i = items.length := by omega
          subst ei
          rw [List.drop_length] at hki
          obtain ⟨e1, rfl⟩ := M.ret_eq hki
          cases e1
          refine ⟨rs _ _ _ (bi.kp hD) (Nat.le_refl _), ?_⟩
          have hs : ∀ a, a ∈ (⟨ρi.l, ρ1.x⟩ : Rh) → a ∈ ρi := fun a h => h.imp id fun z => by rw [bi.hx]; exact List.mem_cons_of_mem _ z
          refine hp1 (.ref D) Hi _ bi.done (bi.doneW wi) (show RepD _ _ _ _ _ from .lst hDi (fun z => ?_) (RepDs.less hs _ _ ra))
          rcases z with z | z
          · exact wi.dis D z (Rh.of bi.hx)
          · exact nx z
theorem pd_lc (hc : X.calm = true) (hN : X.N.Nodup) (hi : PID X Wx tg iter fi) (ok : BlkOk X.N X.env.scope scope own)
    (hg : ∀ (s : Shared) (H : Hp) (C : Addr) (cl : List (Str × Addr)) (fp : List Addr), PGD (blkA X scope s H C cl fp) tg g vs) (ht : ∀ (s : Shared) (H : Hp) (C : Addr) (cl : List (Str × Addr)) (fp : List Addr), PTsD (blkA X scope s H C cl fp) W0 ifs c)
    (he : ∀ (s : Shared) (H : Hp) (C : Addr) (cl : List (Str × Addr)) (fp : List Addr), PD (blkA X scope s H C cl fp) W0 elt f) (hso : (vs.all fun i => (own.map (·.2)).contains i) = true := by rfl) (hs : ∀ x, foldedSetIterable iter X.env x = pure x := by intro _; rfl) :
    PD X Wx (.ListComp elt [⟨tg, iter, ifs, 0⟩] scope pos) (eLc fi g c f (own.map (·.2))) :=
  pe_imp (pe_lc (g := gG (gmOf X) g vs) (tt := tG (gmOf X) REq W0 c) (te := tG (gmOf X) (RepW X.K) W0 f) hc hN hi ok hg ht he hs) fun σ H Q h => lc_imp (fun i hi => List.contains_iff_mem.mp (List.all_eq_true.mp hso i hi)) h
/-- y = [..] on one line -/
theorem psd_setLc {i : Nat} {y : Str} {py spos : Pos} (hc : X.calm = true) (hN : X.N.Nodup) (hy : X.N[i]? = some y) (hyl : X.env.scope.names.lookup y = some .local)
    (hsw : swapsWith (.ListComp elt [⟨tg, iter, ifs, 0⟩] scope pos) (some (.Name y py)) spos.line X.env = pure true) (hi : PID X Wx tg iter fi) (ok : BlkOk X.N X.env.scope scope own)
    (hg : ∀ (s : Shared) (H : Hp) (C : Addr) (cl : List (Str × Addr)) (fp : List Addr), PGD (blkA X scope s H C cl fp) tg g vs) (ht : ∀ (s : Shared) (H : Hp) (C : Addr) (cl : List (Str × Addr)) (fp : List Addr), PTsD (blkA X scope s H C cl fp) W0 ifs c)
    (he : ∀ (s : Shared) (H : Hp) (C : Addr) (cl : List (Str × Addr)) (fp : List Addr), PD (blkA X scope s H C cl fp) W0 elt f) (hso : (vs.all fun i => (own.map (·.2)).contains i) = true := by rfl) (hs : ∀ x, foldedSetIterable iter X.env x = pure x := by intro _; rfl) :
    PSD X Wx (.Assign [.Name y py] (.ListComp elt [⟨tg, iter, ifs, 0⟩] scope pos) spos) (sSet i (eLc fi g c f (own.map (·.2)))) := by
  refine ps_imp (ps_setLc (g := gG (gmOf X) g vs) (tt := tG (gmOf X) REq W0 c) (te := tG (gmOf X) (RepW X.K) W0 f) hc hN hy hyl hsw hi ok hg ht he hs) fun D σ H ⟨env, S, ρ, o, env', S', hee, hw, hf, hp⟩ => ?_
  refine lc_imp (fun i hi => List.contains_iff_mem.mp (List.all_eq_true.mp hso i hi)) ?_
  refine tS_bnd hee hw hf hp fun x S1 v H1 ρ1 hk g1 w1 rx he1 hp1 => ?_
  cases hk
  exact hp1.nx w1 (he1.set rx i)
end

/-! ## while -/
def whileN (c : Sl → M Bool) (b : SS) : Nat → SS
  | 0 => fun _ _ => none
  | n + 1 => fun env S => match c env S with
    | none => none
    | some (.ex z, S1) => some (.ex z, env, S1)
    | some (.ok false, S1) => some (.nx, env, S1)
    | some (.ok true, S1) => match b env S1 with
      | some (.nx, e2, S2) => whileN c b n e2 S2
      | some (.ct, e2, S2) => whileN c b n e2 S2
      | some (.bk, e2, S2) => some (.nx, e2, S2)
      | some (.rt w, e2, S2) => some (.rt w, e2, S2)
      | some (.ex z, e2, S2) => some (.ex z, e2, S2)
      | none => none
open Classical in
noncomputable def sWhile (c : Sl → M Bool) (b : SS) : SS := fun env S => if h : ∃ n r, whileN c b n env S = some r then whileN c b h.choose env S else none
theorem whileN_mono {c : Sl → M Bool} {b : SS} : ∀ {n m : Nat} {env : Sl} {S : Sto} {r : Out × Sl × Sto}, whileN c b n env S = some r → n ≤ m → whileN c b m env S = some r
  | 0, _, _, _, _, h, _ => by cases h
  | n + 1, 0, _, _, _, _, h => by omega
  | n + 1, m + 1, env, S, r, h, hm => by
    unfold whileN at h ⊢
    split at h
    · cases h
    · exact h
    · exact h
    · split at h
      · exact whileN_mono h (by omega)
      · exact whileN_mono h (by omega)
      · exact h
      · exact h
      · exact h
      · cases h
theorem sWhile_eq {c : Sl → M Bool} {b : SS} {n : Nat} {env : Sl} {S : Sto} {r : Out × Sl × Sto} (h : whileN c b n env S = some r) : sWhile c b env S = some r := by
  unfold sWhile
  have hx : ∃ n r, whileN c b n env S = some r := ⟨n, r, h⟩
  rw [dif_pos hx]
  obtain ⟨r', h'⟩ := hx.choose_spec
  have h1 := whileN_mono h' (Nat.le_max_left hx.choose n)
  have h2 := whileN_mono h (Nat.le_max_right hx.choose n)
  rw [h1] at h2
  cases h2
  exact h'
theorem sWhile_inv {c : Sl → M Bool} {b : SS} {env : Sl} {S : Sto} {r : Out × Sl × Sto} (h : sWhile c b env S = some r) : ∃ n, whileN c b n env S = some r := by
  unfold sWhile at h
  split at h
  · exact ⟨_, h⟩
  · cases h
section
variable {X : Cx} {Wx : WX} {c : Expr} {body : List Stmt} {fc : Sl → M Bool} {b : SS} {pos : Pos}
theorem psd_while (hp : PassesOwn (model X.prog X.w) X.A X.env X.xe) (hc : PTD X Wx c fc) (hb : PSsD X Wx body b) : PSD X Wx (.While c body [] pos) (sWhile fc b) := by
  refine ps_imp (ps_while hp hc hb) fun D σ H ⟨env, S, ρ, o, env', S', he, hw, hf, hp⟩ => ?_
  obtain ⟨n, hn⟩ := sWhile_inv hf
  refine ⟨fun m σi Hi => ∃ envi Si ρi, Wd (gmOf X) ρi Hi Si ∧ RelE X.K ρi Hi σi envi ∧ whileN fc b m envi Si = some (o, env', S') ∧ SPo (gmOf X) Wx D ρi Hi o env' S', ⟨n, env, S, ρ, hw, he, hn, hp⟩, ?_⟩
  rintro m σi Hi ⟨envi, Si, ρi, wi, hei, hki, hpi⟩
  cases m with
  | zero => cases hki
  | succ m =>
    unfold whileN at hki
    cases ec : fc envi Si with
    | none => rw [ec] at hki; cases hki
    | some q =>
      obtain ⟨rc, S1⟩ := q
      rw [ec] at hki
      cases rc with
      | ex z =>
        have h' : some (Out.ex z, envi, S1) = some (o, env', S') := hki
        cases h'
        exact ⟨_, Si, ρi, .ex z, _, hei, wi, ec, fun c d H1 ρ1 g1 w1 r1 => hpi σi H1 ρ1 g1 w1 (hei.mono g1) c d r1⟩
      | ok k =>
        refine ⟨envi, Si, ρi, .ok k, S1, hei, wi, ec, fun k' H1 ρ1 g1 w1 r1 => ?_⟩
        cases (show k' = k from r1)
        cases k with
        | false =>
          rw [if_neg Bool.false_ne_true]
          have h' : some (Out.nx, envi, S1) = some (o, env', S') := hki
          cases h'
          exact (hpi.mono g1).nx w1 (hei.mono g1)
        | true =>
          rw [if_pos rfl]
          refine ⟨fun σ' H' => ∃ envi Si ρi, Wd (gmOf X) ρi H' Si ∧ RelE X.K ρi H' σ' envi ∧ whileN fc b m envi Si = some (o, env', S') ∧ SPo (gmOf X) Wx D ρi H' o env' S', fun σ' H' h => ⟨m, Nat.lt_succ_self m, h⟩, ?_⟩
          have hki : (match b envi S1 with
            | some (.nx, e2, S2) => whileN fc b m e2 S2
            | some (.ct, e2, S2) => whileN fc b m e2 S2
            | some (.bk, e2, S2) => some (Out.nx, e2, S2)
            | some (.rt w, e2, S2) => some (Out.rt w, e2, S2)
            | some (.ex z, e2, S2) => some (Out.ex z, e2, S2)
            | none => none) = some (o, env', S') := hki
          cases eb : b envi S1 with
          | none => rw [eb] at hki; cases hki
          | some q =>
            obtain ⟨ob, e2, S2⟩ := q
            rw [eb] at hki
            refine ⟨envi, S1, ρ1, ob, e2, S2, hei.mono g1, w1, eb, fun σ3 H3 ρ3 g3 w3 r3 => ?_⟩
            have hpn := hpi.mono (g1.trans g3)
            cases ob with
            | nx => exact ⟨e2, S2, ρ3, w3, r3, hki, hpn⟩
            | ct => exact ⟨e2, S2, ρ3, w3, r3, hki, hpn⟩
            | bk => cases hki; exact hpn.nx w3 r3
            | rt w => cases hki; exact hpn σ3 H3 ρ3 (Ge.refl _ _) w3 r3
            | ex z => cases hki; exact hpn σ3 H3 ρ3 (Ge.refl _ _) w3 r3
end
end Bq
set_option Elab.async false
set_option linter.all false
set_option maxRecDepth 100000
set_option maxHeartbeats 2000000
/-! # Defs and calls -/
namespace Bq
open PySem L2 PyProof.Rows

def FPo (G : Gm) (Q : VK) (E : XK) (ρ : Rh) (H : Hp) (r : Rs Wv) (S' : Sto) : Prop := match r with
  | .ok w => ∀ v H' ρ', Ge ρ H ρ' H' → Wd G ρ' H' S' → RepW G.K ρ' H' v w → Q v H'
  | .ex e => ∀ c d H' ρ', Ge ρ H ρ' H' → Wd G ρ' H' S' → RepX G ρ' H' e c d → E c d H'
def OPo (G : Gm) (Q : VK) (E : XK) (ρ' : Rh) (H' : Hp) (o : Out) : Prop := match o with
  | .nx => Q .non H'
  | .bk => False
  | .ct => False
  | .rt w => ∀ v, RepW G.K ρ' H' v w → Q v H'
  | .ex e => ∀ c d, RepX G ρ' H' e c d → E c d H'
/-- what a def promises: it computes F -/
def spD (G : Gm) (n : Nat) (F : List Wv → M Wv) : Sp := fun vs H Q E => vs.length = n ∧ ∃ ws S ρ r S', RepWs G.K ρ H vs ws ∧ Wd G ρ H S ∧ F ws S = some (r, S') ∧ FPo G Q E ρ H r S'
def FnD (P : Program) (w : World) (G : Gm) (base : Heap) (k : Nat) (x : Str) (st : Stmt) (ps : List Str) (F : List Wv → M Wv) : Prop :=
  ∃ f fd, G.mg x = some (.ref f) ∧ FunD G.K x x (defArgs st) (defBody st) (defScope st) [] [] f fd ∧ Binds G.K fd ps [] ∧ FnOk P w G.K G.mg base (L2.CX P w) k f fd ps (spD G ps.length F)
theorem FnD.mono {P : Program} {w : World} {G : Gm} {base : Heap} {j k : Nat} {x : Str} {st : Stmt} {ps : List Str} {F : List Wv → M Wv} (h : FnD P w G base j x st ps F) (hj : j ≤ k) : FnD P w G base k x st ps F :=
  let ⟨f, fd, h1, h2, h3, h4⟩ := h
  ⟨f, fd, h1, h2, h3, h4.mono hj⟩
theorem FnD.imp {P : Program} {w : World} {G : Gm} {base : Heap} {k : Nat} {x : Str} {st : Stmt} {ps : List Str} {F F' : List Wv → M Wv} (h : FnD P w G base k x st ps F) (hF : ∀ ws S r, F' ws S = some r → F ws S = some r) : FnD P w G base k x st ps F' :=
  let ⟨f, fd, h1, h2, h3, h4⟩ := h
  ⟨f, fd, h1, h2, h3, h4.imp fun vs H Q E ⟨hl, ws, S, ρ, r, S', a, b, c, d⟩ => ⟨hl, ws, S, ρ, r, S', a, b, hF ws S _ c, d⟩⟩

def retNew (kp : Bool) (n : Nat) (S' : Sto) : Option Ob → Option (Rs Wv × Sto)
  | some (.lst xs) => if kp = true then some (.ok (.loc n), S'.take n ++ [.lst xs]) else some (.ok (.d (.list xs)), S'.take n)
  | some ob => if kp = true then some (.ok (.loc n), S'.take n ++ [ob]) else none
  | none => none
def retOut (kp : Bool) (n : Nat) (o : Out) (S' : Sto) : Option (Rs Wv × Sto) := match o with
  | .nx => some (.ok (.d .none), S'.take n)
  | .rt (.d x) => some (.ok (.d x), S'.take n)
  | .rt (.loc k) => if k < n then some (.ok (.loc k), S'.take n) else retNew kp n S' S'[k]?
  | .ex e => some (.ex e, S'.take n)
  | _ => none
def fnS (kp : Bool) (N n : Nat) (s : SS) (ws : List Wv) : M Wv := fun S => if ws.length = n then (match s (ws.map some ++ List.replicate (N - n) none) S with
  | some (o, _, S') => retOut kp S.length o S'
  | none => none) else none

section
variable {K : PySem.W.Frag} {ρ : Rh} {H : Hp}
theorem RepWs.get : ∀ {vs : List V} {ws : List Wv} {i : Nat} {w : Wv}, RepWs K ρ H vs ws → ws[i]? = some w → ∃ v, vs[i]? = some v ∧ RepW K ρ H v w
  | _, _, _, _, .nil, h => by simp at h
  | _, _, 0, _, .cons a b, h => by
    simp at h; subst h
    exact ⟨_, rfl, a⟩
  | _, _, i + 1, _, .cons a b, h => by
    obtain ⟨v, h1, h2⟩ := RepWs.get (i := i) b (by simpa using h)
    exact ⟨v, by simpa using h1, h2⟩
theorem rel_start {N : List Str} {vs : List V} {ws : List Wv} (h : RepWs K ρ H vs ws) : RelE K ρ H (L2.start N vs) (ws.map some ++ List.replicate (N.length - ws.length) none) := by
  have hl := h.length
  refine ⟨by unfold L2.start; simp [hl], fun i w e => ?_⟩
  by_cases hi : i < ws.length
  · rw [List.getElem?_append_left (by simpa using hi), List.getElem?_map] at e
    cases e2 : ws[i]? with
    | none => rw [e2] at e; cases e
    | some w' =>
      rw [e2] at e
      cases e
      obtain ⟨v, h1, h2⟩ := h.get e2
      refine ⟨v, ?_, h2⟩
      unfold L2.start
      rw [List.getElem?_append_left (by rw [List.length_map, hl]; exact hi), List.getElem?_map, h1]
      rfl
  · rw [List.getElem?_append_right (by simpa using hi), List.getElem?_replicate] at e
    split at e <;> cases e
end
section
variable {G : Gm} {ρ ρ' : Rh} {H H' : Hp} {S' : Sto}
theorem Ge.back (g : Ge ρ H ρ' H') : Ge ρ H ρ H' := ⟨⟨[], by simp⟩, rfl, fun a h n => absurd h n, g.keep, g.hid⟩
theorem Ge.takeEq (g : Ge ρ H ρ' H') : (⟨ρ'.l.take ρ.l.length, ρ'.x⟩ : Rh) = ρ := by
  obtain ⟨r, e⟩ := g.pre
  obtain ⟨l, x⟩ := ρ
  obtain ⟨l', x'⟩ := ρ'
  have h1 := g.hx
  simp only at h1 e ⊢
  subst h1 e
  simp
theorem Ge.subR (g : Ge ρ H ρ' H') : ∀ a, a ∈ ρ → a ∈ ρ' := fun a h => h.imp g.sub fun z => by rw [g.hx]; exact z
theorem Wd.backTake (g : Ge ρ H ρ' H') (w : Wd G ρ' H' S') : Wd G ρ H' (S'.take ρ.l.length) := by
  have h := w.take ρ.l.length
  rw [g.takeEq] at h
  exact h
/-- the end of a def's body -/
theorem ret_end {kp : Bool} {Q : VK} {E : XK} {S S'' : Sto} {o : Out} {r : Rs Wv} (hw : Wd G ρ H S) (h : retOut kp S.length o S' = some (r, S''))
    (hq : FPo G Q E ρ H r S'') (g : Ge ρ H ρ' H') (w' : Wd G ρ' H' S') : OPo G Q E ρ' H' o := by
  have wb := Wd.backTake g w'
  rw [hw.len] at wb
  cases o with
  | nx =>
    cases h
    exact hq .non H' ρ g.back wb (show RepD _ _ _ _ _ from .non)
  | bk => cases h
  | ct => cases h
  | ex e =>
    cases h
    intro c d ⟨h1, h2⟩
    refine hq c d H' ρ g.back wb ⟨h1, h2.imp id fun ⟨dx, xs, a1, a2, a3, a4⟩ => ⟨dx, xs, a1, a2, fun z => a3 (g.subR dx z), a4.less g.subR⟩⟩
  | rt w =>
    intro v rv
    cases w with
    | d x =>
      cases h
      exact hq v H' ρ g.back wb (RepD.less g.subR x v rv)
    | scr xs => cases h
    | loc k =>
      have h : (if k < S.length then some (Rs.ok (Wv.loc k), S'.take S.length) else retNew kp S.length S' S'[k]?) = some (r, S'') := h
      obtain ⟨a, ha, rfl⟩ := rv
      split at h
      · rename_i hk
        cases h
        refine hq (.ref a) H' ρ g.back wb ⟨a, ?_, rfl⟩
        obtain ⟨t, e⟩ := g.pre
        rw [e, List.getElem?_append_left (by rw [hw.len]; exact hk)] at ha
        exact ha
      · rename_i hk
        have hnl : a ∉ ρ.l := fun z => by
          obtain ⟨j, hj⟩ := List.mem_iff_getElem?.mp z
          have hj2 := g.at hj
          have e := nodup_at w'.nd hj2 ha
          have := (List.getElem?_eq_some_iff.mp hj).1
          rw [hw.len] at this
          omega
        have hnx : a ∉ ρ.x := fun z => w'.dis a (List.mem_of_getElem? ha) (by rw [g.hx]; exact z)
        cases e : S'[k]? with
        | none => rw [e] at h; cases h
        | some ob =>
          rw [e] at h
          have hO := w'.obj k a ob ha e
          have keepC : some (Rs.ok (Wv.loc S.length), S'.take S.length ++ [ob]) = some (r, S'') → Q (.ref a) H' := fun h => by
            cases h
            have hs : ∀ b, b ∈ ρ.push a → b ∈ ρ' := fun b hb => by
              rcases hb with z | z
              · rcases List.mem_append.mp z with z | z
                · exact .inl (g.sub z)
                · have eb : b = a := by simpa using z
                  rw [eb]
                  exact .inl (List.mem_of_getElem? ha)
              · exact .inr (by rw [g.hx]; exact z)
            refine hq (.ref a) H' (ρ.push a) ⟨⟨[a], rfl⟩, rfl, fun b hb nb => ?_, g.keep, g.hid⟩ ?_ ⟨a, ?_, rfl⟩
            · rcases List.mem_append.mp hb with z | z
              · exact absurd z nb
              · have eb : b = a := by simpa using z
                rw [eb]
                exact g.new a (List.mem_of_getElem? ha) hnl
            · refine ⟨?_, by simp [← wb.len], fun n b o h1 h2 => ?_, wb.hid, fun b hb z => ?_⟩
              · show (ρ.l ++ [a]).Nodup
                rw [List.nodup_append]
                refine ⟨wb.nd, by simp, fun b hb c hc e => ?_⟩
                have ec : c = a := by simpa using hc
                rw [e, ec] at hb
                exact hnl hb
              · have h1 : (ρ.l ++ [a])[n]? = some b := h1
                by_cases hn : n < ρ.l.length
                · rw [List.getElem?_append_left hn] at h1
                  rw [List.getElem?_append_left (by rw [← wb.len]; exact hn)] at h2
                  rw [List.getElem?_take_of_lt (by rw [← hw.len]; exact hn)] at h2
                  exact (w'.obj n b o (g.at h1) h2).less hs
                · rw [List.getElem?_append_right (by omega)] at h1
                  rw [List.getElem?_append_right (by rw [← wb.len]; omega), ← wb.len] at h2
                  have e0 : n - ρ.l.length = 0 := by
                    cases q : n - ρ.l.length with
                    | zero => rfl
                    | succ k => rw [q] at h1; simp at h1
                  rw [e0] at h1 h2
                  simp at h1 h2
                  subst h1 h2
                  exact hO.less hs
              · rcases List.mem_append.mp hb with y | y
                · exact wb.dis b y z
                · have eb : b = a := by simpa using y
                  rw [eb] at z
                  exact hnx z
            · show (ρ.l ++ [a])[S.length]? = some a
              rw [List.getElem?_append_right (by rw [hw.len]; exact Nat.le_refl _), hw.len]
              simp
          cases ob with
          | lst xs =>
            have h : (if kp = true then some (Rs.ok (Wv.loc S.length), S'.take S.length ++ [Ob.lst xs]) else some (Rs.ok (Wv.d (.list xs)), S'.take S.length)) = some (r, S'') := h
            split at h
            · exact keepC h
            · cases h
              obtain ⟨ys, h1, h2⟩ := hO
              exact hq (.ref a) H' ρ g.back wb (show RepD _ _ _ _ _ from .lst h1 (fun z => z.elim hnl hnx) (RepDs.less g.subR _ _ h2))
          | dK xs =>
            have h : (if kp = true then some (Rs.ok (Wv.loc S.length), S'.take S.length ++ [Ob.dK xs]) else none) = some (r, S'') := h
            split at h
            · exact keepC h
            · cases h
          | ins C fs =>
            have h : (if kp = true then some (Rs.ok (Wv.loc S.length), S'.take S.length ++ [Ob.ins C fs]) else none) = some (r, S'') := h
            split at h
            · exact keepC h
            · cases h
end

/-- the wish about exceptions of a def's body -/
abbrev WE' (E : XK) : WX := fun c d _ H => E c d H
/-- what a body is given -/
structure InB (P : Program) (w : World) (G : Gm) (base : Heap) (k : Nat) (N : List Str) (sc : Scope) (Wx : WX) (X : Cx) : Prop where
  hP : X.prog = P
  hw : X.w = w
  hK : X.K = G.K
  hm : X.mg = G.mg
  hb : X.base = base
  hr : Room k X.A
  tk : Takes X Wx
  po : PassesOwn (model X.prog X.w) X.A X.env X.xe

/-- THE RULE: a def computes the function of its body -/
theorem fnD_mk {P : Program} {w : World} {G : Gm} {base : Heap} {k : Nat} {x : Str} {st : Stmt} {N ps : List Str} {s : SS} {f : Addr} {fd : FuncData} (kp : Bool) (hm : G.mg x = some (.ref f)) (F : FunD G.K x x (defArgs st) (defBody st) (defScope st) [] [] f fd)
    (S : FnScope N ps (defScope st)) (hbd : ∀ (kV doc pm : Value) (an : Option Addr) (cdv ct : Value) (us : List Value), us.length = ps.length → bindArgs (PySem.W.fnOf x x (defArgs st) (defBody st) (defScope st) .none kV doc pm an cdv ct) ⟨us, []⟩ = pure (ps.zip us))
    (hbody : ∀ (cdv : Value) (A : Around) (outer : List Env) (sh : Shared) (H : Hp) (E : XK), Room k (A.deeper (envOfC x (defScope st) sh.heap.objs.size f cdv)) →
      Takes (cxOf (L2.CX P w) P w G.K G.mg base N x (defScope st) f cdv A outer sh H E) (WE' E) → PSsD (cxOf (L2.CX P w) P w G.K G.mg base N x (defScope st) f cdv A outer sh H E) (WE' E) (defBody st) s) :
    FnD P w G base (k + 1) x st ps (fnS kp N.length ps.length s) := by
  refine ⟨f, fd, hm, F, F.bindsN hbd, F.ok S (fun vs H Q E h => h.1) fun cdv A outer sh H vs Q E hr hsp => ?_⟩
  refine ⟨_, hbody cdv A outer sh H E hr (takes_of rfl rfl rfl rfl), ?_⟩
  obtain ⟨hl, ws, S0, ρ, r, S', hv, hw, hF, hq⟩ := hsp
  unfold fnS at hF
  split at hF
  · rename_i hl2
    cases e : s (ws.map some ++ List.replicate (N.length - ps.length) none) S0 with
    | none => rw [e] at hF; cases hF
    | some p =>
      obtain ⟨o, env', S1⟩ := p
      rw [e] at hF
      have hF : retOut kp S0.length o S1 = some (r, S') := hF
      refine ⟨_, S0, ρ, o, env', S1, rel_start (N := N) hv, hw, by rw [hl2]; exact e, fun σ' H' ρ' g w' re => ?_⟩
      have q := ret_end hw hF hq g w'
      cases o with
      | nx => exact q
      | bk => exact q
      | ct => exact q
      | rt w => exact q
      | ex z => exact q
  · cases hF

section
variable {X : Cx} {Wx : WX} {P : Program} {w : World} {G : Gm} {base : Heap} {k : Nat} {x : Str} {st : Stmt} {ps : List Str} {F : List Wv → M Wv} {e : Expr} {es : List Expr} {fa : Sl → M (List Wv)} {p pos : Pos}
theorem call_imp {σ : L2.St} {H1 : Hp} {Q : VK} {rr : Rs Wv} {S' S1 : Sto} {xs : List Wv} {vs : List V} {ρ1 : Rh} {n : Nat} (hn : vs.length = n) (hk : F xs S1 = some (rr, S')) (w1 : Wd (gmOf X) ρ1 H1 S1) (rx : RepWs X.K ρ1 H1 vs xs) (hp1 : Po (gmOf X) (RepW X.K) Wx σ ρ1 H1 rr S' Q) :
    spD (gmOf X) n F vs H1 Q (WE Wx σ) := by
  refine ⟨hn, xs, S1, ρ1, rr, S', rx, w1, hk, ?_⟩
  cases rr with
  | ok w => exact fun v H' ρ' g w' r => hp1 v H' ρ' g w' r
  | ex z => exact fun c d H' ρ' g w' r => hp1 c d H' ρ' g w' r
/-- f(e, ..) -/
theorem pd_call (hF : FnD X.prog X.w (gmOf X) X.base k x st ps F) (hr : Room k X.A) (tk : Takes X Wx) (hg : Gl X x) (ha : PAD X Wx (e :: es) fa) (hn : (e :: es).length = ps.length := by rfl) (hfl : ∀ env S ws S1, fa env S = some (.ok ws, S1) → ws.length = ps.length)
    (hdb : (x == ("__debug__" : Str)) = false := by decide) (he : starEach (e :: es) X.env = (false, eval e X.env) :: starEach es X.env := by rfl) (hpl : (backTo pos (starEach es X.env)).any (·.1) = false := by rfl) :
    PD X Wx (.Call (.Name x p) (e :: es) [] pos) (eCall F fa) := by
  obtain ⟨f, fd, hm, hfun, hb, hok⟩ := hF
  refine pe_imp (pe_callS hok hr hg hm hfun.kp hb (fun σ => passAt tk σ) ha hdb he hpl) fun σ H Q ⟨env, S, ρ, rr, S', hee, hw, hf, hp⟩ => ?_
  cases ef : fa env S with
  | none => unfold eCall M.bnd at hf; rw [ef] at hf; cases hf
  | some q =>
    obtain ⟨rq, S1⟩ := q
    cases rq with
    | ex z =>
      unfold eCall M.bnd at hf
      rw [ef] at hf
      have h' : some (Rs.ex z, S1) = some (rr, S') := hf
      cases h'
      exact ⟨env, S, ρ, .ex z, _, hee, hw, ef, fun c d H1 ρ1 g1 w1 r1 => hp c d H1 ρ1 g1 w1 r1⟩
    | ok ws =>
      have hk : F ws S1 = some (rr, S') := by
        rw [← hf]
        exact (M.bnd_ok ef).symm
      refine ⟨env, S, ρ, .ok ws, S1, hee, hw, ef, fun vs H1 ρ1 g1 w1 r1 => ?_⟩
      exact call_imp (by rw [r1.length]; exact hfl _ _ _ _ ef) hk w1 r1 (hp.mono g1)
end
end Bq
set_option Elab.async false
set_option linter.all false
set_option maxRecDepth 100000
set_option maxHeartbeats 2000000
/-! # Texts, dicts, changed lists, constants, keyword calls -/
namespace Bq
open PySem L2

/-! ## constants of the module -/
def GConst (G : Gm) (x : Str) (d : D) : Prop := ∃ v u, G.mg x = some u ∧ RelV v u ∧ ∀ ρ H, RepD G.K ρ H v d
section
variable {X : Cx} {Wx : WX} {a b e : Expr} {fa fb f : SE} {pos apos p : Pos} {st : Stmt}
theorem pd_glob {x : Str} {d : D} (h : GConst (gmOf X) x d) (hg : Gl X x) (hd : (x == ("__debug__" : Str)) = false := by decide) : PD X Wx (.Name x pos) (eC d) := by
  obtain ⟨v, u, h1, h2, h3⟩ := h
  exact pd_const (pe_glob hg h1 h2 hd) h3
theorem psd_never : PSD X Wx st (fun _ _ => none) := by
  refine ps_imp ps_never fun D σ H ⟨env, S, ρ, o, env', S', he, hw, hf, hp⟩ => ?_
  cases hf

/-! ## methods of texts -/
@[reducible] def eM1 (g : Str → Wv → M Wv) (a b : SE) : SE := fun env => M.bnd (a env) fun x => match x with
  | .d (.str s) => M.bnd (b env) (g s)
  | _ => M.no
def MtD (G : Gm) (r : V → List V → Hp → VK → Prop) (g : Str → Wv → M Wv) : Prop :=
  ∀ (ρ : Rh) (H : Hp) (S : Sto) (s : Str) (y : V) (wy : Wv) (Q : VK) (rr : Rs Wv) (S' : Sto) (Wx : WX) (σ : St), Wd G ρ H S → RepW G.K ρ H y wy → g s wy S = some (rr, S') →
    Po G (RepW G.K) Wx σ ρ H rr S' Q → r (.str s) [y] H Q
theorem pd_m1 {id : String} {name : Str} {r : V → List V → Hp → VK → Prop} {g : Str → Wv → M Wv} (hg : MtD (gmOf X) r g) (slot : Slot "str" name id) (ty : typeOf (.builtin id) = pure (.type "method_descriptor")) (rule : MtR X id r) (ho : PD X Wx a fa) (he : PD X Wx b fb)
    (hs : starEach [b] X.env = [(false, eval b X.env)] := by rfl) (hbase : attributeBase a name X.env (eval a X.env) = eval a X.env := by rfl) (hline : (apos.endLine == pos.line) = true := by rfl) : PD X Wx (.Call (.Attribute a name apos) [b] [] pos) (eM1 g fa fb) := by
  refine pe_imp (pe_m1 slot ty rule ho he hs hbase hline) fun σ H Q ⟨env, S, ρ, rr, S', hee, hw, hf, hp⟩ => ?_
  refine tG_bnd hee hw hf hp fun x S1 v H1 ρ1 hk g1 w1 rx he1 hp1 => ?_
  cases x with
  | d y =>
    cases y with
    | str s =>
      have e := rep_str rx
      subst e
      exact ⟨⟨s, rfl⟩, tG_bnd he1 w1 hk hp1 fun y S2 v2 H2 ρ2 hk2 g2 w2 ry he2 hp2 => hg ρ2 H2 S2 s v2 y Q rr S' Wx σ w2 ry hk2 hp2⟩
    | _ => cases hk
  | _ => cases hk
def splitS (a : Str) (y : Wv) : M Wv := match y with
  | .d (.str b) => if (b.length == 0) = false ∧ a.length + 2 ≤ sizeLine then retL ((Txt.split a b).map PyData.str) else M.no
  | _ => M.no
theorem reps_strs {K : PySem.W.Frag} {ρ : Rh} {H : Hp} : ∀ ys : List Str, RepDs K ρ H (ys.map V.str) (ys.map PyData.str)
  | [] => .nil
  | y :: ys => .cons (.str y) (reps_strs ys)
theorem md_split {G : Gm} : MtD G (fun x xs H Q => ∃ a b, x = .str a ∧ xs = [.str b] ∧ (b.length == 0) = false ∧ a.length + 2 ≤ sizeLine ∧ rNewStrs (Txt.split a b) H Q) splitS := by
  intro ρ H S s y wy Q rr S' Wx σ hw ry h hp
  unfold splitS at h
  split at h
  · split at h
    · rename_i b hz
      obtain ⟨rfl, rfl⟩ := M.ret_eq h
      have e := rep_str ry
      subst e
      exact ⟨s, b, rfl, rfl, hz.1, hz.2, hp.newL hw (reps_strs _)⟩
    · cases h
  · cases h
def partS (a : Str) (y : Wv) : M Wv := match y with
  | .d (.str b) => if (b.length == 0) = false ∧ a.length ≤ sizeLine then retT [.str (Txt.partition a b).1, .str (Txt.partition a b).2.1, .str (Txt.partition a b).2.2] else M.no
  | _ => M.no
theorem md_part {G : Gm} : MtD G (fun x xs H Q => ∃ a b, x = .str a ∧ xs = [.str b] ∧ (b.length == 0) = false ∧ a.length ≤ sizeLine ∧
    ∀ p, H p = none → Q (.ref p) (upd H p (.tup [.str (Txt.partition a b).1, .str (Txt.partition a b).2.1, .str (Txt.partition a b).2.2]))) partS := by
  intro ρ H S s y wy Q rr S' Wx σ hw ry h hp
  unfold partS at h
  split at h
  · split at h
    · rename_i b hz
      obtain ⟨rfl, rfl⟩ := M.ret_eq h
      have e := rep_str ry
      subst e
      exact ⟨s, b, rfl, rfl, hz.1, hz.2, hp.newT hw (.cons (.str _) (.cons (.str _) (.cons (.str _) .nil)))⟩
    · cases h
  · cases h
def joinS (a : Str) (y : Wv) : M Wv := match y with
  | .d (.list xs) => match strsOf xs with
    | some ys => if (ys.map (·.length)).sum + ys.length * a.length ≤ 16777216 then retS (Txt.join a ys) else M.no
    | none => M.no
  | _ => M.no
theorem md_join {G : Gm} : MtD G (fun x xs H Q => ∃ a p, ∃ ys : List Str, x = .str a ∧ xs = [.ref p] ∧ (SqL G.K H p (ys.map V.str) ∨ SqT G.K H p (ys.map V.str)) ∧
    (ys.map (·.length)).sum + ys.length * a.length ≤ 16777216 ∧ Q (.str (Txt.join a ys)) H) joinS := by
  intro ρ H S s y wy Q rr S' Wx σ hw ry h hp
  unfold joinS at h
  split at h
  · rename_i xs
    cases e : strsOf xs with
    | none => rw [e] at h; cases h
    | some ys =>
      rw [e] at h
      dsimp only at h
      split at h
      · rename_i hz
        obtain ⟨rfl, rfl⟩ := M.ret_eq h
        obtain ⟨p, us, rfl, h1, _, h3⟩ := RepD.sqL ry
        have e2 := strsOf_rep h3 e
        subst e2
        exact ⟨s, p, ys, rfl, rfl, .inl (SqL.of h1), hz, hp.ok hw (show RepD _ _ _ _ _ from .str _)⟩
      · cases h
  · cases h
def startsS (a : Str) (y : Wv) : M Wv := match y with
  | .d (.str b) => retB (Txt.startswith a b)
  | _ => M.no
theorem md_starts {G : Gm} : MtD G (fun x xs H Q => ∃ a b, x = .str a ∧ xs = [.str b] ∧ Q (.bl (Txt.startswith a b)) H) startsS := by
  intro ρ H S s y wy Q rr S' Wx σ hw ry h hp
  unfold startsS at h
  split at h
  · obtain ⟨rfl, rfl⟩ := M.ret_eq h
    have e := rep_str ry
    subst e
    exact ⟨s, _, rfl, rfl, hp.ok hw (show RepD _ _ _ _ _ from .bl _)⟩
  · cases h
theorem pd_split (ho : PD X Wx a fa) (he : PD X Wx b fb) (hs : starEach [b] X.env = [(false, eval b X.env)] := by rfl) (hbase : attributeBase a "split" X.env (eval a X.env) = eval a X.env := by rfl) (hline : (apos.endLine == pos.line) = true := by rfl) :
    PD X Wx (.Call (.Attribute a "split" apos) [b] [] pos) (eM1 splitS fa fb) := pd_m1 md_split PySem.F.slot_str_split PySem.F.type_str_split mt_split ho he hs hbase hline
theorem pd_partition (ho : PD X Wx a fa) (he : PD X Wx b fb) (hs : starEach [b] X.env = [(false, eval b X.env)] := by rfl) (hbase : attributeBase a "partition" X.env (eval a X.env) = eval a X.env := by rfl) (hline : (apos.endLine == pos.line) = true := by rfl) :
    PD X Wx (.Call (.Attribute a "partition" apos) [b] [] pos) (eM1 partS fa fb) := pd_m1 md_part PySem.F.slot_str_partition PySem.F.type_str_partition mt_partition ho he hs hbase hline
theorem pd_join (ho : PD X Wx a fa) (he : PD X Wx b fb) (hs : starEach [b] X.env = [(false, eval b X.env)] := by rfl) (hbase : attributeBase a "join" X.env (eval a X.env) = eval a X.env := by rfl) (hline : (apos.endLine == pos.line) = true := by rfl) :
    PD X Wx (.Call (.Attribute a "join" apos) [b] [] pos) (eM1 joinS fa fb) := pd_m1 md_join PySem.F.slot_str_join PySem.F.type_str_join mt_join ho he hs hbase hline
theorem pd_startswith (ho : PD X Wx a fa) (he : PD X Wx b fb) (hs : starEach [b] X.env = [(false, eval b X.env)] := by rfl) (hbase : attributeBase a "startswith" X.env (eval a X.env) = eval a X.env := by rfl) (hline : (apos.endLine == pos.line) = true := by rfl) :
    PD X Wx (.Call (.Attribute a "startswith" apos) [b] [] pos) (eM1 startsS fa fb) := pd_m1 md_starts PySem.F.slot_str_startswith PySem.F.type_str_startswith mt_startswith ho he hs hbase hline

/-! ## f-strings -/
@[reducible] def eFmt (a : SE) : SE := fun env => M.bnd (a env) fun x => match x with
  | .d (.str y) => if y.length ≤ sizeLine then retS y else M.no
  | .d (.int i) => if i.natAbs.log2 < 1920 then retS (toString i) else M.no
  | _ => M.no
theorem pd_fmt (he : PD X Wx e f) : PD X Wx (.FormattedValue e (-1) none pos) (eFmt f) := by
  refine pe_imp (pe_fmt he) fun σ H Q ⟨env, S, ρ, rr, S', hee, hw, hf, hp⟩ => ?_
  refine tG_bnd hee hw hf hp fun x S1 v H1 ρ1 hk g1 w1 rx he1 hp1 => ?_
  cases x with
  | d y =>
    cases y with
    | str s =>
      have hk : (if s.length ≤ sizeLine then retS s else M.no) S1 = some (rr, S') := hk
      split at hk
      · rename_i hz
        obtain ⟨rfl, rfl⟩ := M.ret_eq hk
        have e := rep_str rx
        subst e
        exact .inl ⟨s, rfl, hz, hp1.ok w1 rx⟩
      · cases hk
    | int s =>
      have hk : (if s.natAbs.log2 < 1920 then retS (toString s) else M.no) S1 = some (rr, S') := hk
      split at hk
      · rename_i hz
        obtain ⟨rfl, rfl⟩ := M.ret_eq hk
        have e := rep_int rx
        subst e
        exact .inr ⟨s, rfl, hz, hp1.ok w1 (show RepD _ _ _ _ _ from .str _)⟩
      · cases hk
    | _ => cases hk
  | _ => cases hk
inductive PJD (X : Cx) (Wx : WX) : List Expr → List SE → Prop where
  | nil : PJD X Wx [] []
  | cons {e : Expr} {f : SE} {es : List Expr} {fs : List SE} (h : PD X Wx e f) (r : PJD X Wx es fs) : PJD X Wx (e :: es) (f :: fs)
theorem PJD.pj : ∀ {es : List Expr} {fs : List SE}, PJD X Wx es fs → PJ X es (fs.map fun f => tG (gmOf X) (RepW X.K) Wx f)
  | _, _, .nil => .nil
  | _, _, .cons h r => .cons h (PJD.pj r)
@[reducible] def asStr : Wv → M Str
  | .d (.str y) => M.ret y
  | _ => M.no
def jsE : List SE → Str → Sl → M Wv
  | [], acc, _ => retS acc
  | f :: fs, acc, env => M.bnd (f env) fun x => M.bnd (asStr x) fun y => fun S => if (acc ++ y).length ≤ sizeLine then jsE fs (acc ++ y) env S else none
theorem tjs_of : ∀ (fs : List SE) (acc : Str) {σ : St} {H : Hp} {Q : VK} {env : Sl} {S S' : Sto} {ρ : Rh} {rr : Rs Wv}, RelE X.K ρ H σ env → Wd (gmOf X) ρ H S → jsE fs acc env S = some (rr, S') → Po (gmOf X) (RepW X.K) Wx σ ρ H rr S' Q →
    tJs (fs.map fun f => tG (gmOf X) (RepW X.K) Wx f) acc σ H fun out H1 => Q (.str out) H1
  | [], acc, σ, H, Q, env, S, S', ρ, rr, he, hw, hf, hp => by
    obtain ⟨rfl, rfl⟩ := M.ret_eq hf
    exact hp.ok hw (show RepD _ _ _ _ _ from .str _)
  | f :: fs, acc, σ, H, Q, env, S, S', ρ, rr, he, hw, hf, hp => by
    refine tG_bnd he hw hf hp fun x S1 v H1 ρ1 hk g1 w1 rx he1 hp1 => ?_
    cases x with
    | d y =>
      cases y with
      | str s =>
        have hk : (if (acc ++ s).length ≤ sizeLine then jsE fs (acc ++ s) env S1 else none) = some (rr, S') := hk
        split at hk
        · rename_i hz
          exact ⟨s, rep_str rx, hz, tjs_of fs (acc ++ s) he1 w1 hk hp1⟩
        · cases hk
      | _ => cases hk
    | _ => cases hk
@[reducible] def eJoined (fs : List SE) : SE := fun env => jsE fs Str.empty env
theorem pd_joined {v1 v2 : Expr} {rest : List Expr} {fs : List SE} (h : PJD X Wx (v1 :: v2 :: rest) fs) : PD X Wx (.JoinedStr (v1 :: v2 :: rest) pos) (eJoined fs) :=
  pe_imp (pe_joined h.pj) fun σ H Q ⟨env, S, ρ, rr, S', hee, hw, hf, hp⟩ => tjs_of fs Str.empty hee hw hf hp
theorem pd_joined1 (h : PD X Wx e f) : PD X Wx (.JoinedStr [e] pos) f := pe_joined1 h
end

/-! ## dicts of the store -/
def keyOf : Wv → Option Key
  | .d (.int i) => some (.inl i)
  | .d (.str x) => some (.inr x)
  | _ => none
theorem keyOf_rep {K : PySem.W.Frag} {ρ : Rh} {H : Hp} {v : V} {w : Wv} {k : Key} (r : RepW K ρ H v w) (h : keyOf w = some k) : v = kV k := by
  cases w with
  | d x =>
    cases x with
    | int i => cases h; exact rep_int r
    | str i => cases h; exact rep_str r
    | _ => cases h
  | _ => cases h
def lookK (kvs : List (Key × D)) (k : Key) : Option D := (kvs.find? fun kv => decide (kv.1 = k)).map (·.2)
def putKD (kvs : List (Key × D)) (k : Key) (v : D) : List (Key × D) := if (kvs.any fun kv => decide (kv.1 = k)) = true then kvs.map (fun kv => if kv.1 = k then (kv.1, v) else kv) else kvs ++ [(k, v)]
section
variable {K : PySem.W.Frag} {ρ : Rh} {H : Hp}
theorem lookK_rep {k : Key} : ∀ {us : List (Key × V)} {kvs : List (Key × D)}, RepKs K ρ H us kvs → (lookK kvs k = none ∧ valV us k = none) ∨ ∃ d v, lookK kvs k = some d ∧ valV us k = some v ∧ RepD K ρ H v d
  | _, _, .nil => .inl ⟨rfl, rfl⟩
  | _, _, .cons (k := k') (v := v) (d := d) a b => by
    by_cases e : k' = k
    · refine .inr ⟨d, v, ?_, valV_pos e, a⟩
      unfold lookK
      rw [List.find?_cons_of_pos (by simp [e])]
      rfl
    · rcases lookK_rep b with ⟨h1, h2⟩ | ⟨d', v', h1, h2, h3⟩
      · refine .inl ⟨?_, (valV_neg e).trans h2⟩
        unfold lookK at h1 ⊢
        rw [List.find?_cons_of_neg (by simp [e])]
        exact h1
      · refine .inr ⟨d', v', ?_, (valV_neg e).trans h2, h3⟩
        unfold lookK at h1 ⊢
        rw [List.find?_cons_of_neg (by simp [e])]
        exact h1
theorem RepKs.anyEq {k : Key} : ∀ {us : List (Key × V)} {kvs : List (Key × D)}, RepKs K ρ H us kvs → (us.any fun kv => decide (kv.1 = k)) = (kvs.any fun kv => decide (kv.1 = k))
  | _, _, .nil => rfl
  | _, _, .cons a b => by
    rw [List.any_cons, List.any_cons, RepKs.anyEq b]
theorem RepKs.append : ∀ {us us' : List (Key × V)} {kvs kvs' : List (Key × D)}, RepKs K ρ H us kvs → RepKs K ρ H us' kvs' → RepKs K ρ H (us ++ us') (kvs ++ kvs')
  | _, _, _, _, .nil, h => h
  | _, _, _, _, .cons a b, h => .cons a (RepKs.append b h)
theorem RepKs.length {κ : Type} : ∀ {us : List (κ × V)} {kvs : List (κ × D)}, RepKs K ρ H us kvs → us.length = kvs.length
  | _, _, .nil => rfl
  | _, _, .cons _ b => congrArg (· + 1) (RepKs.length b)
theorem RepKs.put {k : Key} {v : V} {d : D} (r : RepD K ρ H v d) : ∀ {us : List (Key × V)} {kvs : List (Key × D)}, RepKs K ρ H us kvs → RepKs K ρ H (putK us k v) (putKD kvs k d) := by
  intro us kvs h
  unfold putK putKD
  rw [h.anyEq]
  split
  · rename_i hany
    clear hany
    induction h with
    | nil => exact .nil
    | @cons k' v' vs d' ds a b ih =>
      rw [List.map_cons, List.map_cons]
      by_cases e : k' = k
      · rw [if_pos e, if_pos e]
        exact .cons r ih
      · rw [if_neg e, if_neg e]
        exact .cons a ih
  · exact h.append (.cons r .nil)
end
section
variable {X : Cx} {Wx : WX} {o a b e : Expr} {fo fa fb f : SE} {pos apos p pos' : Pos}
theorem pd_dictNew : PD X Wx (.Dict [] [] pos) mkDict := pd_dict pe_dnewK
@[reducible] def isDk (x : Wv) : M Wv := fun S => match x with
  | .loc n => (match S[n]? with
    | some (.dK _) => some (.ok x, S)
    | _ => none)
  | _ => none
@[reducible] def get2W (x k y : Wv) : M Wv := fun S => match x with
  | .loc n => (match S[n]?, keyOf k, y with
    | some (.dK kvs), some kk, .d z => some (.ok (.d ((lookK kvs kk).getD z)), S)
    | _, _, _ => none)
  | _ => none
@[reducible] def eGet2 (o a b : SE) : SE := fun env => M.bnd (o env) fun x => M.bnd (isDk x) fun x => M.bnd (a env) fun k => M.bnd (b env) fun y => get2W x k y
theorem isDk_inv {x : Wv} {S S' : Sto} {r : Rs Wv} (h : isDk x S = some (r, S')) : ∃ n kvs, x = .loc n ∧ S[n]? = some (.dK kvs) ∧ r = .ok x ∧ S' = S := by
  unfold isDk at h
  cases x with
  | loc n =>
    have h : (match S[n]? with | some (.dK _) => some (Rs.ok (Wv.loc n), S) | _ => none) = some (r, S') := h
    cases e : S[n]? with
    | none => rw [e] at h; cases h
    | some ob =>
      rw [e] at h
      cases ob with
      | dK kvs => cases h; exact ⟨n, kvs, rfl, e, rfl, rfl⟩
      | lst _ => cases h
      | ins _ _ => cases h
  | d _ => cases h
  | scr _ => cases h
theorem pd_get2 (hu : X.A.units + 1 < cLine) (ho : PD X Wx o fo) (ha : PD X Wx a fa) (hb : PD X Wx b fb) (m : M2 X o "get" apos a b pos := by exact ⟨rfl, rfl, rfl, rfl⟩) : PD X Wx (.Call (.Attribute o "get" apos) [a, b] [] pos) (eGet2 fo fa fb) := by
  refine pe_imp (pe_dget2 hu ho ha hb m) fun σ H Q ⟨env, S, ρ, rr, S', hee, hw, hf, hp⟩ => ?_
  refine tG_bnd hee hw hf hp fun x S1 v H1 ρ1 hk g1 w1 rx he1 hp1 => ?_
  cases ei : isDk x S1 with
  | none => unfold M.bnd at hk; rw [ei] at hk; cases hk
  | some q =>
    obtain ⟨ri, Si⟩ := q
    obtain ⟨n, kvs, rfl, en, rfl, rfl⟩ := isDk_inv ei
    rw [M.bnd_ok ei] at hk
    obtain ⟨d, us, rfl, hl, hd, rk⟩ := w1.dK rx en
    refine ⟨d, rfl, .inl ⟨us, .inl hd⟩, tG_bnd he1 w1 hk hp1 fun k S2 vk H2 ρ2 hk2 g2 w2 rk2 he2 hp2 => tG_bnd he2 w2 hk2 hp2 fun y S3 vy H3 ρ3 hk3 g3 w3 ry he3 hp3 => ?_⟩
    have rx3 := RepW.mono (g2.trans g3) rx
    unfold get2W at hk3
    dsimp only at hk3
    cases e3 : S3[n]? with
    | none => rw [e3] at hk3; cases hk3
    | some ob =>
      rw [e3] at hk3
      cases ob with
      | lst _ => cases hk3
      | ins _ _ => cases hk3
      | dK kvs3 =>
        cases ek : keyOf k with
        | none => rw [ek] at hk3; cases hk3
        | some kk =>
          rw [ek] at hk3
          cases y with
          | loc _ => cases hk3
          | scr _ => cases hk3
          | d z =>
            cases hk3
            obtain ⟨d', us3, ed, hl3, hd3, rk3⟩ := w3.dK rx3 e3
            cases ed
            have ekv := keyOf_rep (RepW.mono g3 rk2) ek
            subst ekv
            refine ⟨_, DGet.k hd3, ?_⟩
            rcases lookK_rep (k := kk) rk3 with ⟨h1, h2⟩ | ⟨d1, v1, h1, h2, h3⟩
            · rw [h2]
              rw [h1] at hp3
              exact hp3.ok w3 ry
            · rw [h2]
              rw [h1] at hp3
              exact hp3.ok w3 (show RepD _ _ _ _ _ from h3)
/-- d[k] = v -/
@[reducible] def sPut (o k f : SE) : SS := sE f fun w => sE o fun x => sE k fun y => fun env S => match x with
  | .loc n => (match S[n]?, keyOf y, w with
    | some (.dK kvs), some kk, .d z => if kvs.length < sizeLine then some (.nx, env, S.set n (.dK (putKD kvs kk z))) else none
    | _, _, _ => none)
  | _ => none
theorem psd_put (hu : X.A.units + 1 < cLine) (ho : PD X Wx o fo) (hk : PD X Wx a fa) (hv : PD X Wx e f) (hs : swapsWith e (some (.Subscript o a pos')) pos.line X.env = pure false := by rfl) : PSD X Wx (.Assign [.Subscript o a pos'] e pos) (sPut fo fa f) := by
  refine ps_imp (ps_dput hu ho hk hv hs) fun D σ H ⟨env, S, ρ, oo, env', S', he, hw, hf, hp⟩ => ?_
  refine tS_bnd he hw hf hp fun w S1 v H1 ρ1 hk1 g1 w1 rv he1 hp1 => tS_bnd he1 w1 hk1 hp1 fun x S2 vx H2 ρ2 hk2 g2 w2 rx he2 hp2 => tS_bnd he2 w2 hk2 hp2 fun y S3 vy H3 ρ3 hk3 g3 w3 ry he3 hp3 => ?_
  have rx3 := RepW.mono g3 rx
  have rv3 := RepW.mono (g2.trans g3) rv
  cases x with
  | d _ => cases hk3
  | scr _ => cases hk3
  | loc n =>
    dsimp only at hk3
    cases e3 : S3[n]? with
    | none => rw [e3] at hk3; cases hk3
    | some ob =>
      rw [e3] at hk3
      cases ob with
      | lst _ => cases hk3
      | ins _ _ => cases hk3
      | dK kvs3 =>
        cases ek : keyOf y with
        | none => rw [ek] at hk3; cases hk3
        | some kk =>
          rw [ek] at hk3
          cases w with
          | loc _ => cases hk3
          | scr _ => cases hk3
          | d z =>
            dsimp only at hk3
            split at hk3
            · rename_i hz
              cases hk3
              obtain ⟨d', us3, rfl, hl3, hd3, rk3⟩ := w3.dK rx3 e3
              have ekv := keyOf_rep ry ek
              subst ekv
              have hin : d' ∈ ρ3.l := List.mem_of_getElem? hl3
              have gw : Ge ρ3 H3 ρ3 (upd H3 d' (.dK (putK us3 kk v))) := Ge.wrote hin (w3.dis d' hin)
              have rk4 : RepKs X.K ρ3 H3 (putK us3 kk v) (putKD kvs3 kk z) := RepKs.put (show RepD _ _ _ _ _ from rv3) rk3
              refine ⟨d', _, rfl, DPut.k hd3 (by rw [rk3.length]; exact hz), ?_⟩
              exact (hp3.mono gw).nx (w3.wrote hl3 ⟨_, upd_same, rk4.mono gw⟩) (he3.mono gw)
            · cases hk3

/-! ## lists of the store -/
@[reducible] def isLst (x : Wv) : M Wv := fun S => match x with
  | .loc n => (match S[n]? with
    | some (.lst _) => some (.ok x, S)
    | _ => none)
  | _ => none
theorem isLst_inv {x : Wv} {S S' : Sto} {r : Rs Wv} (h : isLst x S = some (r, S')) : ∃ n kvs, x = .loc n ∧ S[n]? = some (.lst kvs) ∧ r = .ok x ∧ S' = S := by
  unfold isLst at h
  cases x with
  | loc n =>
    have h : (match S[n]? with | some (.lst _) => some (Rs.ok (Wv.loc n), S) | _ => none) = some (r, S') := h
    cases e : S[n]? with
    | none => rw [e] at h; cases h
    | some ob =>
      rw [e] at h
      cases ob with
      | lst kvs => cases h; exact ⟨n, kvs, rfl, e, rfl, rfl⟩
      | dK _ => cases h
      | ins _ _ => cases h
  | d _ => cases h
  | scr _ => cases h
@[reducible] def appW (x y : Wv) : M Wv := fun S => match x with
  | .loc n => (match S[n]?, y with
    | some (.lst xs), .d z => if xs.length < sizeLine then some (.ok (.d .none), S.set n (.lst (xs ++ [z]))) else none
    | _, _ => none)
  | _ => none
@[reducible] def eApp (o a : SE) : SE := fun env => M.bnd (o env) fun x => M.bnd (isLst x) fun x => M.bnd (a env) fun y => appW x y
theorem pd_append (ho : PD X Wx o fo) (ha : PD X Wx a fa) (hs : starEach (a :: []) X.env = (false, eval a X.env) :: starEach [] X.env := by rfl)
    (hbase : attributeBase o "append" X.env (eval o X.env) = eval o X.env := by rfl)
    (hfew : ((backTo pos (starEach [a] X.env)).all (fun x => !x.1) && (backToKw pos (keywordEach [] X.env)).all (fun x => x.1.isSome)
      && decide (([a] : List Expr).length + ([] : List Keyword).length + (if ([] : List Keyword).isEmpty then 0 else 1) < 30)) = true := by rfl)
    (hline : (apos.endLine == pos.line) = true := by rfl) (hplain : (backTo pos (starEach [] X.env)).any (·.1) = false := by rfl) : PD X Wx (.Call (.Attribute o "append" apos) [a] [] pos) (eApp fo fa) := by
  refine pe_imp (pe_bm PySem.F.plainAttrs_list PySem.F.slot_list_append PySem.F.type_list_append mt_append ho (pa_cons ha pa_nil hs) hbase hfew hline hs hplain) fun σ H Q ⟨env, S, ρ, rr, S', hee, hw, hf, hp⟩ => ?_
  refine tG_bnd hee hw hf hp fun x S1 v H1 ρ1 hk g1 w1 rx he1 hp1 => ?_
  cases ei : isLst x S1 with
  | none => unfold M.bnd at hk; rw [ei] at hk; cases hk
  | some q =>
    obtain ⟨ri, Si⟩ := q
    obtain ⟨n, xs, rfl, en, rfl, rfl⟩ := isLst_inv ei
    rw [M.bnd_ok ei] at hk
    obtain ⟨d, us, rfl, hl, hd, rk⟩ := w1.lst rx en
    refine ⟨.inl ⟨rfl, us, SqL.of hd⟩, tG_bnd he1 w1 hk hp1 fun y S2 vy H2 ρ2 hk2 g2 w2 ry he2 hp2 => ?_⟩
    have rx2 := RepW.mono g2 rx
    unfold appW at hk2
    dsimp only at hk2
    cases e2 : S2[n]? with
    | none => rw [e2] at hk2; cases hk2
    | some ob =>
      rw [e2] at hk2
      cases ob with
      | dK _ => cases hk2
      | ins _ _ => cases hk2
      | lst xs2 =>
        cases y with
        | loc _ => cases hk2
        | scr _ => cases hk2
        | d z =>
          dsimp only at hk2
          split at hk2
          · rename_i hz
            cases hk2
            obtain ⟨d', us2, ed, hl2, hd2, rk2⟩ := w2.lst rx2 e2
            cases ed
            have hin : d ∈ ρ2.l := List.mem_of_getElem? hl2
            have gw : Ge ρ2 H2 ρ2 (upd H2 d (.lst (us2 ++ [vy]))) := Ge.wrote hin (w2.dis d hin)
            refine ⟨d, us2, vy, rfl, rfl, hd2, by rw [rk2.length]; exact hz, ?_⟩
            exact (hp2.mono gw).ok (w2.wrote hl2 ⟨_, upd_same, RepDs.mono gw _ _ (rk2.append (.cons (show RepD _ _ _ _ _ from ry) .nil))⟩) (show RepD _ _ _ _ _ from .non)
          · cases hk2
/-- xs[i] = v -/
@[reducible] def sSetIx (o k f : SE) : SS := sE f fun w => sE o fun x => sE k fun y => fun env S => match x with
  | .loc n => (match S[n]?, y, w with
    | some (.lst xs), .d (.int i), .d z => (match ixN xs.length i with
      | some j => some (.nx, env, S.set n (.lst (xs.set j z)))
      | none => none)
    | _, _, _ => none)
  | _ => none
theorem psd_setIx (ho : PD X Wx o fo) (hi : PD X Wx a fa) (hv : PD X Wx e f)
    (hs : swapsWithSole [.Subscript o a pos'] e pos.line X.env = pure false := by rfl) (hw : swappedStores [.Subscript o a pos'] e X.env = pure none := by rfl)
    (h1 : (assignEach [.Subscript o a pos'] X.env).map (·.2) = [assign (.Subscript o a pos') X.env] := by rfl)
    (hA : ∀ v, assign (.Subscript o a pos') X.env v = (do
      let ov ← holding [v] (eval o X.env)
      let iv ← holding [v, ov] (eval a X.env)
      standAt pos'
      holding [v, ov, iv] (setItem ov iv v)
      release [v, ov, iv] []) := by intro _; rfl) : PSD X Wx (.Assign [.Subscript o a pos'] e pos) (sSetIx fo fa f) := by
  refine ps_imp (ps_asg hv (pg_sub ho hi set_list hA) hs hw h1) fun D σ H ⟨env, S, ρ, oo, env', S', he, hw, hf, hp⟩ => ?_
  refine tS_bnd he hw hf hp fun w S1 v H1 ρ1 hk1 g1 w1 rv he1 hp1 => tS_bnd he1 w1 hk1 hp1 fun x S2 vx H2 ρ2 hk2 g2 w2 rx he2 hp2 => tS_bnd he2 w2 hk2 hp2 fun y S3 vy H3 ρ3 hk3 g3 w3 ry he3 hp3 => ?_
  have rx3 := RepW.mono g3 rx
  have rv3 := RepW.mono (g2.trans g3) rv
  cases x with
  | d _ => cases hk3
  | scr _ => cases hk3
  | loc n =>
    dsimp only at hk3
    cases e3 : S3[n]? with
    | none => rw [e3] at hk3; cases hk3
    | some ob =>
      rw [e3] at hk3
      cases ob with
      | dK _ => cases hk3
      | ins _ _ => cases hk3
      | lst xs =>
        cases y with
        | loc _ => cases hk3
        | scr _ => cases hk3
        | d yd =>
          cases yd with
          | int i =>
            cases w with
            | loc _ => cases hk3
            | scr _ => cases hk3
            | d z =>
              dsimp only at hk3
              cases ej : ixN xs.length i with
              | none => rw [ej] at hk3; cases hk3
              | some j =>
                rw [ej] at hk3
                cases hk3
                obtain ⟨d', us3, rfl, hl3, hd3, rk3⟩ := w3.lst rx3 e3
                have ei := rep_int ry
                subst ei
                have hin : d' ∈ ρ3.l := List.mem_of_getElem? hl3
                have gw : Ge ρ3 H3 ρ3 (upd H3 d' (.lst (us3.set j v))) := Ge.wrote hin (w3.dis d' hin)
                refine ⟨d', us3, i, j, rfl, rfl, hd3, by rw [rk3.length]; exact ej, ?_⟩
                exact (hp3.mono gw).nx (w3.wrote hl3 ⟨_, upd_same, RepDs.mono gw _ _ (RepDs.set (show RepD _ _ _ _ _ from rv3) j rk3)⟩) (he3.mono gw)
          | _ => cases hk3
end

/-! ## calls by keywords -/
@[reducible] def eCallK (F : List Wv → M Wv) (g : List Wv → List Wv → List Wv) (a b : Sl → M (List Wv)) : SE := fun env => M.bnd (a env) fun ws => M.bnd (b env) fun zs => F (g ws zs)
def PKD (X : Cx) (Wx : WX) (kws : List Keyword) (f : Sl → M (List Wv)) : Prop := PK X kws (tG (gmOf X) (RepWs X.K) Wx f)
section
variable {X : Cx} {Wx : WX} {k : Nat} {x : Str} {st : Stmt} {ps ks : List Str} {F : List Wv → M Wv} {e : Expr} {es : List Expr} {kws : List Keyword} {fe : SE} {fa fk : Sl → M (List Wv)} {p pos kpos : Pos} {nm : Option Str}
theorem pk_imp {t t' : TA} (h : PK X kws t) (k : ∀ σ H Q, t' σ H Q → t σ H Q) : PK X kws t' := ⟨fun pos pins s σ H Q I q => h.run pos pins s σ H Q I (k σ H Q q)⟩
theorem pkd_nil : PKD X Wx [] aNil := by
  refine pk_imp pk_nil fun σ H Q ⟨env, S, ρ, rr, S', he, hw, hf, hp⟩ => ?_
  obtain ⟨rfl, rfl⟩ := M.ret_eq hf
  exact hp.ok hw .nil
theorem pkd_cons (ha : PD X Wx e fe) (hr : PKD X Wx kws fk) : PKD X Wx (⟨nm, e, kpos⟩ :: kws) (aCons fe fk) := by
  refine pk_imp (pk_cons ha hr) fun σ H Q ⟨env, S, ρ, rr, S', he, hw, hf, hp⟩ => ?_
  refine tG_bnd he hw hf hp fun x S1 v H1 ρ1 hk g1 w1 rx he1 hp1 => tG_bnd he1 w1 hk hp1 fun y S2 v2 H2 ρ2 hk2 g2 w2 ry he2 hp2 => ?_
  obtain ⟨rfl, rfl⟩ := M.ret_eq hk2
  exact hp2.ok w2 (.cons (RepW.mono g2 rx) ry)
/-- how the keywords' values come to the parameters: g, of any type, puts them -/
structure KwOk (st : Stmt) (x : Str) (ps ks : List Str) (a b : Nat) (g : {α : Type} → List α → List α → List α) : Prop where
  bind : ∀ (kV doc pm : Value) (an : Option Addr) (cdv ct : Value) (us ws : List Value), us.length = a → ws.length = b →
    bindArgs (PySem.W.fnOf x x (defArgs st) (defBody st) (defScope st) .none kV doc pm an cdv ct) ⟨us, ks.zip ws⟩ = pure (ps.zip (g us ws))
  vals : ∀ {us ws : List Value} {vs zs : List V}, us.length = a → ws.length = b → Vals vs us → Vals zs ws → Vals (g vs zs) (g us ws)
  reps : ∀ {K : PySem.W.Frag} {ρ : Rh} {H : Hp} {us ws : List Wv} {vs zs : List V}, us.length = a → ws.length = b → RepWs K ρ H vs us → RepWs K ρ H zs ws → RepWs K ρ H (g vs zs) (g us ws)
  len : ∀ {us ws : List V}, us.length = a → ws.length = b → (g us ws).length = ps.length
/-- f(k = v, ..) -/
theorem pd_callK0 {b : Nat} {g : {α : Type} → List α → List α → List α} (hF : FnD X.prog X.w (gmOf X) X.base k x st ps F) (hr : Room k X.A) (tk : Takes X Wx) (hg : Gl X x) (hk : PKD X Wx kws fk) (hko : KwOk st x ps ks 0 b g) (hfl : ∀ env S ws S1, fk env S = some (.ok ws, S1) → ws.length = b)
    (hall : (backToKw pos (keywordEach kws X.env)).all (·.1.isSome) = true := by rfl) (hks : (backToKw pos (keywordEach kws X.env)).filterMap (·.1) = ks := by rfl)
    (hdb : (x == ("__debug__" : Str)) = false := by decide) (hpl : ((backTo pos (starEach [] X.env)).any (·.1) || (backToKw pos (keywordEach kws X.env)).any (·.1.isNone)) = false := by rfl) :
    PD X Wx (.Call (.Name x p) [] kws pos) (eCallK F g aNil fk) := by
  obtain ⟨f, fd, hm, hfun, hb, hok⟩ := hF
  refine ⟨fun pins s σ H Q I h => ?_⟩
  obtain ⟨env, S, ρ, rr, S', hee, hw, hf, hp⟩ := h
  refine wpAny_Call_Name_kw (ld_glob I hg hm ?_ hdb)
  refine PySem.W.callWith_KW0 (h₀ := X.base) I.ok.mod.kin hfun.kp hall (thn (hk.run pos pins s σ H _ I (show tG (gmOf X) (RepWs X.K) Wx fk σ H (fun zs H2 => zs.length = b ∧ spD (gmOf X) ps.length F (g [] zs) H2 Q (WE Wx σ)) from ?_)) fun ws s2 ⟨zs, H2, I2, rz, hl, q2⟩ => ⟨I2.kIn, ?_⟩) hpl
  · have hf : M.bnd (fk env) (fun zs => F (g [] zs)) S = some (rr, S') := hf
    cases ef : fk env S with
    | none => unfold M.bnd at hf; rw [ef] at hf; cases hf
    | some q =>
      obtain ⟨rq, S1⟩ := q
      cases rq with
      | ex z =>
        unfold M.bnd at hf
        rw [ef] at hf
        have h' : some (Rs.ex z, S1) = some (rr, S') := hf
        cases h'
        exact ⟨env, S, ρ, .ex z, _, hee, hw, ef, fun c d H1 ρ1 g1 w1 r1 => hp c d H1 ρ1 g1 w1 r1⟩
      | ok ws =>
        have hk' : F (g [] ws) S1 = some (rr, S') := by
          rw [← hf]
          exact (M.bnd_ok (k := fun zs => F (g [] zs)) ef).symm
        have hl := hfl _ _ _ _ ef
        refine ⟨env, S, ρ, .ok ws, S1, hee, hw, ef, fun vs H1 ρ1 g1 w1 r1 => ⟨by rw [r1.length]; exact hl, ?_⟩⟩
        exact call_imp (hko.len rfl (by rw [r1.length]; exact hl)) hk' w1 (hko.reps rfl hl .nil r1) (hp.mono g1)
  · rw [hks]
    have hlw : ws.length = b := by rw [← rz.length]; exact hl
    have r2 : Vals (g [] zs) (g [] ws) := hko.vals rfl hlw .nil rz
    obtain ⟨oc, od, dV, kV, doc, pm, an, cdv, ct, osl, rfl, lk, hcd, hD, hK⟩ := hfun.ex
    have hbt : BindsTo s2 (PySem.W.fnOf x x (defArgs st) (defBody st) (defScope st) dV kV doc pm an cdv ct) ⟨[], ks.zip ws⟩ (ps.zip (g [] ws)) := by
      rcases hD with ⟨_, rfl⟩ | ⟨e, _⟩
      · exact .of_eq (hko.bind kV doc pm an cdv ct [] ws rfl hlw)
      · exact absurd rfl e
    refine wpAny_call (codeAny_mono (hok.run X.A X.stack s2 H2 ⟨[], ks.zip ws⟩ (g [] ws) (g [] zs) Q (WE Wx σ) hr I2.env0 hbt r2 q2) fun r s' hq => ?_)
    cases r with
    | error e => exact passAt tk σ pins H2 s2 e s' I2 hq
    | ok fl =>
      cases fl with
      | ret u => exact I2.after hq
      | next => exact False.elim hq
      | brk => exact False.elim hq
      | cont => exact False.elim hq
end
end Bq
set_option Elab.async false
set_option linter.all false
set_option maxRecDepth 100000
set_option maxHeartbeats 2000000
/-! # zip of two sequences, lists and tuples in any mix -/
namespace Bq
open PySem PySem.Spec PyProof.Rows L2

def SqK (k : Bool) (K : PySem.W.Frag) (H : Hp) (a : Addr) (xs : List V) : Prop := match k with
  | true => SqL K H a xs
  | false => SqT K H a xs
def ItK (k : Bool) (h : Heap) (it a : Addr) (i : Nat) : Prop := match k with
  | true => h.IsListIter it a i
  | false => h.IsTupleIter it a i
def ObK (k : Bool) (h : Heap) (a : Addr) (items : Array Value) : Prop := match k with
  | true => h.IsList a items
  | false => h.IsTuple a items
theorem drawsK {prog : Program} {w : World} {A : Around} (k : Bool) (hh : A.handled = none) (it l : Addr) (hne : l ≠ it) (items : Array Value) :
    Draws prog w A it [it, l] items.size (fun i v => items[i]? = some v) (fun i h => ItK k h it l i ∧ ObK k h l items) := by
  cases k with
  | true => exact Draws.list hh it l hne items
  | false => exact Draws.tuple hh it l hne items
theorem ItK.obj {k : Bool} {h : Heap} {it a : Addr} {i : Nat} (x : ItK k h it a i) : ∃ o, h.get? it = some o ∧ ∀ v, o.data ≠ .cell v := by
  cases k with
  | true =>
    obtain ⟨o, e, _, d⟩ := (show h.IsListIter it a i from x)
    exact ⟨o, e, fun v q => by rw [d] at q; cases q⟩
  | false =>
    obtain ⟨o, e, _, d⟩ := (show h.IsTupleIter it a i from x)
    exact ⟨o, e, fun v q => by rw [d] at q; cases q⟩
theorem ItK.at {k : Bool} {h h' : Heap} {it a : Addr} {i : Nat} (x : ItK k h it a i) (f : ∀ o, h.get? it = some o → h'.get? it = some o) : ItK k h' it a i := by
  cases k with
  | true => exact (show h.IsListIter it a i from x).at f
  | false => exact (show h.IsTupleIter it a i from x).at f
section
variable {X : Cx} {pins : List (Addr × Obj)} {σ : L2.St} {H : Hp} {s : Shared} {a : Addr} {xs ys : List V}
theorem sqK_obj {k : Bool} (I : Inv X pins σ H s) (h : SqK k X.K H a xs) : ∃ its : List Value, Vals xs its ∧ ObK k s.heap a its.toArray := by
  cases k with
  | true =>
    obtain ⟨its, r, p, _⟩ := I.list h
    exact ⟨its, r, p.isList⟩
  | false =>
    obtain ⟨its, r, p, _⟩ := I.tuple h
    exact ⟨its, r, p⟩
theorem sqK_inj {k : Bool} (I : Inv X pins σ H s) (h : SqK k X.K H a xs) (h' : SqK k X.K H a ys) : xs = ys := by
  cases k with
  | true => exact I.list_inj h h'
  | false => exact I.tuple_inj h h'
theorem sqK_lt {k : Bool} (I : Inv X pins σ H s) (h : SqK k X.K H a xs) : a < s.heap.objs.size := by
  cases k with
  | true =>
    obtain ⟨its, r, p, _⟩ := I.list h
    exact p.lt
  | false =>
    obtain ⟨its, r, p, _⟩ := I.tuple h
    exact p.lt
end
def ItzG (ka kb : Bool) (n1 n2 : Nat) (K : PySem.W.Frag) (a b : Addr) : It :=
  ⟨fun i H => ∃ (xs ys : List V) (x y : V), SqK ka K H a xs ∧ SqK kb K H b ys ∧ xs.length = n1 ∧ ys.length = n2 ∧ xs[i]? = some x ∧ ys[i]? = some y,
    fun i H v H' => ∃ T x y, v = .ref T ∧ H T = none ∧ H' = upd H T (.tup [x, y]) ∧ (∀ xs, SqK ka K H a xs → xs[i]? = some x) ∧ ∀ ys, SqK kb K H b ys → ys[i]? = some y,
    fun i H => ∃ xs ys : List V, SqK ka K H a xs ∧ SqK kb K H b ys ∧ xs.length = n1 ∧ ys.length = n2 ∧ (n1 ≤ i ∨ n2 ≤ i)⟩
theorem turn_zipG {P : Program} {w : World} {K : PySem.W.Frag} {elts : List Expr} {kk : Nat} {tpos : Pos} {ka kb : Bool} {n1 n2 : Nat} {a b z TI TO i1 i2 : Addr} (D : ZipSep2 z TI TO i1 i2 [i1, a] [i2, b]) (hi12 : i1 ≠ i2) (ha1 : a ≠ i1) (hb2 : b ≠ i2) :
    Turn P w K (.Tuple elts kk tpos) (ItzG ka kb n1 n2 K a b) [z, TI, TO, i1, i2] z (fun i h => IsZip h z TI TO .none ∧ IsTupOf2 h TI (.ref i1) (.ref i2) ∧ (∃ x y, IsTupOf2 h TO x y) ∧ ItK ka h i1 a i ∧ ItK kb h i2 b i ∧ i ≤ n1 ∧ i ≤ n2) where
  mem := by simp
  obj := fun i h st c hc => by
    obtain ⟨hz, hTI, ⟨x, y, hTO⟩, h1, h2, _⟩ := st
    have e' : c = z ∨ c = TI ∨ c = TO ∨ c = i1 ∨ c = i2 := by simpa using hc
    rcases e' with q | q | q | q | q
    · rw [q]; exact ⟨_, hz, fun v q => nomatch q⟩
    · rw [q]; exact ⟨_, hTI, fun v q => nomatch q⟩
    · rw [q]; exact ⟨_, hTO, fun v q => nomatch q⟩
    · rw [q]; exact h1.obj
    · rw [q]; exact h2.obj
  keep := fun i h h' st k => by
    obtain ⟨hz, hTI, ⟨x, y, hTO⟩, h1, h2, l1, l2⟩ := st
    exact ⟨k z (by simp) _ hz, k TI (by simp) _ hTI, ⟨x, y, k TO (by simp) _ hTO⟩, h1.at fun o q => k i1 (by simp) o q, h2.at fun o q => k i2 (by simp) o q, l1, l2⟩
  item := by
    intro X hP hw hK hc i pins s σ H E I hf st hg
    subst hP hw hK
    obtain ⟨hz, hTI, ⟨x0, y0, hTO⟩, h1, h2, l1, l2⟩ := st
    obtain ⟨xs, ys, x, y, hqx, hqy, e1, e2, hx, hy⟩ := hg
    obtain ⟨its, rv, p⟩ := sqK_obj I hqx
    obtain ⟨its2, rv2, p2⟩ := sqK_obj I hqy
    obtain ⟨u, hu, ru⟩ := rv.get hx
    obtain ⟨u2, hu2, ru2⟩ := rv2.get hy
    have lt1 := (List.getElem?_eq_some_iff.mp hu).1
    have lt2 := (List.getElem?_eq_some_iff.mp hu2).1
    have rl := rv.length
    have rl2 := rv2.length
    have hzl : z < s.heap.objs.size := Heap.lt_size hz
    have hh : X.A.in1.handled = none := I.ok.hd hc
    refine wpAny_pyNext_zipD2_item (i := i) D (drawsK ka hh i1 a ha1 its.toArray) (drawsK kb hh i2 b hb2 its2.toArray) hz hTI hTO ⟨h1, p⟩ ⟨h2, p2⟩ (by simpa using lt1) (by simpa using lt2) fun v1 v2 h' tk hv1 hv2 z' TO' h1' h2' hT hsz hk => ?_
    have ev1 : v1 = u := by
      have q : its[i]? = some v1 := by simpa using hv1
      rw [hu] at q; exact (Option.some.inj q).symm
    have ev2 : v2 = u2 := by
      have q : its2[i]? = some v2 := by simpa using hv2
      rw [hu2] at q; exact (Option.some.inj q).symm
    subst ev1 ev2
    refine ⟨_, rfl, wpAny_letOwnedTupleGo_zip (s := { s with heap := h', toks := tk }) z' fun h'' z'' sb => ?_⟩
    have hT2 : h''.get? s.heap.objs.size = some { cls := .type "tuple", data := .seq #[v1, v2] } := (sb.2 _ (Nat.ne_of_gt hzl)).trans hT
    have new : ObjOk X.prog X.w (upd H s.heap.objs.size (.tup [x, y])) h'' s.heap.objs.size (.tup [x, y]) :=
      ⟨by show 2 ≤ sizeLine; decide, [v1, v2], .cons ru (.cons ru2 .nil), ⟨_, hT2, rfl, _, rfl⟩⟩
    have I1 : Inv X pins σ (upd H s.heap.objs.size (.tup [x, y])) { s with heap := h'', toks := tk } :=
      I.turnedNew (t' := tk) (ch := [z, TI, TO, i1, i2]) (fun c o hb q => (sb.2 c (fun q' => hb (by simp [q']))).trans (hk c o (fun q' => hb (by simp [q'])) (fun q' => hb (by simp [q'])) (fun q' => hb (by simp [q'])) (fun q' => hb (by simp [q'])) q)) hf (Nat.le_refl _) new
    refine ⟨.ref s.heap.objs.size, _, I1, rfl, ⟨_, x, y, rfl, I.hok.fresh (Nat.le_refl _), rfl, fun l hl => by rw [sqK_inj I hl hqx]; exact hx, fun l hl => by rw [sqK_inj I hl hqy]; exact hy⟩, ⟨z'', ?_, ⟨v1, v2, ?_⟩, ?_, ?_, by omega, by omega⟩, fun c hcm => ?_⟩
    · exact (sb.2 _ D.TIz).trans (hk _ _ D.TIz D.TITO D.TIi1 D.TIi2 hTI)
    · exact (sb.2 _ D.TOz).trans TO'
    · exact h1'.1.at fun o q => (sb.2 _ (fun e => D.zi1 e.symm)).trans q
    · exact h2'.1.at fun o q => (sb.2 _ (fun e => D.zi2 e.symm)).trans q
    · have hlt : c < s.heap.objs.size := by
        have e' : c = z ∨ c = TI ∨ c = TO ∨ c = i1 ∨ c = i2 := by simpa using hcm
        rcases e' with q | q | q | q | q
        · rw [q]; exact hzl
        · rw [q]; exact Heap.lt_size hTI
        · rw [q]; exact Heap.lt_size hTO
        · rw [q]; obtain ⟨_, e1, _⟩ := h1.obj; exact Heap.lt_size e1
        · rw [q]; obtain ⟨_, e2, _⟩ := h2.obj; exact Heap.lt_size e2
      rw [upd_ne (Nat.ne_of_lt hlt)]
      exact (hf c hcm).1
  done := by
    intro X hP hw hK hc i pins s σ H E I hf st hg
    subst hP hw hK
    obtain ⟨hz, hTI, ⟨x0, y0, hTO⟩, h1, h2, l1, l2⟩ := st
    obtain ⟨xs, ys, hqx, hqy, e1, e2, hend⟩ := hg
    obtain ⟨its, rv, p⟩ := sqK_obj I hqx
    obtain ⟨its2, rv2, p2⟩ := sqK_obj I hqy
    have rl := rv.length
    have rl2 := rv2.length
    have hh : X.A.in1.handled = none := I.ok.hd hc
    exact wpAny_pyNext_zipD2_end (i := i) D (drawsK ka hh i1 a ha1 its.toArray) (drawsK kb hh i2 b hb2 its2.toArray) hz hTI hTO ⟨h1, p⟩ ⟨h2, p2⟩ (by simp; omega) (by simp; omega) (by simp; omega) fun h' tk hk => ⟨rfl, I.turnedL (t' := tk) (ch := [z, TI, TO, i1, i2]) (fun c o hb q =>
      hk c o (fun q' => hb (by simp [q'])) (fun q' => hb (by simp [q'])) (fun q' => hb (by simp [q'])) (fun q' => hb (by simp [q'])) q) hf⟩
  self := fun A i s Q E st h => wpAny_pyIter_zip st.1 h
theorem beginsK (k : Bool) (l : Addr) (items : Array Value) : ∃ o, Begins (.ref l) o (fun h => ObK k h l items) ∧ ∀ (h : Heap) (it : Addr), h.get? it = some o → ItK k h it l 0 := by
  cases k with
  | true => exact ⟨_, begins_list l items, fun h it e => ⟨_, e, rfl, rfl⟩⟩
  | false => exact ⟨_, begins_tuple l items, fun h it e => ⟨_, e, rfl, rfl⟩⟩
def iZipG (K : PySem.W.Frag) (ta : TA) : TI := fun σ H R => ta σ H fun vs H1 => ∃ a b xs ys ka kb, vs = [.ref a, .ref b] ∧ SqK ka K H1 a xs ∧ SqK kb K H1 b ys ∧ R (ItzG ka kb xs.length ys.length K a b) H1
theorem pi_zipG {X : Cx} {e e2 : Expr} {ta : TA} {p pos tpos : Pos} {elts : List Expr} {kk : Nat} (hg : Gl X "zip") (hm : X.mg "zip" = none) (ha : PA X [e, e2] ta)
    (hs : starEach [e, e2] X.env = (false, eval e X.env) :: starEach [e2] X.env := by rfl) (hpl : (backTo pos (starEach [e2] X.env)).any (·.1) = false := by rfl) :
    PI X (.Tuple elts kk tpos) (.Call (.Name "zip" p) [e, e2] [] pos) (iZipG X.K ta) := by
  refine ⟨fun pins s σ H R I h => ?_⟩
  refine Call_ (ld_blt I hg hm PyProof.Rows.boot_zip (PyProof.Rows.callWith_type1 (thn (ha.run pos pins s σ H _ I h) fun us s1 ⟨vs, H1, I1, r1, q1⟩ => ?_) hs hpl))
  obtain ⟨a, b, xs, ys, ka, kb, ex, hqx, hqy, q⟩ := q1
  subst ex
  cases r1 with
  | cons r rr =>
    cases rr with
    | cons r' rr =>
      cases rr
      cases r
      cases r'
      have fresh5 : ∀ c, c ∈ [s1.heap.objs.size + 4, s1.heap.objs.size + 2, s1.heap.objs.size + 3, s1.heap.objs.size, s1.heap.objs.size + 1] → FpOk X pins H1 c := fun c hcm => by
        have e' : c = s1.heap.objs.size + 4 ∨ c = s1.heap.objs.size + 2 ∨ c = s1.heap.objs.size + 3 ∨ c = s1.heap.objs.size ∨ c = s1.heap.objs.size + 1 := by simpa using hcm
        have hle : s1.heap.objs.size ≤ c := by
          rcases e' with z | z | z | z | z
          · rw [z]; exact Nat.le_add_right _ _
          · rw [z]; exact Nat.le_add_right _ _
          · rw [z]; exact Nat.le_add_right _ _
          · rw [z]; exact Nat.le_refl _
          · rw [z]; exact Nat.le_add_right _ _
        exact I1.fpOk hle (I1.hok.fresh hle)
      obtain ⟨its, rv, p1⟩ := sqK_obj I1 hqx
      obtain ⟨its2, rv2, p2⟩ := sqK_obj I1 hqy
      obtain ⟨o1, b1, c1⟩ := beginsK ka a its.toArray
      obtain ⟨o2, b2, c2⟩ := beginsK kb b its2.toArray
      have la := sqK_lt I1 hqx
      have lb := sqK_lt I1 hqy
      refine zip_begins2 b1 b2 p1 p2 fun h' hz hTI hTO h1 h2 hsz hk => wpAny_pyIter_zip hz ?_
      have I2 : Inv X pins σ H1 { s1 with heap := h' } := I1.kept (t' := s1.toks) hk
      have hla : ∀ c, c ∈ [a] → c < s1.heap.objs.size := fun c hc => by
        have e : c = a := by simpa using hc
        rw [e]
        exact la
      have hlb : ∀ c, c ∈ [b] → c < s1.heap.objs.size := fun c hc => by
        have e : c = b := by simpa using hc
        rw [e]
        exact lb
      exact ⟨s1.heap.objs.size + 4, [s1.heap.objs.size + 4, s1.heap.objs.size + 2, s1.heap.objs.size + 3, s1.heap.objs.size, s1.heap.objs.size + 1], _, _, H1, rfl, I2,
        turn_zipG (zip_sep2 (N := s1.heap.objs.size) (fp1 := [a]) (fp2 := [b]) hla hlb) (Nat.ne_of_lt (Nat.lt_succ_self _)) (Nat.ne_of_lt la) (Nat.ne_of_lt (Nat.lt_succ_of_lt lb)),
        ⟨hz, hTI, ⟨_, _, hTO⟩, c1 _ _ h1, c2 _ _ h2, Nat.zero_le _, Nat.zero_le _⟩, fresh5, q⟩

/-! ## the data side -/
def zipD (xs ys : List D) : List D := List.zipWith (fun x y => .tuple [x, y]) xs ys
def seqOf : Wv → Option (List D)
  | .d (.list xs) => some xs
  | .d (.tuple xs) => some xs
  | _ => none
@[reducible] def iZip (a : Sl → M (List Wv)) : SI := fun env => M.bnd (a env) fun ws => match ws with
  | [x, y] => (match seqOf x, seqOf y with
    | some xs, some ys => M.ret (zipD xs ys)
    | _, _ => M.no)
  | _ => M.no
theorem seqOf_rep {K : PySem.W.Frag} {ρ : Rh} {H : Hp} {v : V} {w : Wv} {ds : List D} (h : seqOf w = some ds) (r : RepW K ρ H v w) :
    ∃ k a, v = .ref a ∧ ∀ ρ1 H1, Kp ρ H ρ1 H1 → ∃ xs, SqK k K H1 a xs ∧ RepDs K ρ1 H1 xs ds := by
  cases w with
  | d x =>
    cases x with
    | list xs =>
      cases h
      obtain ⟨a, us, rfl, h1, h2, h3⟩ := RepD.sqL r
      exact ⟨true, a, rfl, fun ρ1 H1 k => ⟨us, SqL.of (k.keep _ _ h1 h2), RepDs.monoK k _ _ h3⟩⟩
    | tuple xs =>
      cases h
      obtain ⟨a, us, rfl, h1, h3⟩ := RepD.sqT r
      exact ⟨false, a, rfl, fun ρ1 H1 k => sqT_keep (xs := []) (show RepD K ρ H (.ref a) (.tuple ds) from r) k⟩
    | _ => cases h
  | _ => cases h
theorem pid_zip {X : Cx} {Wx : WX} {e e2 : Expr} {fa : Sl → M (List Wv)} {p pos tpos : Pos} {elts : List Expr} {kk : Nat} (hg : Gl X "zip") (hm : X.mg "zip" = none) (ha : PAD X Wx [e, e2] fa)
    (hs : starEach [e, e2] X.env = (false, eval e X.env) :: starEach [e2] X.env := by rfl) (hpl : (backTo pos (starEach [e2] X.env)).any (·.1) = false := by rfl) :
    PID X Wx (.Tuple elts kk tpos) (.Call (.Name "zip" p) [e, e2] [] pos) (iZip fa) := by
  refine pi_imp (pi_zipG hg hm ha hs hpl) fun σ H Q ⟨env, S, ρ, r, S', he, hw, hf, hp⟩ => ?_
  refine tG_bnd he hw hf hp fun ws S1 vs H1 ρ1 hk g1 w1 rx he1 hp1 => ?_
  split at hk
  · rename_i x y
    obtain ⟨v, z, rfl, r1, r2⟩ := RepWs.two rx
    cases ex : seqOf x with
    | none => rw [ex] at hk; cases hk
    | some xs =>
      cases ey : seqOf y with
      | none => rw [ex, ey] at hk; cases hk
      | some ys =>
        rw [ex, ey] at hk
        obtain ⟨rfl, rfl⟩ := M.ret_eq hk
        obtain ⟨ka, a, rfl, fa⟩ := seqOf_rep ex r1
        obtain ⟨kb, b, rfl, fb⟩ := seqOf_rep ey r2
        obtain ⟨us, hu, ru⟩ := fa ρ1 H1 (Kp.refl _ _)
        obtain ⟨us2, hu2, ru2⟩ := fb ρ1 H1 (Kp.refl _ _)
        refine ⟨a, b, us, us2, ka, kb, rfl, hu, hu2, hp1.ok w1 ⟨fun i ρ2 H2 S2 k w hi => ?_, fun i ρ2 H2 k hi => ?_⟩⟩
        · have hi : i < min xs.length ys.length := by simpa [zipD] using hi
          obtain ⟨vs2, h3, r3⟩ := fa ρ2 H2 k
          obtain ⟨zs2, h4, r4⟩ := fb ρ2 H2 k
          have i1 : i < xs.length := by omega
          have i2 : i < ys.length := by omega
          obtain ⟨p1, e1, q1⟩ := r3.get (i := i) (d := xs[i]) (by simp [i1])
          obtain ⟨p2, e2, q2⟩ := r4.get (i := i) (d := ys[i]) (by simp [i2])
          refine ⟨⟨vs2, zs2, p1, p2, h3, h4, by rw [r3.length, ru.length], by rw [r4.length, ru2.length], e1, e2⟩, fun v H3 ⟨T, x', y', ev, hT, eH, f1, f2⟩ => ?_⟩
          subst ev eH
          have q3 := f1 vs2 h3
          have q4 := f2 zs2 h4
          rw [e1] at q3
          rw [e2] at q4
          cases q3
          cases q4
          refine ⟨w.geF hT, w.fresh hT, .tuple [xs[i], ys[i]], ?_, .tup upd_same (w.notin hT) (.cons (RepD.mono (w.geF hT) _ _ q1) (.cons (RepD.mono (w.geF hT) _ _ q2) .nil))⟩
          unfold zipD
          rw [List.getElem?_zipWith]
          simp [i1, i2]
        · have hi : min xs.length ys.length ≤ i := by simpa [zipD] using hi
          obtain ⟨vs2, h3, r3⟩ := fa ρ2 H2 k
          obtain ⟨zs2, h4, r4⟩ := fb ρ2 H2 k
          exact ⟨vs2, zs2, h3, h4, by rw [r3.length, ru.length], by rw [r4.length, ru2.length], by rw [ru.length, ru2.length]; omega⟩
  · cases hk
end Bq
set_option Elab.async false
set_option linter.all false
set_option maxRecDepth 100000
set_option maxHeartbeats 2000000
/-! # Words for the printed derivations -/
namespace Bq
open PySem L2 PyProof.Rows

def FL (fa : Sl → M (List Wv)) (n : Nat) : Prop := ∀ env S ws S1, fa env S = some (.ok ws, S1) → ws.length = n
theorem fl_nil : FL aNil 0 := fun env S ws S1 h => by
  obtain ⟨e, _⟩ := M.ret_eq h
  cases e
  rfl
theorem fl_cons {a : SE} {r : Sl → M (List Wv)} {n : Nat} (h : FL r n) : FL (aCons a r) (n + 1) := fun env S ws S1 e => by
  unfold aCons M.bnd at e
  cases e1 : a env S with
  | none => rw [e1] at e; cases e
  | some q =>
    obtain ⟨r1, S2⟩ := q
    rw [e1] at e
    cases r1 with
    | ex z => cases e
    | ok x =>
      dsimp only at e
      cases e2 : r env S2 with
      | none => rw [e2] at e; cases e
      | some q =>
        obtain ⟨r2, S3⟩ := q
        rw [e2] at e
        cases r2 with
        | ex z => cases e
        | ok xs =>
          obtain ⟨e3, _⟩ := M.ret_eq e
          cases e3
          rw [List.length_cons, h _ _ _ _ e2]
theorem hu_room {k : Nat} {A : Around} (hr : Room k A) : A.units + 65 < cLine := by
  have := hr.un
  omega
theorem hu_room1 {k : Nat} {A : Around} (hr : Room k A) : A.units + 1 < cLine := by
  have := hr.un
  omega
section
variable {X : Cx} {Wx : WX} {a b e : Expr} {fa fb f : SE} {fs : Sl → M (List Wv)} {es : List Expr} {p pos : Pos}
@[reducible] def eNeg (a : SE) : SE := fun env => M.bnd (a env) fun x => match x with
  | .d (.int i) => retI (-i)
  | _ => M.no
theorem pd_neg (ha : PD X Wx a fa) : PD X Wx (.UnaryOp .USub a pos) (eNeg fa) := by
  refine pe_imp (pe_un un_neg ha) fun σ H Q ⟨env, S, ρ, rr, S', he, hw, hf, hp⟩ => ?_
  refine tG_bnd he hw hf hp fun x S1 v H1 ρ1 hk g1 w1 rx he1 hp1 => ?_
  cases x with
  | d y =>
    cases y with
    | int i =>
      obtain ⟨rfl, rfl⟩ := M.ret_eq (show retI (-i) S1 = some (rr, S') from hk)
      exact ⟨i, rep_int rx, hp1.ok w1 (show RepD _ _ _ _ _ from .int _)⟩
    | _ => cases hk
  | _ => cases hk
theorem pd_len (hm : X.mg "len" = none) (ha : PAD X Wx (a :: es) fs) (hg : Gl X "len" := by rfl) (he : starEach (a :: es) X.env = (false, eval a X.env) :: starEach es X.env := by rfl) (hpl : (backTo pos (starEach es X.env)).any (·.1) = false := by rfl) :
    PD X Wx (.Call (.Name "len" p) (a :: es) [] pos) (eCall (f1 lenW) fs) := pd_cb (fun ha => pe_callB call_len hg hm PySem.boot_len ha (by decide) (by decide) he hpl) cd_len ha
theorem pd_all (hc : X.calm = true) (hm : X.mg "all" = none) (ha : PAD X Wx (a :: es) fs) (hg : Gl X "all" := by rfl) (he : starEach (a :: es) X.env = (false, eval a X.env) :: starEach es X.env := by rfl) (hpl : (backTo pos (starEach es X.env)).any (·.1) = false := by rfl) :
    PD X Wx (.Call (.Name "all" p) (a :: es) [] pos) (eCall (f1 allW) fs) := pd_cb (fun ha => pe_callB (cr_all hc) hg hm (by decide +kernel) ha (by decide) (by decide) he hpl) cd_all ha
theorem pd_any (hc : X.calm = true) (hm : X.mg "any" = none) (ha : PAD X Wx (a :: es) fs) (hg : Gl X "any" := by rfl) (he : starEach (a :: es) X.env = (false, eval a X.env) :: starEach es X.env := by rfl) (hpl : (backTo pos (starEach es X.env)).any (·.1) = false := by rfl) :
    PD X Wx (.Call (.Name "any" p) (a :: es) [] pos) (eCall (f1 anyW) fs) := pd_cb (fun ha => pe_callB (cr_any hc) hg hm (by decide +kernel) ha (by decide) (by decide) he hpl) cd_any ha
theorem pd_sum (hc : X.calm = true) (hm : X.mg "sum" = none) (ha : PAD X Wx (a :: es) fs) (hg : Gl X "sum" := by rfl) (he : starEach (a :: es) X.env = (false, eval a X.env) :: starEach es X.env := by rfl) (hpl : (backTo pos (starEach es X.env)).any (·.1) = false := by rfl) :
    PD X Wx (.Call (.Name "sum" p) (a :: es) [] pos) (eCall (f1 sumW) fs) := pd_cb (fun ha => pe_callB (cr_sum hc) hg hm (by decide +kernel) ha (by decide) (by decide) he hpl) cd_sum ha
theorem pd_abs (hm : X.mg "abs" = none) (ha : PAD X Wx (a :: es) fs) (hg : Gl X "abs" := by rfl) (he : starEach (a :: es) X.env = (false, eval a X.env) :: starEach es X.env := by rfl) (hpl : (backTo pos (starEach es X.env)).any (·.1) = false := by rfl) :
    PD X Wx (.Call (.Name "abs" p) (a :: es) [] pos) (eCall (f1I fun i => if i < 0 then -i else i) fs) := pd_cb (fun ha => pe_callB call_abs hg hm (by decide +kernel) ha (by decide) (by decide) he hpl) cd_abs ha
theorem pd_max2 (hc : X.calm = true) (hm : X.mg "max" = none) (ha : PAD X Wx (a :: es) fs) (hg : Gl X "max" := by rfl) (he : starEach (a :: es) X.env = (false, eval a X.env) :: starEach es X.env := by rfl) (hpl : (backTo pos (starEach es X.env)).any (·.1) = false := by rfl) :
    PD X Wx (.Call (.Name "max" p) (a :: es) [] pos) (eCall (f2I fun i j => if j > i then j else i) fs) := pd_cb (fun ha => pe_callB (call_max2 hc) hg hm (by decide +kernel) ha (by decide) (by decide) he hpl) cd_max2 ha
theorem pd_min2 (hc : X.calm = true) (hm : X.mg "min" = none) (ha : PAD X Wx (a :: es) fs) (hg : Gl X "min" := by rfl) (he : starEach (a :: es) X.env = (false, eval a X.env) :: starEach es X.env := by rfl) (hpl : (backTo pos (starEach es X.env)).any (·.1) = false := by rfl) :
    PD X Wx (.Call (.Name "min" p) (a :: es) [] pos) (eCall (f2I fun i j => if j < i then j else i) fs) := pd_cb (fun ha => pe_callB (call_min2 hc) hg hm (by decide +kernel) ha (by decide) (by decide) he hpl) cd_min2 ha
theorem pd_tuple (hm : X.mg "tuple" = none) (ha : PAD X Wx (a :: es) fs) (hg : Gl X "tuple" := by rfl) (he : starEach (a :: es) X.env = (false, eval a X.env) :: starEach es X.env := by rfl) (hpl : (backTo pos (starEach es X.env)).any (·.1) = false := by rfl) :
    PD X Wx (.Call (.Name "tuple" p) (a :: es) [] pos) (eCall (f1 tupW) fs) := pd_cb (fun ha => pe_callTy call_tuple_of hg hm (by decide +kernel) ha (by decide) (by decide) he hpl) cd_tup ha
theorem pd_intOf (hm : X.mg "int" = none) (ha : PAD X Wx (a :: es) fs) (hg : Gl X "int" := by rfl) (he : starEach (a :: es) X.env = (false, eval a X.env) :: starEach es X.env := by rfl) (hpl : (backTo pos (starEach es X.env)).any (·.1) = false := by rfl) :
    PD X Wx (.Call (.Name "int" p) (a :: es) [] pos) (eCall (f1 intW) fs) := pd_cb (fun ha => pe_callTy call_intA hg hm (by decide +kernel) ha (by decide) (by decide) he hpl) cd_int ha
theorem pd_strOf (hm : X.mg "str" = none) (ha : PAD X Wx (a :: es) fs) (hg : Gl X "str" := by rfl) (he : starEach (a :: es) X.env = (false, eval a X.env) :: starEach es X.env := by rfl) (hpl : (backTo pos (starEach es X.env)).any (·.1) = false := by rfl) :
    PD X Wx (.Call (.Name "str" p) (a :: es) [] pos) (eCall (f1 strW) fs) := pd_cb (fun ha => pe_callTy call_str_int hg hm (by decide +kernel) ha (by decide) (by decide) he hpl) cd_str ha
/-- a built-in class as a value -/
theorem pe_ty {x : Str} {T : String} (hm : X.mg x = none) (hb : bootBuiltins x = some (.type T)) (hg : Gl X x := by rfl) (hn : x ≠ "__name__" := by decide) (hd : (x == ("__debug__" : Str)) = false := by decide) : PE X (.Name x p) (tC (.ty T)) := pe_bltn hg hm hb rfl hn hd
/-- a, b = x, y where a name is captured: the tuple is made -/
theorem psd_parT {i j : Nat} {x y : Str} {px py pt : Pos} {kt k2 pt2} (hc : X.calm = true) (hN : X.N.Nodup) (ha : PAD X Wx [a, b] fs) (hi : X.N[i]? = some x := by rfl) (hj : X.N[j]? = some y := by rfl)
    (hx : Loc X.env.scope x := by first | exact Or.inl rfl | exact Or.inr rfl) (hy : Loc X.env.scope y := by first | exact Or.inl rfl | exact Or.inr rfl) (hfx : X.fn x = true ∨ X.env.scope.names.lookup x = some .local := by first | exact .inl rfl | exact .inr rfl) (hfy : X.fn y = true ∨ X.env.scope.names.lookup y = some .local := by first | exact .inl rfl | exact .inr rfl)
    (hs : swapsWithSole [.Tuple [.Name x px, .Name y py] kt pt] (.Tuple [a, b] k2 pt2) pos.line X.env = pure false := by rfl) (hw : swappedStores [.Tuple [.Name x px, .Name y py] kt pt] (.Tuple [a, b] k2 pt2) X.env = pure none := by rfl)
    (h1 : (assignEach [.Tuple [.Name x px, .Name y py] kt pt] X.env).map (·.2) = [assign (.Tuple [.Name x px, .Name y py] kt pt) X.env] := by rfl)
    (hn : (assignEach [.Name x px, .Name y py] X.env).length = 2 := by rfl) (hst : (assignEach [.Name x px, .Name y py] X.env).findIdx? (·.1) = none := by rfl)
    (hs1 : (assignEach [.Name x px, .Name y py] X.env).map (·.2) = assign (.Name x px) X.env :: (assignEach [.Name y py] X.env).map (·.2) := by rfl) (hs2 : (assignEach [.Name y py] X.env).map (·.2) = assign (.Name y py) X.env :: (assignEach [] X.env).map (·.2) := by rfl) :
    PSD X Wx (.Assign [.Tuple [.Name x px, .Name y py] kt pt] (.Tuple [a, b] k2 pt2) pos) (sPar i j fs) := by
  refine ps_imp (ps_asg (pe_tup ha) (pg_tup hc (pgs_cons (pg_name hN hi hx hfx) (pgs_cons (pg_name hN hj hy hfy) pgs_nil hs2) hs1) hn hst) hs hw h1) fun D σ H ⟨env, S, ρ, o, env', S', he, hw, hf, hp⟩ => ?_
  refine tS_bnd he hw hf hp fun ws S1 vs H1 ρ1 hk g1 w1 rx he1 hp1 => ?_
  cases rx with
  | nil => cases hk
  | @cons v1 _ _ _ r1 rx =>
    cases rx with
    | nil => cases hk
    | @cons v2 _ _ _ r2 rx =>
      cases rx with
      | nil =>
        cases hk
        refine ⟨by show 2 ≤ sizeLine; decide, fun q hq => ⟨q, _, rfl, SqT.of upd_same, rfl, _, _, rfl, _, _, rfl, rfl, ?_⟩⟩
        have gq := w1.geF (o := .tup [v1, v2]) hq
        exact (hp1.mono gq).nx (w1.fresh hq) (((he1.set r1 i).set r2 j).mono gq)
      | cons _ _ => cases hk
end
/-- a def of the top, as the head tells it -/
def DefT (G : Gm) (x : Str) (st : Stmt) : Prop := ∃ f fd, G.mg x = some (.ref f) ∧ FunD G.K x x (defArgs st) (defBody st) (defScope st) [] [] f fd
theorem fnD_of {P : Program} {w : World} {G : Gm} {base : Heap} {k : Nat} {x : Str} {st : Stmt} {N ps : List Str} {s : SS} (kp : Bool) (T : DefT G x st)
    (S : FnScope N ps (defScope st)) (hbd : ∀ (kV doc pm : Value) (an : Option Addr) (cdv ct : Value) (us : List Value), us.length = ps.length → bindArgs (PySem.W.fnOf x x (defArgs st) (defBody st) (defScope st) .none kV doc pm an cdv ct) ⟨us, []⟩ = pure (ps.zip us))
    (hbody : ∀ (f : Addr) (cdv : Value) (A : Around) (outer : List Env) (sh : Shared) (H : Hp) (E : XK), Room k (A.deeper (envOfC x (defScope st) sh.heap.objs.size f cdv)) →
      Takes (cxOf (L2.CX P w) P w G.K G.mg base N x (defScope st) f cdv A outer sh H E) (WE' E) → PSsD (cxOf (L2.CX P w) P w G.K G.mg base N x (defScope st) f cdv A outer sh H E) (WE' E) (defBody st) s) :
    FnD P w G base (k + 1) x st ps (fnS kp N.length ps.length s) := by
  obtain ⟨f, fd, hm, F⟩ := T
  exact fnD_mk kp hm F S hbd (hbody f)
end Bq
set_option Elab.async false
set_option linter.all false
set_option maxRecDepth 100000
set_option maxHeartbeats 2000000
/-! # Words of the printer; constants and defs as the head tells them -/
namespace Bq
open PySem L2 PyProof.Rows
@[reducible] def absF : List Wv → M Wv := f1I fun i => if i < 0 then -i else i
@[reducible] def max2F : List Wv → M Wv := f2I fun i j => if j > i then j else i
@[reducible] def min2F : List Wv → M Wv := f2I fun i j => if j < i then j else i
@[reducible] def sNo : SS := fun _ _ => none
@[reducible] def sBk : SS := fun env S => some (.bk, env, S)
@[reducible] def sCt : SS := fun env S => some (.ct, env, S)
theorem fnD_none {P : Program} {w : World} {G : Gm} {base : Heap} {k : Nat} {x : Str} {st : Stmt} {ps : List Str} (T : DefT G x st)
    (hbd : ∀ (kV doc pm : Value) (an : Option Addr) (cdv ct : Value) (us : List Value), us.length = ps.length → bindArgs (PySem.W.fnOf x x (defArgs st) (defBody st) (defScope st) .none kV doc pm an cdv ct) ⟨us, []⟩ = pure (ps.zip us)) :
    FnD P w G base k x st ps (fun _ => M.no) := by
  obtain ⟨f, fd, hm, F⟩ := T
  exact ⟨f, fd, hm, F, F.bindsN hbd, ⟨fun vs H Q E h => h.1, fun A outer s H args us vs Q E hr he hb hv ⟨_, ws, S, ρ, r, S', _, _, h, _⟩ => by cases h⟩⟩
theorem defT_of {K : PySem.W.Frag} {mg : Str → Option Value} {x : Str} {f : Addr} {st : Stmt} (hm : mg x = some (.ref f))
    (h : ∃ fd, FunD K x x (defArgs st) (defBody st) (defScope st) [] [] f fd) : DefT ⟨K, mg⟩ x st := let ⟨fd, F⟩ := h; ⟨f, fd, hm, F⟩
theorem gconst_str {G : Gm} {x z : Str} (h : ∃ t, G.mg x = some (.str z t)) : GConst G x (.str z) := let ⟨t, e⟩ := h; ⟨.str z, _, e, ⟨t, rfl⟩, fun _ _ => .str _⟩
theorem gconst_int {G : Gm} {x : Str} {i : Int} (h : ∃ t, G.mg x = some (.int i t)) : GConst G x (.int i) := let ⟨t, e⟩ := h; ⟨.int i, _, e, ⟨t, rfl⟩, fun _ _ => .int _⟩
def dvD : He.Dv → D
  | .bl b => .bool b
  | .int i => .int i
  | .str x => .str x
  | _ => .none
def dvOk : He.Dv → Bool
  | .non => true
  | .bl _ => true
  | .int _ => true
  | .str _ => true
  | _ => false
theorem repDv {K : PySem.W.Frag} {ρ : Rh} {H : Hp} {v : He.Dv} (h : dvOk v = true) : RepD K ρ H (v.v K) (dvD v) := by
  cases v with
  | non => exact .non
  | bl b => exact .bl b
  | int i => exact .int i
  | str x => exact .str x
  | _ => cases h
theorem repDvs {K : PySem.W.Frag} {ρ : Rh} {H : Hp} : ∀ {vs : List He.Dv}, vs.all dvOk = true → RepDs K ρ H (vs.map (He.Dv.v K)) (vs.map dvD)
  | [], _ => .nil
  | v :: vs, h => by
    have h := He.ba (show (dvOk v && vs.all dvOk) = true from h)
    exact .cons (repDv h.1) (repDvs h.2)
theorem gconst_tup {G : Gm} {x : Str} {vs : List He.Dv} {ds : List D} (h : He.tupB G.K x vs = true) (hm : G.mg x = some (.ref (He.ga G.K x))) (hv : vs.all dvOk = true := by rfl) (he : vs.map dvD = ds := by rfl) : GConst G x (.tuple ds) := by
  subst he
  refine ⟨.ref (He.ga G.K x), _, hm, rfl, fun ρ H => ?_⟩
  unfold He.tupB at h
  cases q : G.K.lookup (He.ga G.K x) with
  | none =>
    rw [q] at h
    cases h
  | some o =>
    obtain ⟨oc, od, dt, osl⟩ := o
    rw [q] at h
    cases oc with
    | type c =>
      cases dt with
      | seq its n =>
        obtain ⟨h1, h2⟩ := He.ba (show (decide (c = "tuple") && (decide (its.size ≤ sizeLine) && He.relAll (vs.map (He.Dv.v G.K)) its.toList)) = true from h)
        obtain ⟨h3, h4⟩ := He.ba h2
        exact .tupK q (congrArg Value.type (of_decide_eq_true h1)) rfl (of_decide_eq_true h3) (He.relAll_ok h4) (repDvs hv)
      | _ => cases h
    | _ => cases h
theorem len1 {α : Type} : ∀ {l : List α}, l.length = 1 → ∃ a, l = [a]
  | [a], _ => ⟨a, rfl⟩
theorem len2 {α : Type} : ∀ {l : List α}, l.length = 2 → ∃ a b, l = [a, b]
  | [a, b], _ => ⟨a, b, rfl⟩
theorem len3 {α : Type} : ∀ {l : List α}, l.length = 3 → ∃ a b c, l = [a, b, c]
  | [a, b, c], _ => ⟨a, b, c, rfl⟩
theorem len4 {α : Type} : ∀ {l : List α}, l.length = 4 → ∃ a b c d, l = [a, b, c, d]
  | [a, b, c, d], _ => ⟨a, b, c, d, rfl⟩
end Bq
set_option Elab.async false
set_option linter.all false
set_option maxRecDepth 100000
set_option maxHeartbeats 2000000
/-! # A law's end -/
namespace Bq
open PySem L2 PyProof.Rows
theorem RepDs.ints {K : PySem.W.Frag} {ρ : Rh} {H : Hp} : ∀ ns : List Int, RepDs K ρ H (ns.map V.int) (ns.map PyData.int)
  | [] => .nil
  | n :: ns => .cons (.int n) (RepDs.ints ns)
theorem spLaw_of {G : Gm} {F : List Wv → M Wv} {H : Hp} {a : Addr} {ns : List Int} (hO : Only H) (hS : SqL G.K H a (ns.map V.int)) (h : ∃ S', F [.scr (ns.map PyData.int)] [] = some (.ok (.d (.bool true)), S')) :
    spD G 1 F [.ref a] H (fun v _ => v = .bl true) fun _ _ _ => False := by
  obtain ⟨S', h⟩ := h
  refine ⟨rfl, [.scr (ns.map PyData.int)], [], ⟨[], []⟩, _, _, .cons ⟨a, ns.map V.int, rfl, ?_, RepDs.ints ns⟩ .nil, ⟨List.nodup_nil, rfl, fun n a o h1 _ => by simp at h1, fun a ha => by (cases ha), fun a ha => by (cases ha)⟩, h, fun v H' ρ' _ _ r => ?_⟩
  · have nin : a ∉ (⟨[], []⟩ : Rh) := fun z => by rcases z with z | z <;> cases z
    rcases hS with hS | hS
    · rcases hO a with e | ⟨o, xs, e⟩
      · rcases hS with hS | ⟨o, hS⟩
        · rw [e] at hS; cases hS
        · rw [e] at hS; cases hS
      · rcases hS with hS | ⟨o, hS⟩
        · rw [e] at hS; cases hS
        · exact .inl ⟨o, hS, nin⟩
    · exact .inr hS
  · cases (show RepD _ _ _ _ _ from r)
    rfl
theorem cx_false {P : Program} {w : World} {outer : List Env} {H : Hp} {s s' : Shared} {e : Value} : L2.CX P w outer H s (fun _ _ _ => False) e s' → False := fun ⟨_, _, _, _, _, _, _, _, _, _, _, _, h⟩ => h
theorem funD_uniq {K : PySem.W.Frag} {x q : Str} {a : Arguments} {b : List Stmt} {sc : Scope} {f : Addr} {fd fd' : FuncData} (F : FunD K x q a b sc [] [] f fd) (F' : FunD K x q a b sc [] [] f fd') : fd' = fd := by
  obtain ⟨_, _, _, _, _, _, _, _, _, _, _, l1, _⟩ := F.ex
  obtain ⟨_, _, _, _, _, _, _, _, _, _, _, l2, _⟩ := F'.ex
  rw [l1] at l2
  cases l2
  rfl
/-- a law's end, over the layer -/
theorem walk_ofD {l : PySem.W.OpenLaw} {n k : Nat} {q : Program} {loose : List Str} {XP : (Str → Option Value) → Heap → Prop} {YP : World → Heap → Prop} {d : DefRec} {st : Stmt} {x : Str} {F : List Wv → M Wv}
    (hn : l.most = some n) (hn2 : n ≤ sizeLine) (hdf : d.params.defaults = []) (hr : Room k callerA)
    (hF : ∀ (w : World) (mg : Str → Option Value) (h : Heap), YP w h → h.Ns mainGlobals mg →
      ∃ K : PySem.W.Frag, K.In h ∧ (∀ (kV doc pm : Value) (an : Option Addr) (cdv ct : Value) (us : List Value), us.length = 1 → bindArgs (PySem.W.fnOf d.name d.name (defArgs st) (defBody st) (defScope st) .none kV doc pm an cdv ct) ⟨us, []⟩ = pure ([x].zip us)) ∧
        ∀ base : Heap, FnD l.prog w ⟨K, mg⟩ base k d.name st [x] F)
    (law : ∀ ns : List Int, ns.length ≤ n → ∃ S', F [.scr (ns.map PyData.int)] [] = some (.ok (.d (.bool true)), S')) :
    PySem.W.WalkO q loose XP YP l.row.toRowW d [] (fun f vs => PySem.call f vs) := by
  refine Att.attach_call hn hdf fun w s₀ s₁ mg mb fa o pm cd doc a vs ns G Y ho hd hcd hmg hobj hints hlen hg => ?_
  obtain ⟨K, KX, hb, hF⟩ := hF w mg _ Y G.T.g
  obtain ⟨f1, fd, hm, hfun, _, _⟩ := hF s₁.heap
  have e := hmg.symm.trans hm
  cases e
  have b := FunD.bindsA (ps := [x]) hfun hb
  refine law_call (sp := spD ⟨K, mg⟩ 1 F) (CX := L2.CX l.prog w) (k := k) KX G.T.g G.T.b G.T.builtins G.T.nolimit hg hobj hints (Nat.le_trans hlen hn2) hr (fun base h1 h2 => ?_) (fun s u => b s [u] rfl) (fun H hO hS => spLaw_of (G := ⟨K, mg⟩) hO hS (law ns hlen)) fun H e s' => cx_false
  obtain ⟨f2, fd2, hm2, hfun2, _, ok⟩ := hF base
  have e2 := hmg.symm.trans hm2
  cases e2
  cases funD_uniq hfun hfun2
  exact ok
end Bq
set_option Elab.async false
set_option linter.all false
set_option maxRecDepth 100000
set_option maxHeartbeats 2000000
/-! # Evaluating the data semantics -/
namespace Bq
open PySem L2
section
variable {α β : Type} {S S' : Sto} {env : Sl}
@[simp] theorem bnd_eq (m : M α) (k : α → M β) : M.bnd m k S = (match m S with | some (.ok a, S1) => k a S1 | some (.ex e, S1) => some (.ex e, S1) | none => none) := rfl
@[simp] theorem ret_ap (a : α) : M.ret a S = some (.ok a, S) := rfl
@[simp] theorem no_ap : (M.no : M α) S = none := rfl
@[simp] theorem retI_ap (i : Int) : retI i S = some (.ok (.d (.int i)), S) := rfl
@[simp] theorem retB_ap (i : Bool) : retB i S = some (.ok (.d (.bool i)), S) := rfl
@[simp] theorem retS_ap (i : Str) : retS i S = some (.ok (.d (.str i)), S) := rfl
@[simp] theorem retT_ap (i : List D) : retT i S = some (.ok (.d (.tuple i)), S) := rfl
@[simp] theorem retL_ap (i : List D) : retL i S = some (.ok (.d (.list i)), S) := rfl
@[simp] theorem eVar_eq (i : Nat) : eVar i env = (match env[i]? with | some (some w) => M.ret w | _ => M.no) := rfl
@[simp] theorem eC_eq (x : D) : eC x env = M.ret (.d x) := rfl
@[simp] theorem eBin_eq (g : Wv → Wv → M Wv) (a b : SE) : eBin g a b env = M.bnd (a env) fun x => M.bnd (b env) fun y => g x y := rfl
@[simp] theorem aNil_eq : aNil env = M.ret [] := rfl
@[simp] theorem aCons_eq (a : SE) (r : Sl → M (List Wv)) : aCons a r env = M.bnd (a env) fun x => M.bnd (r env) fun xs => M.ret (x :: xs) := rfl
@[simp] theorem eCall_eq (g : List Wv → M Wv) (a : Sl → M (List Wv)) : eCall g a env = M.bnd (a env) g := rfl
@[simp] theorem eIf_eq (c : Sl → M Bool) (a b : SE) : eIf c a b env = M.bnd (c env) fun k => if k = true then a env else b env := rfl
@[simp] theorem cNot_eq (c : Sl → M Bool) : cNot c env = M.bnd (c env) fun k => M.ret (!k) := rfl
@[simp] theorem cAnd_eq (c d : Sl → M Bool) : cAnd c d env = M.bnd (c env) fun k => if k = true then d env else M.ret false := rfl
@[simp] theorem cOr_eq (c d : Sl → M Bool) : cOr c d env = M.bnd (c env) fun k => if k = true then M.ret true else d env := rfl
@[simp] theorem toB_bool (b : Bool) : toB (.d (.bool b)) = M.ret b := rfl
@[simp] theorem cVal_eq (a : SE) : cVal a env = M.bnd (a env) toB := rfl
@[simp] theorem eAnd_eq (a b : SE) : eAnd a b env = M.bnd (a env) fun x => M.bnd (toB x) fun k => if k = true then b env else M.ret (.d (.bool false)) := rfl
@[simp] theorem eOr_eq (a b : SE) : eOr a b env = M.bnd (a env) fun x => M.bnd (toB x) fun k => if k = true then M.ret (.d (.bool true)) else b env := rfl
@[simp] theorem eNot_eq (a : SE) : eNot a env = M.bnd (a env) fun x => M.bnd (toB x) fun k => M.ret (.d (.bool (!k))) := rfl
@[simp] theorem eChain_eq (g g' : Wv → Wv → M Wv) (a b c : SE) : eChain g g' a b c env = M.bnd (a env) fun x => M.bnd (b env) fun y => M.bnd (g x y) fun z => M.bnd (toB z) fun k => if k = true then M.bnd (c env) fun u => g' y u else M.ret (.d (.bool false)) := rfl
@[simp] theorem eNeg_eq (a : SE) : eNeg a env = M.bnd (a env) fun x => match x with | .d (.int i) => retI (-i) | _ => M.no := rfl
@[simp] theorem op2I_eq (C : Int → Int → Bool) (g : Int → Int → D) (i j : Int) : op2I C g (.d (.int i)) (.d (.int j)) = if C i j = true then M.ret (.d (g i j)) else M.no := rfl
@[simp] theorem opAdd_I (i j : Int) : opAdd (.d (.int i)) (.d (.int j)) = retI (i + j) := rfl
@[simp] theorem opAdd_S (a b : Str) : opAdd (.d (.str a)) (.d (.str b)) = if a.length + b.length ≤ sizeLine then retS (a ++ b) else M.no := rfl
@[simp] theorem opAdd_T (a b : List D) : opAdd (.d (.tuple a)) (.d (.tuple b)) = if a.length + b.length ≤ sizeLine then retT (a ++ b) else M.no := rfl
@[simp] theorem opAdd_L (a b : List D) : opAdd (.d (.list a)) (.d (.list b)) = if a.length + b.length ≤ sizeLine then retL (a ++ b) else M.no := rfl
@[simp] theorem opEq_eq (a b : D) : opEq (.d a) (.d b) = if okEq a b = true then retB (PyData.eqv a b) else M.no := rfl
@[simp] theorem opNe_eq (a b : D) : opNe (.d a) (.d b) = if okEq a b = true then retB (!PyData.eqv a b) else M.no := rfl
@[simp] theorem okEq_S (a b : Str) : okEq (.str a) (.str b) = true := rfl
@[simp] theorem okEq_I (a b : Int) : okEq (.int a) (.int b) = true := rfl
@[simp] theorem okEq_B (a b : Bool) : okEq (.bool a) (.bool b) = true := rfl
@[simp] theorem eqv_S (a b : Str) : PyData.eqv (.str a) (.str b) = (a == b) := by simp only [PyData.eqv]
@[simp] theorem eqv_I (a b : Int) : PyData.eqv (.int a) (.int b) = (a == b) := by simp only [PyData.eqv]
@[simp] theorem eqv_B (a b : Bool) : PyData.eqv (.bool a) (.bool b) = (a == b) := by simp only [PyData.eqv]
@[simp] theorem opIs_non (x : Wv) : opIs x (.d .none) = retB (isNo x) := by unfold opIs; cases x with | d y => cases y <;> rfl | loc n => rfl | scr xs => rfl
@[simp] theorem opIsNot_non (x : Wv) : opIsNot x (.d .none) = retB (!isNo x) := by unfold opIsNot; cases x with | d y => cases y <;> rfl | loc n => rfl | scr xs => rfl
@[simp] theorem opIs_B (a b : Bool) : opIs (.d (.bool a)) (.d (.bool b)) = retB (decide (a = b)) := rfl
@[simp] theorem opIsNot_B (a b : Bool) : opIsNot (.d (.bool a)) (.d (.bool b)) = retB (!decide (a = b)) := rfl
@[simp] theorem isNo_non : isNo (.d .none) = true := rfl
@[simp] theorem isNo_int (i : Int) : isNo (.d (.int i)) = false := rfl
@[simp] theorem isNo_str (i : Str) : isNo (.d (.str i)) = false := rfl
@[simp] theorem isNo_bool (i : Bool) : isNo (.d (.bool i)) = false := rfl
@[simp] theorem isNo_tup (i : List D) : isNo (.d (.tuple i)) = false := rfl
@[simp] theorem isNo_lst (i : List D) : isNo (.d (.list i)) = false := rfl
@[simp] theorem f1_eq (g : Wv → M Wv) (w : Wv) : f1 g [w] = g w := rfl
@[simp] theorem max2_eq (i j : Int) : max2F [.d (.int i), .d (.int j)] = retI (if j > i then j else i) := rfl
@[simp] theorem min2_eq (i j : Int) : min2F [.d (.int i), .d (.int j)] = retI (if j < i then j else i) := rfl
@[simp] theorem abs_eq (i : Int) : absF [.d (.int i)] = retI (if i < 0 then -i else i) := rfl
@[simp] theorem lenW_str (x : Str) : lenW (.d (.str x)) S = if x.length ≤ sizeLine then some (.ok (.d (.int x.length)), S) else none := rfl
@[simp] theorem lenW_lst (x : List D) : lenW (.d (.list x)) S = some (.ok (.d (.int x.length)), S) := rfl
@[simp] theorem lenW_tup (x : List D) : lenW (.d (.tuple x)) S = some (.ok (.d (.int x.length)), S) := rfl
@[simp] theorem lenW_scr (x : List D) : lenW (.scr x) S = some (.ok (.d (.int x.length)), S) := rfl
@[simp] theorem lenW_loc (n : Nat) : lenW (.loc n) S = (match S[n]? with | some (.lst x) => some (.ok (.d (.int x.length)), S) | _ => none) := rfl
@[simp] theorem tupW_lst (x : List D) : tupW (.d (.list x)) S = some (.ok (.d (.tuple x)), S) := rfl
@[simp] theorem tupW_tup (x : List D) : tupW (.d (.tuple x)) S = some (.ok (.d (.tuple x)), S) := rfl
@[simp] theorem tupW_loc (n : Nat) : tupW (.loc n) S = (match S[n]? with | some (.lst x) => retT x S | _ => none) := rfl
@[simp] theorem intW_int (i : Int) : intW (.d (.int i)) = retI i := rfl
@[simp] theorem intW_bool (b : Bool) : intW (.d (.bool b)) = retI (if b then 1 else 0) := rfl
@[simp] theorem strW_int (i : Int) : strW (.d (.int i)) = if i.natAbs.log2 < 1920 then retS (toString i) else M.no := rfl
@[simp] theorem eIsi_eq (T : String) (a : SE) : eIsi T a env = M.bnd (a env) fun w S => match tyName S w with | some t => some (.ok (.d (.bool (isiB t T))), S) | none => none := rfl
@[simp] theorem ty_non : tyName S (.d .none) = some "NoneType" := rfl
@[simp] theorem ty_bool (b : Bool) : tyName S (.d (.bool b)) = some "bool" := rfl
@[simp] theorem ty_int (b : Int) : tyName S (.d (.int b)) = some "int" := rfl
@[simp] theorem ty_str (b : Str) : tyName S (.d (.str b)) = some "str" := rfl
@[simp] theorem ty_list (b : List D) : tyName S (.d (.list b)) = some "list" := rfl
@[simp] theorem ty_tup (b : List D) : tyName S (.d (.tuple b)) = some "tuple" := rfl
@[simp] theorem asDs_nil : asDs [] = some [] := rfl
@[simp] theorem asDs_cons (x : D) (r : List Wv) : asDs (.d x :: r) = (match asDs r with | some xs => some (x :: xs) | none => none) := rfl
@[simp] theorem mkT_ap (ws : List Wv) : mkT ws S = (match asDs ws with | some ds => if ds.length ≤ sizeLine then retT ds S else none | none => none) := by
  unfold mkT
  cases asDs ws with
  | none => rfl
  | some ds =>
    dsimp only
    split <;> rfl
@[simp] theorem mkL_ap (ws : List Wv) : mkL ws S = (match asDs ws with | some ds => if ds.length ≤ sizeLine then retL ds S else none | none => none) := by
  unfold mkL
  cases asDs ws with
  | none => rfl
  | some ds =>
    dsimp only
    split <;> rfl
@[simp] theorem mkM_ap (ws : List Wv) : mkM ws S = (match asDs ws with | some ds => if ds.length ≤ sizeLine then some (.ok (.loc S.length), S ++ [.lst ds]) else none | none => none) := by
  unfold mkM
  cases asDs ws with
  | none => rfl
  | some ds => rfl
@[simp] theorem mkDict_ap : mkDict env S = some (.ok (.loc S.length), S ++ [.dK []]) := rfl
@[simp] theorem oNone_eq : oNone env = M.ret none := rfl
@[simp] theorem oSome_eq (a : SE) : oSome a env = M.bnd (a env) fun w => match w with | .d (.int i) => M.ret (some i) | _ => M.no := rfl
@[simp] theorem eSl_eq (a : SE) (l h : Sl → M (Option Int)) : eSl a l h env = M.bnd (a env) fun x => M.bnd (l env) fun lo => M.bnd (h env) fun hi => slW x lo hi := rfl
@[simp] theorem slW_tup (xs : List D) (lo hi : Option Int) : slW (.d (.tuple xs)) lo hi = retT (cutD xs lo hi) := rfl
@[simp] theorem slW_lst (xs : List D) (lo hi : Option Int) : slW (.d (.list xs)) lo hi = retL (cutD xs lo hi) := rfl
@[simp] theorem slW_str (z : Str) (lo hi : Option Int) : slW (.d (.str z)) lo hi = if z.length ≤ sizeLine then retS (cutS z lo hi) else M.no := rfl
@[simp] theorem ixW_tup (xs : List D) (i : Int) : ixW (.d (.tuple xs)) (.d (.int i)) S = (match atI xs i with | some d => some (.ok (.d d), S) | none => none) := rfl
@[simp] theorem ixW_lst (xs : List D) (i : Int) : ixW (.d (.list xs)) (.d (.int i)) S = (match atI xs i with | some d => some (.ok (.d d), S) | none => none) := rfl
@[simp] theorem ixW_scr (xs : List D) (i : Int) : ixW (.scr xs) (.d (.int i)) S = (match atI xs i with | some d => some (.ok (.d d), S) | none => none) := rfl
@[simp] theorem ixW_str (z : Str) (i : Int) : ixW (.d (.str z)) (.d (.int i)) S = if z.length ≤ sizeLine then (match atI z.cps.toList i with | some c => some (.ok (.d (.str ⟨#[c]⟩)), S) | none => none) else none := rfl
@[simp] theorem ixW_loc (n : Nat) (i : Int) : ixW (.loc n) (.d (.int i)) S = (match S[n]? with | some (.lst xs) => (match atI xs i with | some d => some (.ok (.d d), S) | none => none) | _ => none) := rfl
@[simp] theorem eM1_eq (g : Str → Wv → M Wv) (a b : SE) : eM1 g a b env = M.bnd (a env) fun x => match x with | .d (.str s) => M.bnd (b env) fun y => g s y | _ => M.no := rfl
@[simp] theorem splitS_eq (a b : Str) : splitS a (.d (.str b)) = if (b.length == 0) = false ∧ a.length + 2 ≤ sizeLine then retL ((Txt.split a b).map PyData.str) else M.no := rfl
@[simp] theorem partS_eq (a b : Str) : partS a (.d (.str b)) = if (b.length == 0) = false ∧ a.length ≤ sizeLine then retT [.str (Txt.partition a b).1, .str (Txt.partition a b).2.1, .str (Txt.partition a b).2.2] else M.no := rfl
@[simp] theorem startsS_eq (a b : Str) : startsS a (.d (.str b)) = retB (Txt.startswith a b) := rfl
@[simp] theorem joinS_eq (a : Str) (xs : List D) : joinS a (.d (.list xs)) = (match strsOf xs with | some ys => if (ys.map (·.length)).sum + ys.length * a.length ≤ 16777216 then retS (Txt.join a ys) else M.no | none => M.no) := rfl
@[simp] theorem strsOf_map (ys : List Str) : strsOf (ys.map PyData.str) = some ys := by
  induction ys with
  | nil => rfl
  | cons y ys ih => show (strsOf (ys.map PyData.str)).map (y :: ·) = _; rw [ih]; rfl
theorem blsOf_map (ys : List Bool) : blsOf (ys.map PyData.bool) = some ys := by
  induction ys with
  | nil => rfl
  | cons y ys ih => show (blsOf (ys.map PyData.bool)).map (y :: ·) = _; rw [ih]; rfl
theorem allW_map (ys : List Bool) : allW (.d (.list (ys.map PyData.bool))) = retB (ys.all id) := by
  show (match blsOf (ys.map PyData.bool) with | some bs => retB (bs.all id) | none => M.no) = _
  rw [blsOf_map]
/-- all of a list that is true everywhere -/
theorem allW_true {ds : List D} (h : ∀ d ∈ ds, d = .bool true) : allW (.d (.list ds)) S = some (.ok (.d (.bool true)), S) := by
  have e : ds = (List.replicate ds.length true).map PyData.bool := by
    rw [List.map_replicate]
    exact List.eq_replicate_iff.mpr ⟨rfl, h⟩
  rw [e, allW_map]
  simp
@[simp] theorem eJoined_eq (fs : List SE) : eJoined fs env = jsE fs Str.empty env := rfl
@[simp] theorem jsE_nil (acc : Str) : jsE [] acc env = retS acc := rfl
@[simp] theorem jsE_cons (f : SE) (fs : List SE) (acc : Str) : jsE (f :: fs) acc env = M.bnd (f env) fun x => M.bnd (asStr x) fun y => fun S => if (acc ++ y).length ≤ sizeLine then jsE fs (acc ++ y) env S else none := rfl
@[simp] theorem asStr_str (y : Str) : asStr (.d (.str y)) = M.ret y := rfl
@[simp] theorem sE_eq (f : Sl → M α) (k : α → SS) : sE f k env S = (match f env S with | some (.ok a, S1) => k a env S1 | some (.ex e, S1) => some (.ex e, env, S1) | none => none) := rfl
@[simp] theorem sNil_eq : sNil env S = some (.nx, env, S) := rfl
@[simp] theorem sSeq_eq (s t : SS) : sSeq s t env S = (match s env S with | some (.nx, e1, S1) => t e1 S1 | r => r) := rfl
@[simp] theorem sRet_eq (f : SE) : sRet f env S = sE f (fun w env S => some (.rt w, env, S)) env S := rfl
@[simp] theorem sRetN_eq : sRetN env S = some (.rt (.d .none), env, S) := rfl
@[simp] theorem sDrop_eq (f : SE) : sDrop f env S = sE f (fun _ env S => some (.nx, env, S)) env S := rfl
@[simp] theorem sIf_eq (c : Sl → M Bool) (s t : SS) : sIf c s t env S = sE c (fun b => if b = true then s else t) env S := rfl
@[simp] theorem sSet_eq (i : Nat) (f : SE) : sSet i f env S = sE f (fun w env S => some (.nx, env.set i (some w), S)) env S := rfl
@[simp] theorem sAsg_eq (g : Wv → Sl → Option Sl) (f : SE) : sAsg g f env S = sE f (fun w env S => match g w env with | some e1 => some (.nx, e1, S) | none => none) env S := rfl
@[simp] theorem sPar_eq (i j : Nat) (a : Sl → M (List Wv)) : sPar i j a env S = sE a (fun ws env S => match ws with | [x, y] => some (.nx, (env.set i (some x)).set j (some y), S) | _ => none) env S := rfl
@[simp] theorem gN_eq (i : Nat) (w : Wv) : gN i w env = some (env.set i (some w)) := rfl
@[simp] theorem iSeq_eq (f : SE) : iSeq f env = M.bnd (f env) fun w => match w with | .d (.list xs) => M.ret xs | _ => M.no := rfl
@[simp] theorem iTupl_eq (f : SE) : iTupl f env = M.bnd (f env) fun w => match w with | .d (.tuple xs) => M.ret xs | _ => M.no := rfl
@[simp] theorem iChars_eq (f : SE) : iChars f env = M.bnd (f env) fun w => match w with | .d (.str x) => M.ret (chars x) | _ => M.no := rfl
@[simp] theorem iRange1_eq (a : Sl → M (List Wv)) : iRange1 a env = M.bnd (a env) fun ws => match ws with | [.d (.int j)] => if -(2 ^ 62) ≤ j ∧ j < 2 ^ 62 then M.ret (rangeD 0 j.toNat) else M.no | _ => M.no := rfl
@[simp] theorem iZip_eq (a : Sl → M (List Wv)) : iZip a env = M.bnd (a env) fun ws => match ws with | [x, y] => (match seqOf x, seqOf y with | some xs, some ys => M.ret (zipD xs ys) | _, _ => M.no) | _ => M.no := rfl
@[simp] theorem seqOf_lst (xs : List D) : seqOf (.d (.list xs)) = some xs := rfl
@[simp] theorem seqOf_tup (xs : List D) : seqOf (.d (.tuple xs)) = some xs := rfl
@[simp] theorem eLc_eq (fi : SI) (g : SG) (c : Sl → M Bool) (f : SE) (own : List Nat) : eLc fi g c f own env = M.bnd (fi env) fun items => M.bnd (lcGo g c f (wipeS env own) items []) fun ys => M.ret (.d (.list ys)) := rfl
@[simp] theorem cYes_eq : cYes env = M.ret true := rfl
@[simp] theorem wipeS_nil : wipeS env [] = env := rfl
@[simp] theorem wipeS_cons (v : Nat) (vs : List Nat) : wipeS env (v :: vs) = (wipeS env vs).set v none := rfl
@[simp] theorem gT_eq (n : Nat) (g : SGs) (ds : List D) : gT n g (.d (.tuple ds)) env = if ds.length = n then g ds env else none := rfl
@[simp] theorem gsNil_eq : gsNil [] env = some env := rfl
@[simp] theorem gsCons_eq (g : SG) (r : SGs) (d : D) (ds : List D) : gsCons g r (d :: ds) env = (match g (.d d) env with | some e1 => r ds e1 | none => none) := rfl
@[simp] theorem eCallK_eq (F : List Wv → M Wv) (g : List Wv → List Wv → List Wv) (a b : Sl → M (List Wv)) : eCallK F g a b env = M.bnd (a env) fun ws => M.bnd (b env) fun zs => F (g ws zs) := rfl
theorem fnS_eq (kp : Bool) (N n : Nat) (s : SS) (ws : List Wv) : fnS kp N n s ws S = if ws.length = n then (match s (ws.map some ++ List.replicate (N - n) none) S with | some (o, _, S') => retOut kp S.length o S' | none => none) else none := rfl
@[simp] theorem retOut_d (kp : Bool) (n : Nat) (x : D) : retOut kp n (.rt (.d x)) S = some (.ok (.d x), S.take n) := rfl
@[simp] theorem retOut_nx (kp : Bool) (n : Nat) : retOut kp n .nx S = some (.ok (.d .none), S.take n) := rfl
@[simp] theorem isiB_eq (t T : String) : isiB t T = (t == T || (t == "bool" && T == "int")) := rfl
/-- a def that gives data and leaves the store -/
theorem fnS_ret {kp : Bool} {N n : Nat} {s : SS} {ws : List Wv} {x : D} {env' : Sl} (hl : ws.length = n) (h : s (ws.map some ++ List.replicate (N - n) none) S = some (.rt (.d x), env', S)) : fnS kp N n s ws S = some (.ok (.d x), S) := by
  unfold fnS
  rw [if_pos hl, h]
  show some (Rs.ok (Wv.d x), S.take S.length) = _
  rw [List.take_length]
theorem fnS_ret' {kp : Bool} {N n : Nat} {s : SS} {ws : List Wv} {x : D} {env' : Sl} {S1 : Sto} (hl : ws.length = n) (h : s (ws.map some ++ List.replicate (N - n) none) S = some (.rt (.d x), env', S1)) : fnS kp N n s ws S = some (.ok (.d x), S1.take S.length) := by
  unfold fnS
  rw [if_pos hl, h]
  rfl
theorem fnS_nx {kp : Bool} {N n : Nat} {s : SS} {ws : List Wv} {env' : Sl} (hl : ws.length = n) (h : s (ws.map some ++ List.replicate (N - n) none) S = some (.nx, env', S)) : fnS kp N n s ws S = some (.ok (.d .none), S) := by
  unfold fnS
  rw [if_pos hl, h]
  show some (Rs.ok (Wv.d .none), S.take S.length) = _
  rw [List.take_length]
/-- a comprehension that leaves the store -/
theorem lcGo_map {g : SG} {f : SE} {h : D → D} : ∀ {items acc : List D}, (∀ x ∈ items, ∃ e1, g (.d x) env = some e1 ∧ f e1 S = some (.ok (.d (h x)), S)) → acc.length + items.length ≤ sizeLine →
    lcGo g cYes f env items acc S = some (.ok (acc ++ items.map h), S)
  | [], acc, _, _ => by show some (Rs.ok acc, S) = _; rw [List.map_nil, List.append_nil]
  | x :: xs, acc, hx, hl => by
    obtain ⟨e1, h1, h2⟩ := hx x List.mem_cons_self
    have hl' : acc.length + (xs.length + 1) ≤ sizeLine := hl
    have step : lcGo g cYes f env (x :: xs) acc S = lcGo g cYes f env xs (acc ++ [h x]) S := by
      show (match g (.d x) env with | none => none | some e1 => match cYes e1 S with
        | some (.ok true, S1) => (match f e1 S1 with
          | some (.ok (.d y), S2) => if acc.length < sizeLine then lcGo g cYes f env xs (acc ++ [y]) S2 else none
          | _ => none)
        | some (.ok false, S1) => lcGo g cYes f env xs acc S1
        | _ => none) = _
      rw [h1]
      show (match f e1 S with
          | some (.ok (.d y), S2) => if acc.length < sizeLine then lcGo g cYes f env xs (acc ++ [y]) S2 else none
          | _ => none) = _
      rw [h2]
      show (if acc.length < sizeLine then lcGo g cYes f env xs (acc ++ [h x]) S else none) = _
      rw [if_pos (by omega)]
    rw [step, lcGo_map (fun y hy => hx y (List.mem_cons_of_mem _ hy)) (by rw [List.length_append]; simp; omega)]
    simp
/-- a comprehension that keeps an invariant of what is made and of the store -/
theorem lcGo_inv {g : SG} {f : SE} (I : Nat → List D → Sto → Prop) : ∀ {items acc : List D} {k : Nat} {S : Sto}, (∀ x acc k S, I k acc S → ∃ e1, g (.d x) env = some e1 ∧ ∃ y S2, f e1 S = some (.ok (.d y), S2) ∧ I (k + 1) (acc ++ [y]) S2) →
    I k acc S → acc.length + items.length ≤ sizeLine → ∃ ys S', lcGo g cYes f env items acc S = some (.ok ys, S') ∧ I (k + items.length) ys S'
  | [], acc, k, S, _, hi, _ => ⟨acc, S, rfl, hi⟩
  | x :: xs, acc, k, S, hx, hi, hl => by
    obtain ⟨e1, h1, y, S2, h2, h3⟩ := hx x acc k S hi
    have hl' : acc.length + (xs.length + 1) ≤ sizeLine := hl
    have step : lcGo g cYes f env (x :: xs) acc S = lcGo g cYes f env xs (acc ++ [y]) S2 := by
      show (match g (.d x) env with | none => none | some e1 => match cYes e1 S with
        | some (.ok true, S1) => (match f e1 S1 with
          | some (.ok (.d y), S2) => if acc.length < sizeLine then lcGo g cYes f env xs (acc ++ [y]) S2 else none
          | _ => none)
        | some (.ok false, S1) => lcGo g cYes f env xs acc S1
        | _ => none) = _
      rw [h1]
      show (match f e1 S with
          | some (.ok (.d y), S2) => if acc.length < sizeLine then lcGo g cYes f env xs (acc ++ [y]) S2 else none
          | _ => none) = _
      rw [h2]
      show (if acc.length < sizeLine then lcGo g cYes f env xs (acc ++ [y]) S2 else none) = _
      rw [if_pos (by omega)]
    obtain ⟨ys, S', h4, h5⟩ := lcGo_inv I (items := xs) hx h3 (by rw [List.length_append]; simp; omega)
    exact ⟨ys, S', by rw [step, h4], by rw [show k + (x :: xs).length = k + 1 + xs.length from by simp; omega]; exact h5⟩
/-- a for that runs through -/
theorem forD_inv {g : SG} {b : SS} (I : List D → Sl → Sto → Prop) : ∀ {items : List D} {env : Sl} {S : Sto}, (∀ x rest env S, I (x :: rest) env S → ∃ e1, g (.d x) env = some e1 ∧ ∃ e2 S2, b e1 S = some (.nx, e2, S2) ∧ I rest e2 S2) →
    I items env S → ∃ env' S', forD g b items env S = some (.nx, env', S') ∧ I [] env' S'
  | [], env, S, _, hi => ⟨env, S, rfl, hi⟩
  | x :: xs, env, S, hx, hi => by
    obtain ⟨e1, h1, e2, S2, h2, h3⟩ := hx x xs env S hi
    obtain ⟨e', S', h4, h5⟩ := forD_inv I hx h3
    refine ⟨e', S', ?_, h5⟩
    show (match g (.d x) env with
      | none => none
      | some e1 => match b e1 S with
        | some (.nx, e2, S2) => forD g b xs e2 S2
        | some (.ct, e2, S2) => forD g b xs e2 S2
        | some (.bk, e2, S2) => some (.nx, e2, S2)
        | some (.rt w, e2, S2) => some (.rt w, e2, S2)
        | some (.ex z, e2, S2) => some (.ex z, e2, S2)
        | none => none) = _
    rw [h1]
    dsimp only
    rw [h2]
    exact h4
end
end Bq
set_option Elab.async false
set_option linter.all false
set_option maxRecDepth 100000
set_option maxHeartbeats 1000000
/-! # Texts: numbers, joins, pieces -/
namespace Bq
open PySem L2 TL
def num (n : Nat) : Str := Str.ofString (toString ((n : Nat) : Int))
theorem tl_numS (n : Nat) : tl (num n) = numL n := tl_num n
theorem num_len {n k : Nat} (hk : 0 < k) (h : n < 10 ^ k) : (num n).length ≤ k := by rw [len_tl, tl_numS]; exact numL_len hk h
theorem num_inj {m n : Nat} (h : num m = num n) : m = n := numL_inj (by rw [← tl_numS, ← tl_numS, h])
theorem numL_head {n c : Nat} {r : List Nat} (h : numL n = c :: r) (hc : c = 48) : n = 0 := by
  induction n using Nat.strongRecOn generalizing c r with
  | _ n ih =>
    by_cases h1 : n < 10
    · rw [numL_lt h1] at h
      injection h with h2 _
      omega
    · rw [numL_step (by omega)] at h
      cases e : numL (n / 10) with
      | nil => exact absurd e (numL_ne _)
      | cons d r' =>
        rw [e] at h
        injection h with h2 _
        have := ih (n / 10) (by omega) e (by omega)
        omega
theorem num_zero : num 0 = Str.ofString "0" := by decide +kernel
theorem log_lt {n k : Nat} (h : n < 2 ^ k) (hk : 0 < k) : n.log2 < k := by
  by_cases e : n = 0
  · subst e; simpa using hk
  · exact (Nat.log2_lt e).mpr h
theorem joinL_len (S : List Nat) : ∀ ps : List (List Nat), (joinL S ps).length ≤ (ps.map List.length).sum + ps.length * S.length
  | [] => Nat.zero_le _
  | [p] => by simp [joinL]
  | p :: q :: r => by
    have h := joinL_len S (q :: r)
    show (p ++ (S ++ joinL S (q :: r))).length ≤ _
    simp only [List.length_append, List.map_cons, List.sum_cons, List.length_cons] at h ⊢
    have e : (r.length + 1 + 1) * S.length = (r.length + 1) * S.length + S.length := by rw [Nat.add_mul, Nat.one_mul]
    omega
theorem join_len (y : Str) (ps : List Str) : (Txt.join y ps).length ≤ (ps.map (·.length)).sum + ps.length * y.length := by
  have h := joinL_len (tl y) (ps.map tl)
  rw [join_eq, len_tl, tl_join]
  have e : (ps.map tl).map List.length = ps.map (·.length) := by
    rw [List.map_map]
    exact List.map_congr_left fun p _ => (len_tl p).symm
  rw [e, List.length_map, ← len_tl y] at h
  exact h
theorem sum_le {l : List Str} {m : Nat} (h : ∀ p ∈ l, p.length ≤ m) : (l.map (·.length)).sum ≤ l.length * m := by
  induction l with
  | nil => simp
  | cons p l ih =>
    have h1 := h p List.mem_cons_self
    have h2 := ih fun q hq => h q (List.mem_cons_of_mem _ hq)
    simp only [List.map_cons, List.sum_cons, List.length_cons, Nat.add_mul, Nat.one_mul]
    omega
theorem join_le {y : Str} {ps : List Str} {m n k : Nat} (h : ∀ p ∈ ps, p.length ≤ m) (hn : ps.length ≤ n) (hk : n * (m + y.length) ≤ k) : (Txt.join y ps).length ≤ k ∧ (ps.map (·.length)).sum + ps.length * y.length ≤ k := by
  have h1 := join_len y ps
  have h2 := sum_le h
  have h3 : ps.length * m + ps.length * y.length ≤ n * (m + y.length) := by
    rw [← Nat.mul_add]
    exact Nat.mul_le_mul_right _ hn
  omega
theorem app_len (a b : Str) : (a ++ b).length = a.length + b.length := by rw [len_tl, tl_append, List.length_append, ← len_tl, ← len_tl]
theorem starts_app (y z : Str) : Txt.startswith (y ++ z) y = true := by
  have h : Builtin.Str.subAt (y ++ z) y 0 = true := by
    show ((y ++ z).cps.extract 0 (0 + y.length) == y.cps) = true
    rw [beq_iff_eq]
    show (y.cps ++ z.cps).extract 0 (0 + y.cps.size) = y.cps
    rw [Nat.zero_add]
    apply Array.ext'
    rw [Array.toList_extract, Array.toList_append]
    simp
  show (decide (0 + y.length ≤ (y ++ z).length) && Builtin.Str.subAt (y ++ z) y 0) = true
  rw [h, app_len]
  simp
theorem cutS_drop (y z : Str) : cutS (y ++ z) (some (y.length : Int)) none = z := by
  apply ext_tl
  show ((y ++ z).cps.toList.drop (HT.sIx (y ++ z).length 0 (some (y.length : Int)))).take (HT.sIx (y ++ z).length (y ++ z).length none - HT.sIx (y ++ z).length 0 (some (y.length : Int))) = tl z
  rw [HT.sIx_nat, HT.sIx_none, app_len, Nat.min_eq_left (by omega)]
  rw [show (y ++ z).cps.toList = tl y ++ tl z from tl_append y z, len_tl y, List.drop_left, show (tl y).length + z.length - (tl y).length = (tl z).length from by rw [len_tl z]; omega, List.take_length]
theorem cutD_tail (xs : List D) : cutD xs (some 1) none = xs.tail := by
  show (xs.drop (HT.sIx xs.length 0 (some ((1 : Nat) : Int)))).take (HT.sIx xs.length xs.length none - HT.sIx xs.length 0 (some ((1 : Nat) : Int))) = xs.tail
  rw [HT.sIx_nat, HT.sIx_none]
  cases xs with
  | nil => rfl
  | cons x xs =>
    rw [Nat.min_eq_left (by simp)]
    simp
theorem str_ne {a b : Str} (h : tl a ≠ tl b) : (a == b) = false := by
  rw [beq_eq_false_iff_ne]
  intro e
  exact h (by rw [e])
theorem tl_ne_of_len {a b : Str} (h : a.length ≠ b.length) : (a == b) = false := str_ne fun e => h (by rw [len_tl, len_tl, e])
theorem str_beq (a : Str) : (a == a) = true := beq_self_eq_true a
theorem lcGo_maps {α : Type} {S : Sto} {env : Sl} {g : SG} {f : SE} (a b : α → D) : ∀ {l : List α} {acc : List D}, (∀ x ∈ l, ∃ e1, g (.d (a x)) env = some e1 ∧ f e1 S = some (.ok (.d (b x)), S)) → acc.length + l.length ≤ sizeLine →
    lcGo g cYes f env (l.map a) acc S = some (.ok (acc ++ l.map b), S)
  | [], acc, _, _ => by show some (Rs.ok acc, S) = _; rw [List.map_nil, List.append_nil]
  | x :: xs, acc, hx, hl => by
    obtain ⟨e1, h1, h2⟩ := hx x List.mem_cons_self
    have hl' : acc.length + (xs.length + 1) ≤ sizeLine := hl
    have step : lcGo g cYes f env (a x :: xs.map a) acc S = lcGo g cYes f env (xs.map a) (acc ++ [b x]) S := by
      show (match g (.d (a x)) env with | none => none | some e1 => match cYes e1 S with
        | some (.ok true, S1) => (match f e1 S1 with
          | some (.ok (.d y), S2) => if acc.length < sizeLine then lcGo g cYes f env (xs.map a) (acc ++ [y]) S2 else none
          | _ => none)
        | some (.ok false, S1) => lcGo g cYes f env (xs.map a) acc S1
        | _ => none) = _
      rw [h1]
      show (match f e1 S with
          | some (.ok (.d y), S2) => if acc.length < sizeLine then lcGo g cYes f env (xs.map a) (acc ++ [y]) S2 else none
          | _ => none) = _
      rw [h2]
      show (if acc.length < sizeLine then lcGo g cYes f env (xs.map a) (acc ++ [b x]) S else none) = _
      rw [if_pos (by omega)]
    show lcGo g cYes f env (a x :: xs.map a) acc S = _
    rw [step, lcGo_maps a b (fun y hy => hx y (List.mem_cons_of_mem _ hy)) (by rw [List.length_append]; simp; omega)]
    simp
end Bq
set_option Elab.async false
set_option linter.all false
set_option maxRecDepth 100000
set_option maxHeartbeats 400000
namespace K50
open PySem L2 PyProof.Rows Bq
def top (i : Nat) : Stmt := PySem.Challenge.pw_bothreaders_k50_texts_written_and_read.main.body.getD i (.Pass ⟨0, 0, 0, 0⟩)
abbrev c_USES : D := (.tuple [(.str "keep"), (.str "check"), (.str "skip"), (.str "end"), (.str "stop")])
abbrev c_GREATEST_BASE : D := (.int 256)
abbrev c_WIDTHS : D := (.tuple [(.str "one"), (.str "high"), (.str "low")])
abbrev c_OTHERS : D := (.tuple [(.str "skip"), (.str "refuse")])
abbrev c_DIGITS : D := (.str "0123456789")
abbrev c_EMPTY : D := (.str "empty")
abbrev c_ANY : D := (.str "*")
abbrev c_PARTS : D := (.tuple [(.str "base"), (.str "head"), (.str "width"), (.str "most"), (.str "tags"), (.str "others")])
structure Tx (G : Gm) : Prop where
  free_abs : G.mg "abs" = none
  free_all : G.mg "all" = none
  free_bool : G.mg "bool" = none
  free_int : G.mg "int" = none
  free_isinstance : G.mg "isinstance" = none
  free_len : G.mg "len" = none
  free_list : G.mg "list" = none
  free_max : G.mg "max" = none
  free_min : G.mg "min" = none
  free_range : G.mg "range" = none
  free_str : G.mg "str" = none
  free_tuple : G.mg "tuple" = none
  free_zip : G.mg "zip" = none
  c_USES : GConst G "USES" c_USES
  c_GREATEST_BASE : GConst G "GREATEST_BASE" c_GREATEST_BASE
  c_WIDTHS : GConst G "WIDTHS" c_WIDTHS
  c_OTHERS : GConst G "OTHERS" c_OTHERS
  c_DIGITS : GConst G "DIGITS" c_DIGITS
  c_EMPTY : GConst G "EMPTY" c_EMPTY
  c_ANY : GConst G "ANY" c_ANY
  c_PARTS : GConst G "PARTS" c_PARTS
  d_is_integer : DefT G "is_integer" (top 19)
  d_is_at_least : DefT G "is_at_least" (top 20)
  d_is_sign : DefT G "is_sign" (top 21)
  d_is_signs : DefT G "is_signs" (top 22)
  d_is_word_of : DefT G "is_word_of" (top 23)
  d_is_tags : DefT G "is_tags" (top 24)
  d_is_head : DefT G "is_head" (top 25)
  d_is_format : DefT G "is_format" (top 26)
  d_is_file_of : DefT G "is_file_of" (top 27)
  d_check_format : DefT G "check_format" (top 28)
  d_check_file : DefT G "check_file" (top 29)
  d_number_in : DefT G "number_in" (top 35)
  d_signs_text : DefT G "signs_text" (top 36)
  d_signs_in : DefT G "signs_in" (top 37)
  d_mark_text : DefT G "mark_text" (top 38)
  d_part_text : DefT G "part_text" (top 39)
  d_format_text : DefT G "format_text" (top 40)
  d_mark_in : DefT G "mark_in" (top 41)
  d_tag_in : DefT G "tag_in" (top 42)
  d_value_in : DefT G "value_in" (top 43)
  d_format_in : DefT G "format_in" (top 44)
  d_show_format : DefT G "show_format" (top 45)
  d_parse_format : DefT G "parse_format" (top 46)
  d_show_file : DefT G "show_file" (top 47)
  d_parse_file : DefT G "parse_file" (top 48)
  d__law_bag : DefT G "_law_bag" (top 50)
  d__law_grab : DefT G "_law_grab" (top 51)
  d__law_equal : DefT G "_law_equal" (top 52)
  d__law_drawn_tags : DefT G "_law_drawn_tags" (top 53)
  d__law_drawn_form : DefT G "_law_drawn_form" (top 54)
  d__law_any_form : DefT G "_law_any_form" (top 55)
  d__law_form_line : DefT G "_law_form_line" (top 56)
  d__law_file_line : DefT G "_law_file_line" (top 57)
  d_law : DefT G "law" (top 58)
section
variable {P : Program} {w : World} {G : Gm} {base : Heap}
abbrev st_is_integer : Stmt := top 19
abbrev nN_is_integer : List Str := ["value"]
theorem sc_is_integer : FnScope ["value"] ["value"] (defScope st_is_integer) := ⟨rfl, rfl, rfl, by decide +kernel, rfl, by decide +kernel, by decide +kernel⟩
def F_is_integer : List Wv → M Wv := fnS false 1 1 (
  sRet (eAnd (eIsi "int" (eVar 0)) (eNot (eIsi "bool" (eVar 0)))))
theorem ok_is_integer (T : Tx G) : FnD P w G base 1 "is_integer" st_is_integer ["value"] F_is_integer := fnD_of false T.d_is_integer sc_is_integer (fun _ _ _ _ _ _ us hl => match us, hl with | [_], _ => rfl) fun f cdv A outer sh H E hr tk => by
    have S := sc_is_integer
    exact psd_one (psd_ret (pd_and (pd_isi (T := "int") (by decide) rfl T.free_isinstance (pe_ty T.free_int (by decide +kernel)) (pd_var 0)) (pd_one (pd_not (pd_isi (T := "bool") (by decide) rfl T.free_isinstance (pe_ty T.free_bool (by decide +kernel)) (pd_var 0))))))
abbrev st_is_at_least : Stmt := top 20
abbrev nN_is_at_least : List Str := ["value", "least"]
theorem sc_is_at_least : FnScope ["value", "least"] ["value", "least"] (defScope st_is_at_least) := ⟨rfl, rfl, rfl, by decide +kernel, rfl, by decide +kernel, by decide +kernel⟩
def F_is_at_least : List Wv → M Wv := fnS false 2 2 (
  sRet (eAnd (eCall F_is_integer (aCons (eVar 0) (aNil))) (eBin opGe (eVar 0) (eVar 1))))
theorem ok_is_at_least (T : Tx G) : FnD P w G base 2 "is_at_least" st_is_at_least ["value", "least"] F_is_at_least := fnD_of false T.d_is_at_least sc_is_at_least (fun _ _ _ _ _ _ us hl => match us, hl with | [_, _], _ => rfl) fun f cdv A outer sh H E hr tk => by
    have S := sc_is_at_least
    exact psd_one (psd_ret (pd_and (pd_call (FnD.mono (ok_is_integer T) (by decide)) hr tk rfl (pad_cons (pd_var 0) (pad_nil)) rfl (fl_cons (fl_nil))) (pd_one (pd_ge (pd_var 0) (pd_var 1)))))
abbrev st_is_sign : Stmt := top 21
abbrev nN_is_sign : List Str := ["base", "value"]
theorem sc_is_sign : FnScope ["base", "value"] ["base", "value"] (defScope st_is_sign) := ⟨rfl, rfl, rfl, by decide +kernel, rfl, by decide +kernel, by decide +kernel⟩
def F_is_sign : List Wv → M Wv := fnS false 2 2 (
  sRet (eAnd (eCall F_is_integer (aCons (eVar 1) (aNil))) (eChain opLe opLt (eC (.int 0)) (eVar 1) (eVar 0))))
theorem ok_is_sign (T : Tx G) : FnD P w G base 2 "is_sign" st_is_sign ["base", "value"] F_is_sign := fnD_of false T.d_is_sign sc_is_sign (fun _ _ _ _ _ _ us hl => match us, hl with | [_, _], _ => rfl) fun f cdv A outer sh H E hr tk => by
    have S := sc_is_sign
    exact psd_one (psd_ret (pd_and (pd_call (FnD.mono (ok_is_integer T) (by decide)) hr tk rfl (pad_cons (pd_var 1) (pad_nil)) rfl (fl_cons (fl_nil))) (pd_one (pd_chain op_le od_B0 op_lt od_B0 (pd_int) (pd_var 1) (pd_var 0)))))
abbrev st_is_signs : Stmt := top 22
abbrev nN_is_signs : List Str := ["base", "value", "sign"]
theorem sc_is_signs : FnScope ["base", "value", "sign"] ["base", "value"] (defScope st_is_signs) := ⟨rfl, rfl, rfl, by decide +kernel, rfl, by decide +kernel, by decide +kernel⟩
def F_is_signs : List Wv → M Wv := fnS false 3 2 (
  sRet (eAnd (eIsi "tuple" (eVar 1)) (eCall (f1 allW) (aCons (eLc (iTupl (eVar 1)) (gN 2) (cYes) (eCall F_is_sign (aCons (eVar 0) (aCons (eVar 2) (aNil)))) [2]) (aNil)))))
theorem ok_is_signs (T : Tx G) : FnD P w G base 3 "is_signs" st_is_signs ["base", "value"] F_is_signs := fnD_of false T.d_is_signs sc_is_signs (fun _ _ _ _ _ _ us hl => match us, hl with | [_, _], _ => rfl) fun f cdv A outer sh H E hr tk => by
    have S := sc_is_signs
    exact psd_one (psd_ret (pd_and (pd_isi (T := "tuple") (by decide) rfl T.free_isinstance (pe_ty T.free_tuple (by decide +kernel)) (pd_var 1)) (pd_one (pd_all rfl T.free_all (pad_cons (pd_lc (own := [("sign", 2)]) rfl S.nd (pid_tup (pd_var 1)) (blkOk_by (N := nN_is_signs) (sc := defScope st_is_signs) (own := [("sign", 2)]) (by decide +kernel)) (fun _ _ _ _ _ => pgd_name 2 S.nd) (fun _ _ _ _ _ => ptsd_nil) (fun _ _ _ _ _ => pd_call (FnD.mono (ok_is_sign T) (by decide)) hr takes0 rfl (pad_cons (pd_var 0) (pad_cons (pd_var 2) (pad_nil))) rfl (fl_cons (fl_cons (fl_nil))))) (pad_nil))))))
abbrev st_is_word_of : Stmt := top 23
abbrev nN_is_word_of : List Str := ["value", "words"]
theorem sc_is_word_of : FnScope ["value", "words"] ["value", "words"] (defScope st_is_word_of) := ⟨rfl, rfl, rfl, by decide +kernel, rfl, by decide +kernel, by decide +kernel⟩
def F_is_word_of : List Wv → M Wv := fnS false 2 2 (
  sRet (eAnd (eIsi "str" (eVar 0)) (eBin opIn (eVar 0) (eVar 1))))
theorem ok_is_word_of (T : Tx G) : FnD P w G base 1 "is_word_of" st_is_word_of ["value", "words"] F_is_word_of := fnD_of false T.d_is_word_of sc_is_word_of (fun _ _ _ _ _ _ us hl => match us, hl with | [_, _], _ => rfl) fun f cdv A outer sh H E hr tk => by
    have S := sc_is_word_of
    exact psd_one (psd_ret (pd_and (pd_isi (T := "str") (by decide) rfl T.free_isinstance (pe_ty T.free_str (by decide +kernel)) (pd_var 0)) (pd_one (pd_in (hu_room hr) (pd_var 0) (pd_var 1)))))
abbrev st_is_tags : Stmt := top 24
abbrev nN_is_tags : List Str := ["base", "value", "tag", "after"]
theorem sc_is_tags : FnScope ["base", "value", "tag", "after"] ["base", "value"] (defScope st_is_tags) := ⟨rfl, rfl, rfl, by decide +kernel, rfl, by decide +kernel, by decide +kernel⟩
def F_is_tags : List Wv → M Wv := fnS false 4 2 (
  sSeq (sIf (cNot (cVal (eIsi "tuple" (eVar 1)))) (sRet (eC (.bool false))) (sNil)) (
    sSeq (sFor (iTupl (eVar 1)) (gN 2) (sIf (cOr (cNot (cVal (eIsi "tuple" (eVar 2)))) (cOr (cVal (eBin opNe (eCall (f1 lenW) (aCons (eVar 2) (aNil))) (eC (.int 2)))) (cOr (cNot (cVal (eCall F_is_sign (aCons (eVar 0) (aCons (eBin ixW (eVar 2) (eC (.int 0))) (aNil)))))) (cNot (cVal (eCall F_is_word_of (aCons (eBin ixW (eVar 2) (eC (.int 1))) (aCons (eC c_USES) (aNil))))))))) (sRet (eC (.bool false))) (sNil))) (
    sRet (eCall (f1 allW) (aCons (eLc (iZip (aCons (eVar 1) (aCons (eSl (eVar 1) (oSome (eC (.int 1))) (oNone)) (aNil)))) (gT 2 (gsCons (gN 2) (gsCons (gN 3) (gsNil)))) (cYes) (eBin opLt (eBin ixW (eVar 2) (eC (.int 0))) (eBin ixW (eVar 3) (eC (.int 0)))) [2, 3]) (aNil))))))
theorem ok_is_tags (T : Tx G) : FnD P w G base 3 "is_tags" st_is_tags ["base", "value"] F_is_tags := fnD_of false T.d_is_tags sc_is_tags (fun _ _ _ _ _ _ us hl => match us, hl with | [_, _], _ => rfl) fun f cdv A outer sh H E hr tk => by
    have S := sc_is_tags
    exact psd_cons (psd_if (ptd_not (ptd_val (pd_isi (T := "tuple") (by decide) rfl T.free_isinstance (pe_ty T.free_tuple (by decide +kernel)) (pd_var 1)))) (psd_one (psd_ret (pd_bl))) (psd_nil))
      (psd_cons (psd_for (passes_of rfl) rfl (pid_tup (pd_var 1)) (pgd_name 2 S.nd) (psd_one (psd_if (pwd_pt (pwd_or (ptd_not (ptd_val (pd_isi (T := "tuple") (by decide) rfl T.free_isinstance (pe_ty T.free_tuple (by decide +kernel)) (pd_var 2)))) (pwd_or (ptd_ne (hu_room hr) (pd_len T.free_len (pad_cons (pd_var 2) (pad_nil))) (pd_int)) (pwd_or (ptd_not (ptd_val (pd_call (FnD.mono (ok_is_sign T) (by decide)) hr tk rfl (pad_cons (pd_var 0) (pad_cons (pd_ix (pd_var 2) (pd_int)) (pad_nil))) rfl (fl_cons (fl_cons (fl_nil)))))) (pwd_or1 (ptd_not (ptd_val (pd_call (FnD.mono (ok_is_word_of T) (by decide)) hr tk rfl (pad_cons (pd_ix (pd_var 2) (pd_int)) (pad_cons (pd_glob T.c_USES rfl) (pad_nil))) rfl (fl_cons (fl_cons (fl_nil))))))))))) (psd_one (psd_ret (pd_bl))) (psd_nil))))
      (psd_one (psd_ret (pd_all rfl T.free_all (pad_cons (pd_lc (own := [("tag", 2), ("after", 3)]) rfl S.nd (pid_zip rfl T.free_zip (pad_cons (pd_var 1) (pad_cons (pd_slice (pd_var 1) (pod_some (pd_int)) (pod_none)) (pad_nil)))) (blkOk_by (N := nN_is_tags) (sc := defScope st_is_tags) (own := [("tag", 2), ("after", 3)]) (by decide +kernel)) (fun _ _ _ _ _ => pgd_tup rfl (pgsd_cons (pgd_name 2 S.nd) (pgsd_cons (pgd_name 3 S.nd) (pgsd_nil)))) (fun _ _ _ _ _ => ptsd_nil) (fun _ _ _ _ _ => pd_lt (pd_ix (pd_var 2) (pd_int)) (pd_ix (pd_var 3) (pd_int)))) (pad_nil))))))
abbrev st_is_head : Stmt := top 25
abbrev nN_is_head : List Str := ["base", "value", "mark"]
theorem sc_is_head : FnScope ["base", "value", "mark"] ["base", "value"] (defScope st_is_head) := ⟨rfl, rfl, rfl, by decide +kernel, rfl, by decide +kernel, by decide +kernel⟩
def F_is_head : List Wv → M Wv := fnS false 3 2 (
  sRet (eAnd (eIsi "tuple" (eVar 1)) (eCall (f1 allW) (aCons (eLc (iTupl (eVar 1)) (gN 2) (cYes) (eOr (eBin opIs (eVar 2) (eC .none)) (eCall F_is_sign (aCons (eVar 0) (aCons (eVar 2) (aNil))))) [2]) (aNil)))))
theorem ok_is_head (T : Tx G) : FnD P w G base 3 "is_head" st_is_head ["base", "value"] F_is_head := fnD_of false T.d_is_head sc_is_head (fun _ _ _ _ _ _ us hl => match us, hl with | [_, _], _ => rfl) fun f cdv A outer sh H E hr tk => by
    have S := sc_is_head
    exact psd_one (psd_ret (pd_and (pd_isi (T := "tuple") (by decide) rfl T.free_isinstance (pe_ty T.free_tuple (by decide +kernel)) (pd_var 1)) (pd_one (pd_all rfl T.free_all (pad_cons (pd_lc (own := [("mark", 2)]) rfl S.nd (pid_tup (pd_var 1)) (blkOk_by (N := nN_is_head) (sc := defScope st_is_head) (own := [("mark", 2)]) (by decide +kernel)) (fun _ _ _ _ _ => pgd_name 2 S.nd) (fun _ _ _ _ _ => ptsd_nil) (fun _ _ _ _ _ => pd_or (pd_is (pd_var 2) (pd_non)) (pd_one (pd_call (FnD.mono (ok_is_sign T) (by decide)) hr takes0 rfl (pad_cons (pd_var 0) (pad_cons (pd_var 2) (pad_nil))) rfl (fl_cons (fl_cons (fl_nil))))))) (pad_nil))))))
abbrev st_is_format : Stmt := top 26
abbrev nN_is_format : List Str := ["value", "base", "head", "width", "most", "tags", "others"]
theorem sc_is_format : FnScope ["value", "base", "head", "width", "most", "tags", "others"] ["value"] (defScope st_is_format) := ⟨rfl, rfl, rfl, by decide +kernel, rfl, by decide +kernel, by decide +kernel⟩
def F_is_format : List Wv → M Wv := fnS false 7 1 (
  sSeq (sIf (cOr (cNot (cVal (eIsi "tuple" (eVar 0)))) (cVal (eBin opNe (eCall (f1 lenW) (aCons (eVar 0) (aNil))) (eC (.int 6))))) (sRet (eC (.bool false))) (sNil)) (
    sSeq (sAsg (gT 6 (gsCons (gN 1) (gsCons (gN 2) (gsCons (gN 3) (gsCons (gN 4) (gsCons (gN 5) (gsCons (gN 6) (gsNil)))))))) (eVar 0)) (
    sSeq (sIf (cOr (cNot (cVal (eCall F_is_at_least (aCons (eVar 1) (aCons (eC (.int 2)) (aNil)))))) (cOr (cVal (eBin opGt (eVar 1) (eC c_GREATEST_BASE))) (cNot (cVal (eCall F_is_head (aCons (eVar 1) (aCons (eVar 2) (aNil)))))))) (sRet (eC (.bool false))) (sNil)) (
    sSeq (sIf (cOr (cNot (cVal (eCall F_is_word_of (aCons (eVar 3) (aCons (eC c_WIDTHS) (aNil)))))) (cNot (cVal (eCall F_is_at_least (aCons (eVar 4) (aCons (eC (.int 0)) (aNil))))))) (sRet (eC (.bool false))) (sNil)) (
    sRet (eAnd (eCall F_is_tags (aCons (eVar 1) (aCons (eVar 5) (aNil)))) (eCall F_is_word_of (aCons (eVar 6) (aCons (eC c_OTHERS) (aNil))))))))))
theorem ok_is_format (T : Tx G) : FnD P w G base 4 "is_format" st_is_format ["value"] F_is_format := fnD_of false T.d_is_format sc_is_format (fun _ _ _ _ _ _ us hl => match us, hl with | [_], _ => rfl) fun f cdv A outer sh H E hr tk => by
    have S := sc_is_format
    exact psd_cons (psd_if (pwd_pt (pwd_or (ptd_not (ptd_val (pd_isi (T := "tuple") (by decide) rfl T.free_isinstance (pe_ty T.free_tuple (by decide +kernel)) (pd_var 0)))) (pwd_or1 (ptd_ne (hu_room hr) (pd_len T.free_len (pad_cons (pd_var 0) (pad_nil))) (pd_int))))) (psd_one (psd_ret (pd_bl))) (psd_nil))
      (psd_cons (psd_asg (pd_var 0) (pgd_tup rfl (pgsd_cons (pgd_name 1 S.nd) (pgsd_cons (pgd_name 2 S.nd) (pgsd_cons (pgd_name 3 S.nd) (pgsd_cons (pgd_name 4 S.nd) (pgsd_cons (pgd_name 5 S.nd) (pgsd_cons (pgd_name 6 S.nd) (pgsd_nil)))))))))
      (psd_cons (psd_if (pwd_pt (pwd_or (ptd_not (ptd_val (pd_call (FnD.mono (ok_is_at_least T) (by decide)) hr tk rfl (pad_cons (pd_var 1) (pad_cons (pd_int) (pad_nil))) rfl (fl_cons (fl_cons (fl_nil)))))) (pwd_or (ptd_gt (pd_var 1) (pd_glob T.c_GREATEST_BASE rfl)) (pwd_or1 (ptd_not (ptd_val (pd_call (FnD.mono (ok_is_head T) (by decide)) hr tk rfl (pad_cons (pd_var 1) (pad_cons (pd_var 2) (pad_nil))) rfl (fl_cons (fl_cons (fl_nil)))))))))) (psd_one (psd_ret (pd_bl))) (psd_nil))
      (psd_cons (psd_if (pwd_pt (pwd_or (ptd_not (ptd_val (pd_call (FnD.mono (ok_is_word_of T) (by decide)) hr tk rfl (pad_cons (pd_var 3) (pad_cons (pd_glob T.c_WIDTHS rfl) (pad_nil))) rfl (fl_cons (fl_cons (fl_nil)))))) (pwd_or1 (ptd_not (ptd_val (pd_call (FnD.mono (ok_is_at_least T) (by decide)) hr tk rfl (pad_cons (pd_var 4) (pad_cons (pd_int) (pad_nil))) rfl (fl_cons (fl_cons (fl_nil))))))))) (psd_one (psd_ret (pd_bl))) (psd_nil))
      (psd_one (psd_ret (pd_and (pd_call (FnD.mono (ok_is_tags T) (by decide)) hr tk rfl (pad_cons (pd_var 1) (pad_cons (pd_var 5) (pad_nil))) rfl (fl_cons (fl_cons (fl_nil)))) (pd_one (pd_call (FnD.mono (ok_is_word_of T) (by decide)) hr tk rfl (pad_cons (pd_var 6) (pad_cons (pd_glob T.c_OTHERS rfl) (pad_nil))) rfl (fl_cons (fl_cons (fl_nil)))))))))))
abbrev st_is_file_of : Stmt := top 27
abbrev nN_is_file_of : List Str := ["form", "value"]
theorem sc_is_file_of : FnScope ["form", "value"] ["form", "value"] (defScope st_is_file_of) := ⟨rfl, rfl, rfl, by decide +kernel, rfl, by decide +kernel, by decide +kernel⟩
def F_is_file_of : List Wv → M Wv := fnS false 2 2 (
  sRet (eCall F_is_signs (aCons (eBin ixW (eVar 0) (eC (.int 0))) (aCons (eVar 1) (aNil)))))
theorem ok_is_file_of (T : Tx G) : FnD P w G base 4 "is_file_of" st_is_file_of ["form", "value"] F_is_file_of := fnD_of false T.d_is_file_of sc_is_file_of (fun _ _ _ _ _ _ us hl => match us, hl with | [_, _], _ => rfl) fun f cdv A outer sh H E hr tk => by
    have S := sc_is_file_of
    exact psd_one (psd_ret (pd_call (FnD.mono (ok_is_signs T) (by decide)) hr tk rfl (pad_cons (pd_ix (pd_var 0) (pd_int)) (pad_cons (pd_var 1) (pad_nil))) rfl (fl_cons (fl_cons (fl_nil)))))
abbrev st_check_format : Stmt := top 28
abbrev nN_check_format : List Str := ["form"]
theorem sc_check_format : FnScope ["form"] ["form"] (defScope st_check_format) := ⟨rfl, rfl, rfl, by decide +kernel, rfl, by decide +kernel, by decide +kernel⟩
def F_check_format : List Wv → M Wv := fnS false 1 1 (
  sIf (cNot (cVal (eCall F_is_format (aCons (eVar 0) (aNil))))) (sNo) (sNil))
theorem ok_check_format (T : Tx G) : FnD P w G base 5 "check_format" st_check_format ["form"] F_check_format := fnD_of false T.d_check_format sc_check_format (fun _ _ _ _ _ _ us hl => match us, hl with | [_], _ => rfl) fun f cdv A outer sh H E hr tk => by
    have S := sc_check_format
    exact psd_one (psd_if (ptd_not (ptd_val (pd_call (FnD.mono (ok_is_format T) (by decide)) hr tk rfl (pad_cons (pd_var 0) (pad_nil)) rfl (fl_cons (fl_nil))))) (psd_one (psd_never)) (psd_nil))
abbrev st_check_file : Stmt := top 29
abbrev nN_check_file : List Str := ["form", "file"]
theorem sc_check_file : FnScope ["form", "file"] ["form", "file"] (defScope st_check_file) := ⟨rfl, rfl, rfl, by decide +kernel, rfl, by decide +kernel, by decide +kernel⟩
def F_check_file : List Wv → M Wv := fnS false 2 2 (
  sIf (cNot (cVal (eCall F_is_file_of (aCons (eVar 0) (aCons (eVar 1) (aNil)))))) (sNo) (sNil))
theorem ok_check_file (T : Tx G) : FnD P w G base 5 "check_file" st_check_file ["form", "file"] F_check_file := fnD_of false T.d_check_file sc_check_file (fun _ _ _ _ _ _ us hl => match us, hl with | [_, _], _ => rfl) fun f cdv A outer sh H E hr tk => by
    have S := sc_check_file
    exact psd_one (psd_if (ptd_not (ptd_val (pd_call (FnD.mono (ok_is_file_of T) (by decide)) hr tk rfl (pad_cons (pd_var 0) (pad_cons (pd_var 1) (pad_nil))) rfl (fl_cons (fl_cons (fl_nil)))))) (psd_one (psd_never)) (psd_nil))
abbrev st_number_in : Stmt := top 35
abbrev nN_number_in : List Str := ["word", "sign"]
theorem sc_number_in : FnScope ["word", "sign"] ["word"] (defScope st_number_in) := ⟨rfl, rfl, rfl, by decide +kernel, rfl, by decide +kernel, by decide +kernel⟩
def F_number_in : List Wv → M Wv := fnS false 2 1 (
  sSeq (sIf (cOr (cVal (eBin opEq (eVar 0) (eC (.str "")))) (cOr (cNot (cVal (eCall (f1 allW) (aCons (eLc (iChars (eVar 0)) (gN 1) (cYes) (eBin opIn (eVar 1) (eC c_DIGITS)) [1]) (aNil))))) (cAnd (cVal (eBin opEq (eBin ixW (eVar 0) (eC (.int 0))) (eC (.str "0")))) (cVal (eBin opNe (eVar 0) (eC (.str "0"))))))) (sRet (eC .none)) (sNil)) (
    sRet (eCall (f1 intW) (aCons (eVar 0) (aNil)))))
theorem ok_number_in (T : Tx G) : FnD P w G base 1 "number_in" st_number_in ["word"] F_number_in := fnD_of false T.d_number_in sc_number_in (fun _ _ _ _ _ _ us hl => match us, hl with | [_], _ => rfl) fun f cdv A outer sh H E hr tk => by
    have S := sc_number_in
    exact psd_cons (psd_if (pwd_pt (pwd_or (ptd_eq (hu_room hr) (pd_var 0) (pd_str)) (pwd_or (ptd_not (ptd_val (pd_all rfl T.free_all (pad_cons (pd_lc (own := [("sign", 1)]) rfl S.nd (pid_chars (pd_var 0)) (blkOk_by (N := nN_number_in) (sc := defScope st_number_in) (own := [("sign", 1)]) (by decide +kernel)) (fun _ _ _ _ _ => pgd_name 1 S.nd) (fun _ _ _ _ _ => ptsd_nil) (fun _ _ _ _ _ => pd_in (hu_room hr) (pd_var 1) (pd_glob T.c_DIGITS rfl))) (pad_nil))))) (pwd_or1 (pwd_pt (pwd_and (ptd_eq (hu_room hr) (pd_ix (pd_var 0) (pd_int)) (pd_str)) (pwd_and1 (ptd_ne (hu_room hr) (pd_var 0) (pd_str))))))))) (psd_one (psd_ret (pd_non))) (psd_nil))
      (psd_one (psd_ret (pd_intOf T.free_int (pad_cons (pd_var 0) (pad_nil)))))
abbrev st_signs_text : Stmt := top 36
abbrev nN_signs_text : List Str := ["signs", "sign"]
theorem sc_signs_text : FnScope ["signs", "sign"] ["signs"] (defScope st_signs_text) := ⟨rfl, rfl, rfl, by decide +kernel, rfl, by decide +kernel, by decide +kernel⟩
def F_signs_text : List Wv → M Wv := fnS false 2 1 (
  sRet (eIf (cVal (eBin opNe (eVar 0) (eCall mkT (aNil)))) (eM1 joinS (eC (.str " ")) (eLc (iTupl (eVar 0)) (gN 1) (cYes) (eCall (f1 strW) (aCons (eVar 1) (aNil))) [1])) (eC c_EMPTY)))
theorem ok_signs_text (T : Tx G) : FnD P w G base 1 "signs_text" st_signs_text ["signs"] F_signs_text := fnD_of false T.d_signs_text sc_signs_text (fun _ _ _ _ _ _ us hl => match us, hl with | [_], _ => rfl) fun f cdv A outer sh H E hr tk => by
    have S := sc_signs_text
    exact psd_one (psd_ret (pd_if (ptd_ne (hu_room hr) (pd_var 0) (pd_tup (pad_nil))) (pd_join (pd_str) (pd_lc (own := [("sign", 1)]) rfl S.nd (pid_tup (pd_var 0)) (blkOk_by (N := nN_signs_text) (sc := defScope st_signs_text) (own := [("sign", 1)]) (by decide +kernel)) (fun _ _ _ _ _ => pgd_name 1 S.nd) (fun _ _ _ _ _ => ptsd_nil) (fun _ _ _ _ _ => pd_strOf T.free_str (pad_cons (pd_var 1) (pad_nil))))) (pd_glob T.c_EMPTY rfl)))
abbrev st_signs_in : Stmt := top 37
abbrev nN_signs_in : List Str := ["text", "word"]
theorem sc_signs_in : FnScope ["text", "word"] ["text"] (defScope st_signs_in) := ⟨rfl, rfl, rfl, by decide +kernel, rfl, by decide +kernel, by decide +kernel⟩
def F_signs_in : List Wv → M Wv := fnS false 2 1 (
  sRet (eIf (cVal (eBin opEq (eVar 0) (eC c_EMPTY))) (eCall mkT (aNil)) (eCall (f1 tupW) (aCons (eLc (iSeq (eM1 splitS (eVar 0) (eC (.str " ")))) (gN 1) (cYes) (eCall F_number_in (aCons (eVar 1) (aNil))) [1]) (aNil)))))
theorem ok_signs_in (T : Tx G) : FnD P w G base 2 "signs_in" st_signs_in ["text"] F_signs_in := fnD_of false T.d_signs_in sc_signs_in (fun _ _ _ _ _ _ us hl => match us, hl with | [_], _ => rfl) fun f cdv A outer sh H E hr tk => by
    have S := sc_signs_in
    exact psd_one (psd_ret (pd_if (ptd_eq (hu_room hr) (pd_var 0) (pd_glob T.c_EMPTY rfl)) (pd_tup (pad_nil)) (pd_tuple T.free_tuple (pad_cons (pd_lc (own := [("word", 1)]) rfl S.nd (pid_list (pd_split (pd_var 0) (pd_str))) (blkOk_by (N := nN_signs_in) (sc := defScope st_signs_in) (own := [("word", 1)]) (by decide +kernel)) (fun _ _ _ _ _ => pgd_name 1 S.nd) (fun _ _ _ _ _ => ptsd_nil) (fun _ _ _ _ _ => pd_call (FnD.mono (ok_number_in T) (by decide)) hr takes0 rfl (pad_cons (pd_var 1) (pad_nil)) rfl (fl_cons (fl_nil)))) (pad_nil)))))
abbrev st_mark_text : Stmt := top 38
abbrev nN_mark_text : List Str := ["mark"]
theorem sc_mark_text : FnScope ["mark"] ["mark"] (defScope st_mark_text) := ⟨rfl, rfl, rfl, by decide +kernel, rfl, by decide +kernel, by decide +kernel⟩
def F_mark_text : List Wv → M Wv := fnS false 1 1 (
  sRet (eIf (cVal (eBin opIs (eVar 0) (eC .none))) (eC c_ANY) (eCall (f1 strW) (aCons (eVar 0) (aNil)))))
theorem ok_mark_text (T : Tx G) : FnD P w G base 1 "mark_text" st_mark_text ["mark"] F_mark_text := fnD_of false T.d_mark_text sc_mark_text (fun _ _ _ _ _ _ us hl => match us, hl with | [_], _ => rfl) fun f cdv A outer sh H E hr tk => by
    have S := sc_mark_text
    exact psd_one (psd_ret (pd_if (ptd_is (pd_var 0) (pd_non)) (pd_glob T.c_ANY rfl) (pd_strOf T.free_str (pad_cons (pd_var 0) (pad_nil)))))
abbrev st_part_text : Stmt := top 39
abbrev nN_part_text : List Str := ["word", "value"]
theorem sc_part_text : FnScope ["word", "value"] ["word", "value"] (defScope st_part_text) := ⟨rfl, rfl, rfl, by decide +kernel, rfl, by decide +kernel, by decide +kernel⟩
def F_part_text : List Wv → M Wv := fnS false 2 2 (
  sRet (eIf (cVal (eBin opNe (eVar 1) (eC (.str "")))) (eJoined [eFmt (eVar 0), eC (.str " "), eFmt (eVar 1)]) (eVar 0)))
theorem ok_part_text (T : Tx G) : FnD P w G base 1 "part_text" st_part_text ["word", "value"] F_part_text := fnD_of false T.d_part_text sc_part_text (fun _ _ _ _ _ _ us hl => match us, hl with | [_, _], _ => rfl) fun f cdv A outer sh H E hr tk => by
    have S := sc_part_text
    exact psd_one (psd_ret (pd_if (ptd_ne (hu_room hr) (pd_var 1) (pd_str)) (pd_joined (.cons (pd_fmt (pd_var 0)) (.cons (pd_str) (.cons (pd_fmt (pd_var 1)) (.nil))))) (pd_var 0)))
abbrev st_format_text : Stmt := top 40
abbrev nN_format_text : List Str := ["form", "base", "head", "width", "most", "tags", "others", "marks", "mark", "uses", "sign", "use", "values", "word", "value"]
theorem sc_format_text : FnScope ["form", "base", "head", "width", "most", "tags", "others", "marks", "mark", "uses", "sign", "use", "values", "word", "value"] ["form"] (defScope st_format_text) := ⟨rfl, rfl, rfl, by decide +kernel, rfl, by decide +kernel, by decide +kernel⟩
def F_format_text : List Wv → M Wv := fnS false 15 1 (
  sSeq (sAsg (gT 6 (gsCons (gN 1) (gsCons (gN 2) (gsCons (gN 3) (gsCons (gN 4) (gsCons (gN 5) (gsCons (gN 6) (gsNil)))))))) (eVar 0)) (
    sSeq (sSet 7 (eM1 joinS (eC (.str " ")) (eLc (iTupl (eVar 2)) (gN 8) (cYes) (eCall F_mark_text (aCons (eVar 8) (aNil))) [8]))) (
    sSeq (sSet 9 (eM1 joinS (eC (.str ", ")) (eLc (iTupl (eVar 5)) (gT 2 (gsCons (gN 10) (gsCons (gN 11) (gsNil)))) (cYes) (eJoined [eFmt (eVar 10), eC (.str " "), eFmt (eVar 11)]) [10, 11]))) (
    sSeq (sSet 12 (eCall mkT (aCons (eCall (f1 strW) (aCons (eVar 1) (aNil))) (aCons (eVar 7) (aCons (eVar 3) (aCons (eCall (f1 strW) (aCons (eVar 4) (aNil))) (aCons (eVar 9) (aCons (eVar 6) (aNil))))))))) (
    sRet (eM1 joinS (eC (.str "; ")) (eLc (iZip (aCons (eC c_PARTS) (aCons (eVar 12) (aNil)))) (gT 2 (gsCons (gN 13) (gsCons (gN 14) (gsNil)))) (cYes) (eCall F_part_text (aCons (eVar 13) (aCons (eVar 14) (aNil)))) [13, 14])))))))
theorem ok_format_text (T : Tx G) : FnD P w G base 2 "format_text" st_format_text ["form"] F_format_text := fnD_of false T.d_format_text sc_format_text (fun _ _ _ _ _ _ us hl => match us, hl with | [_], _ => rfl) fun f cdv A outer sh H E hr tk => by
    have S := sc_format_text
    exact psd_cons (psd_asg (pd_var 0) (pgd_tup rfl (pgsd_cons (pgd_name 1 S.nd) (pgsd_cons (pgd_name 2 S.nd) (pgsd_cons (pgd_name 3 S.nd) (pgsd_cons (pgd_name 4 S.nd) (pgsd_cons (pgd_name 5 S.nd) (pgsd_cons (pgd_name 6 S.nd) (pgsd_nil)))))))))
      (psd_cons (psd_set (i := 7) S.nd rfl (Or.inl rfl) (pd_join (pd_str) (pd_lc (own := [("mark", 8)]) rfl S.nd (pid_tup (pd_var 2)) (blkOk_by (N := nN_format_text) (sc := defScope st_format_text) (own := [("mark", 8)]) (by decide +kernel)) (fun _ _ _ _ _ => pgd_name 8 S.nd) (fun _ _ _ _ _ => ptsd_nil) (fun _ _ _ _ _ => pd_call (FnD.mono (ok_mark_text T) (by decide)) hr takes0 rfl (pad_cons (pd_var 8) (pad_nil)) rfl (fl_cons (fl_nil))))))
      (psd_cons (psd_set (i := 9) S.nd rfl (Or.inl rfl) (pd_join (pd_str) (pd_lc (own := [("sign", 10), ("use", 11)]) rfl S.nd (pid_tup (pd_var 5)) (blkOk_by (N := nN_format_text) (sc := defScope st_format_text) (own := [("sign", 10), ("use", 11)]) (by decide +kernel)) (fun _ _ _ _ _ => pgd_tup rfl (pgsd_cons (pgd_name 10 S.nd) (pgsd_cons (pgd_name 11 S.nd) (pgsd_nil)))) (fun _ _ _ _ _ => ptsd_nil) (fun _ _ _ _ _ => pd_joined (.cons (pd_fmt (pd_var 10)) (.cons (pd_str) (.cons (pd_fmt (pd_var 11)) (.nil))))))))
      (psd_cons (psd_set (i := 12) S.nd rfl (Or.inl rfl) (pd_tup (pad_cons (pd_strOf T.free_str (pad_cons (pd_var 1) (pad_nil))) (pad_cons (pd_var 7) (pad_cons (pd_var 3) (pad_cons (pd_strOf T.free_str (pad_cons (pd_var 4) (pad_nil))) (pad_cons (pd_var 9) (pad_cons (pd_var 6) (pad_nil)))))))))
      (psd_one (psd_ret (pd_join (pd_str) (pd_lc (own := [("word", 13), ("value", 14)]) rfl S.nd (pid_zip rfl T.free_zip (pad_cons (pd_glob T.c_PARTS rfl) (pad_cons (pd_var 12) (pad_nil)))) (blkOk_by (N := nN_format_text) (sc := defScope st_format_text) (own := [("word", 13), ("value", 14)]) (by decide +kernel)) (fun _ _ _ _ _ => pgd_tup rfl (pgsd_cons (pgd_name 13 S.nd) (pgsd_cons (pgd_name 14 S.nd) (pgsd_nil)))) (fun _ _ _ _ _ => ptsd_nil) (fun _ _ _ _ _ => pd_call (FnD.mono (ok_part_text T) (by decide)) hr takes0 rfl (pad_cons (pd_var 13) (pad_cons (pd_var 14) (pad_nil))) rfl (fl_cons (fl_cons (fl_nil)))))))))))
abbrev st_mark_in : Stmt := top 41
abbrev nN_mark_in : List Str := ["word", "found"]
theorem sc_mark_in : FnScope ["word", "found"] ["word"] (defScope st_mark_in) := ⟨rfl, rfl, rfl, by decide +kernel, rfl, by decide +kernel, by decide +kernel⟩
def F_mark_in : List Wv → M Wv := fnS false 2 1 (
  sSeq (sIf (cVal (eBin opEq (eVar 0) (eC c_ANY))) (sRet (eC .none)) (sNil)) (
    sSeq (sSet 1 (eCall F_number_in (aCons (eVar 0) (aNil)))) (
    sRet (eIf (cVal (eCall F_is_integer (aCons (eVar 1) (aNil)))) (eVar 1) (eNeg (eC (.int 1)))))))
theorem ok_mark_in (T : Tx G) : FnD P w G base 2 "mark_in" st_mark_in ["word"] F_mark_in := fnD_of false T.d_mark_in sc_mark_in (fun _ _ _ _ _ _ us hl => match us, hl with | [_], _ => rfl) fun f cdv A outer sh H E hr tk => by
    have S := sc_mark_in
    exact psd_cons (psd_if (ptd_eq (hu_room hr) (pd_var 0) (pd_glob T.c_ANY rfl)) (psd_one (psd_ret (pd_non))) (psd_nil))
      (psd_cons (psd_set (i := 1) S.nd rfl (Or.inl rfl) (pd_call (FnD.mono (ok_number_in T) (by decide)) hr tk rfl (pad_cons (pd_var 0) (pad_nil)) rfl (fl_cons (fl_nil))))
      (psd_one (psd_ret (pd_if (ptd_val (pd_call (FnD.mono (ok_is_integer T) (by decide)) hr tk rfl (pad_cons (pd_var 1) (pad_nil)) rfl (fl_cons (fl_nil)))) (pd_var 1) (pd_neg (pd_int))))))
abbrev st_tag_in : Stmt := top 42
abbrev nN_tag_in : List Str := ["part", "sign", "space", "use"]
theorem sc_tag_in : FnScope ["part", "sign", "space", "use"] ["part"] (defScope st_tag_in) := ⟨rfl, rfl, rfl, by decide +kernel, rfl, by decide +kernel, by decide +kernel⟩
def F_tag_in : List Wv → M Wv := fnS false 4 1 (
  sSeq (sAsg (gT 3 (gsCons (gN 1) (gsCons (gN 2) (gsCons (gN 3) (gsNil))))) (eM1 partS (eVar 0) (eC (.str " ")))) (
    sRet (eCall mkT (aCons (eCall F_number_in (aCons (eVar 1) (aNil))) (aCons (eVar 3) (aNil))))))
theorem ok_tag_in (T : Tx G) : FnD P w G base 2 "tag_in" st_tag_in ["part"] F_tag_in := fnD_of false T.d_tag_in sc_tag_in (fun _ _ _ _ _ _ us hl => match us, hl with | [_], _ => rfl) fun f cdv A outer sh H E hr tk => by
    have S := sc_tag_in
    exact psd_cons (psd_asg (pd_partition (pd_var 0) (pd_str)) (pgd_tup rfl (pgsd_cons (pgd_name 1 S.nd) (pgsd_cons (pgd_name 2 S.nd) (pgsd_cons (pgd_name 3 S.nd) (pgsd_nil))))))
      (psd_one (psd_ret (pd_tup (pad_cons (pd_call (FnD.mono (ok_number_in T) (by decide)) hr tk rfl (pad_cons (pd_var 1) (pad_nil)) rfl (fl_cons (fl_nil))) (pad_cons (pd_var 3) (pad_nil))))))
abbrev st_value_in : Stmt := top 43
abbrev nN_value_in : List Str := ["part", "word"]
theorem sc_value_in : FnScope ["part", "word"] ["part", "word"] (defScope st_value_in) := ⟨rfl, rfl, rfl, by decide +kernel, rfl, by decide +kernel, by decide +kernel⟩
def F_value_in : List Wv → M Wv := fnS false 2 2 (
  sSeq (sIf (cVal (eBin opEq (eVar 0) (eVar 1))) (sRet (eC (.str ""))) (sNil)) (
    sRet (eIf (cVal (eM1 startsS (eVar 0) (eBin opAdd (eVar 1) (eC (.str " "))))) (eSl (eVar 0) (oSome (eBin opAdd (eCall (f1 lenW) (aCons (eVar 1) (aNil))) (eC (.int 1)))) (oNone)) (eC .none))))
theorem ok_value_in (T : Tx G) : FnD P w G base 1 "value_in" st_value_in ["part", "word"] F_value_in := fnD_of false T.d_value_in sc_value_in (fun _ _ _ _ _ _ us hl => match us, hl with | [_, _], _ => rfl) fun f cdv A outer sh H E hr tk => by
    have S := sc_value_in
    exact psd_cons (psd_if (ptd_eq (hu_room hr) (pd_var 0) (pd_var 1)) (psd_one (psd_ret (pd_str))) (psd_nil))
      (psd_one (psd_ret (pd_if (ptd_val (pd_startswith (pd_var 0) (pd_add (pd_var 1) (pd_str)))) (pd_slice (pd_var 0) (pod_some (pd_add (pd_len T.free_len (pad_cons (pd_var 1) (pad_nil))) (pd_int))) (pod_none)) (pd_non))))
abbrev st_format_in : Stmt := top 44
abbrev nN_format_in : List Str := ["text", "parts", "values", "part", "word", "value", "base", "marks", "width", "most", "uses", "others", "head", "tags", "piece"]
theorem sc_format_in : FnScope ["text", "parts", "values", "part", "word", "value", "base", "marks", "width", "most", "uses", "others", "head", "tags", "piece"] ["text"] (defScope st_format_in) := ⟨rfl, rfl, rfl, by decide +kernel, rfl, by decide +kernel, by decide +kernel⟩
def F_format_in : List Wv → M Wv := fnS false 15 1 (
  sSeq (sSet 1 (eM1 splitS (eVar 0) (eC (.str "; ")))) (
    sSeq (sIf (cVal (eBin opNe (eCall (f1 lenW) (aCons (eVar 1) (aNil))) (eCall (f1 lenW) (aCons (eC c_PARTS) (aNil))))) (sRet (eC .none)) (sNil)) (
    sSeq (sSet 2 (eLc (iZip (aCons (eVar 1) (aCons (eC c_PARTS) (aNil)))) (gT 2 (gsCons (gN 3) (gsCons (gN 4) (gsNil)))) (cYes) (eCall F_value_in (aCons (eVar 3) (aCons (eVar 4) (aNil)))) [3, 4])) (
    sSeq (sIf (cNot (cVal (eCall (f1 allW) (aCons (eLc (iSeq (eVar 2)) (gN 5) (cYes) (eIsi "str" (eVar 5)) [5]) (aNil))))) (sRet (eC .none)) (sNil)) (
    sSeq (sAsg (gT 6 (gsCons (gN 6) (gsCons (gN 7) (gsCons (gN 8) (gsCons (gN 9) (gsCons (gN 10) (gsCons (gN 11) (gsNil)))))))) (eVar 2)) (
    sSeq (sSet 12 (eIf (cVal (eBin opNe (eVar 7) (eC (.str "")))) (eCall (f1 tupW) (aCons (eLc (iSeq (eM1 splitS (eVar 7) (eC (.str " ")))) (gN 4) (cYes) (eCall F_mark_in (aCons (eVar 4) (aNil))) [4]) (aNil))) (eCall mkT (aNil)))) (
    sSeq (sSet 13 (eIf (cVal (eBin opNe (eVar 10) (eC (.str "")))) (eCall (f1 tupW) (aCons (eLc (iSeq (eM1 splitS (eVar 10) (eC (.str ", ")))) (gN 14) (cYes) (eCall F_tag_in (aCons (eVar 14) (aNil))) [14]) (aNil))) (eCall mkT (aNil)))) (
    sRet (eCall mkT (aCons (eCall F_number_in (aCons (eVar 6) (aNil))) (aCons (eVar 12) (aCons (eVar 8) (aCons (eCall F_number_in (aCons (eVar 9) (aNil))) (aCons (eVar 13) (aCons (eVar 11) (aNil))))))))))))))))
theorem ok_format_in (T : Tx G) : FnD P w G base 3 "format_in" st_format_in ["text"] F_format_in := fnD_of false T.d_format_in sc_format_in (fun _ _ _ _ _ _ us hl => match us, hl with | [_], _ => rfl) fun f cdv A outer sh H E hr tk => by
    have S := sc_format_in
    exact psd_cons (psd_set (i := 1) S.nd rfl (Or.inl rfl) (pd_split (pd_var 0) (pd_str)))
      (psd_cons (psd_if (ptd_ne (hu_room hr) (pd_len T.free_len (pad_cons (pd_var 1) (pad_nil))) (pd_len T.free_len (pad_cons (pd_glob T.c_PARTS rfl) (pad_nil)))) (psd_one (psd_ret (pd_non))) (psd_nil))
      (psd_cons (psd_setLc (i := 2) (own := [("part", 3), ("word", 4)]) rfl S.nd rfl rfl rfl (pid_zip rfl T.free_zip (pad_cons (pd_var 1) (pad_cons (pd_glob T.c_PARTS rfl) (pad_nil)))) (blkOk_by (N := nN_format_in) (sc := defScope st_format_in) (own := [("part", 3), ("word", 4)]) (by decide +kernel)) (fun _ _ _ _ _ => pgd_tup rfl (pgsd_cons (pgd_name 3 S.nd) (pgsd_cons (pgd_name 4 S.nd) (pgsd_nil)))) (fun _ _ _ _ _ => ptsd_nil) (fun _ _ _ _ _ => pd_call (FnD.mono (ok_value_in T) (by decide)) hr takes0 rfl (pad_cons (pd_var 3) (pad_cons (pd_var 4) (pad_nil))) rfl (fl_cons (fl_cons (fl_nil)))))
      (psd_cons (psd_if (ptd_not (ptd_val (pd_all rfl T.free_all (pad_cons (pd_lc (own := [("value", 5)]) rfl S.nd (pid_list (pd_var 2)) (blkOk_by (N := nN_format_in) (sc := defScope st_format_in) (own := [("value", 5)]) (by decide +kernel)) (fun _ _ _ _ _ => pgd_name 5 S.nd) (fun _ _ _ _ _ => ptsd_nil) (fun _ _ _ _ _ => pd_isi (T := "str") (by decide) rfl T.free_isinstance (pe_ty T.free_str (by decide +kernel)) (pd_var 5))) (pad_nil))))) (psd_one (psd_ret (pd_non))) (psd_nil))
      (psd_cons (psd_asg (pd_var 2) (pgd_tup rfl (pgsd_cons (pgd_name 6 S.nd) (pgsd_cons (pgd_name 7 S.nd) (pgsd_cons (pgd_name 8 S.nd) (pgsd_cons (pgd_name 9 S.nd) (pgsd_cons (pgd_name 10 S.nd) (pgsd_cons (pgd_name 11 S.nd) (pgsd_nil)))))))))
      (psd_cons (psd_set (i := 12) S.nd rfl (Or.inl rfl) (pd_if (ptd_ne (hu_room hr) (pd_var 7) (pd_str)) (pd_tuple T.free_tuple (pad_cons (pd_lc (own := [("word", 4)]) rfl S.nd (pid_list (pd_split (pd_var 7) (pd_str))) (blkOk_by (N := nN_format_in) (sc := defScope st_format_in) (own := [("word", 4)]) (by decide +kernel)) (fun _ _ _ _ _ => pgd_name 4 S.nd) (fun _ _ _ _ _ => ptsd_nil) (fun _ _ _ _ _ => pd_call (FnD.mono (ok_mark_in T) (by decide)) hr takes0 rfl (pad_cons (pd_var 4) (pad_nil)) rfl (fl_cons (fl_nil)))) (pad_nil))) (pd_tup (pad_nil))))
      (psd_cons (psd_set (i := 13) S.nd rfl (Or.inl rfl) (pd_if (ptd_ne (hu_room hr) (pd_var 10) (pd_str)) (pd_tuple T.free_tuple (pad_cons (pd_lc (own := [("piece", 14)]) rfl S.nd (pid_list (pd_split (pd_var 10) (pd_str))) (blkOk_by (N := nN_format_in) (sc := defScope st_format_in) (own := [("piece", 14)]) (by decide +kernel)) (fun _ _ _ _ _ => pgd_name 14 S.nd) (fun _ _ _ _ _ => ptsd_nil) (fun _ _ _ _ _ => pd_call (FnD.mono (ok_tag_in T) (by decide)) hr takes0 rfl (pad_cons (pd_var 14) (pad_nil)) rfl (fl_cons (fl_nil)))) (pad_nil))) (pd_tup (pad_nil))))
      (psd_one (psd_ret (pd_tup (pad_cons (pd_call (FnD.mono (ok_number_in T) (by decide)) hr tk rfl (pad_cons (pd_var 6) (pad_nil)) rfl (fl_cons (fl_nil))) (pad_cons (pd_var 12) (pad_cons (pd_var 8) (pad_cons (pd_call (FnD.mono (ok_number_in T) (by decide)) hr tk rfl (pad_cons (pd_var 9) (pad_nil)) rfl (fl_cons (fl_nil))) (pad_cons (pd_var 13) (pad_cons (pd_var 11) (pad_nil))))))))))))))))
abbrev st_show_format : Stmt := top 45
abbrev nN_show_format : List Str := ["form"]
theorem sc_show_format : FnScope ["form"] ["form"] (defScope st_show_format) := ⟨rfl, rfl, rfl, by decide +kernel, rfl, by decide +kernel, by decide +kernel⟩
def F_show_format : List Wv → M Wv := fnS false 1 1 (
  sSeq (sDrop (eCall F_check_format (aCons (eVar 0) (aNil)))) (
    sRet (eCall F_format_text (aCons (eVar 0) (aNil)))))
theorem ok_show_format (T : Tx G) : FnD P w G base 6 "show_format" st_show_format ["form"] F_show_format := fnD_of false T.d_show_format sc_show_format (fun _ _ _ _ _ _ us hl => match us, hl with | [_], _ => rfl) fun f cdv A outer sh H E hr tk => by
    have S := sc_show_format
    exact psd_cons (psd_expr (pd_call (FnD.mono (ok_check_format T) (by decide)) hr tk rfl (pad_cons (pd_var 0) (pad_nil)) rfl (fl_cons (fl_nil))))
      (psd_one (psd_ret (pd_call (FnD.mono (ok_format_text T) (by decide)) hr tk rfl (pad_cons (pd_var 0) (pad_nil)) rfl (fl_cons (fl_nil)))))
abbrev st_parse_format : Stmt := top 46
abbrev nN_parse_format : List Str := ["text", "found"]
theorem sc_parse_format : FnScope ["text", "found"] ["text"] (defScope st_parse_format) := ⟨rfl, rfl, rfl, by decide +kernel, rfl, by decide +kernel, by decide +kernel⟩
def F_parse_format : List Wv → M Wv := fnS false 2 1 (
  sSeq (sIf (cNot (cVal (eIsi "str" (eVar 0)))) (sNo) (sNil)) (
    sSeq (sSet 1 (eCall F_format_in (aCons (eVar 0) (aNil)))) (
    sSeq (sIf (cOr (cNot (cVal (eCall F_is_format (aCons (eVar 1) (aNil))))) (cVal (eBin opNe (eCall F_format_text (aCons (eVar 1) (aNil))) (eVar 0)))) (sNo) (sNil)) (
    sRet (eVar 1)))))
theorem ok_parse_format (T : Tx G) : FnD P w G base 5 "parse_format" st_parse_format ["text"] F_parse_format := fnD_of false T.d_parse_format sc_parse_format (fun _ _ _ _ _ _ us hl => match us, hl with | [_], _ => rfl) fun f cdv A outer sh H E hr tk => by
    have S := sc_parse_format
    exact psd_cons (psd_if (ptd_not (ptd_val (pd_isi (T := "str") (by decide) rfl T.free_isinstance (pe_ty T.free_str (by decide +kernel)) (pd_var 0)))) (psd_one (psd_never)) (psd_nil))
      (psd_cons (psd_set (i := 1) S.nd rfl (Or.inl rfl) (pd_call (FnD.mono (ok_format_in T) (by decide)) hr tk rfl (pad_cons (pd_var 0) (pad_nil)) rfl (fl_cons (fl_nil))))
      (psd_cons (psd_if (pwd_pt (pwd_or (ptd_not (ptd_val (pd_call (FnD.mono (ok_is_format T) (by decide)) hr tk rfl (pad_cons (pd_var 1) (pad_nil)) rfl (fl_cons (fl_nil))))) (pwd_or1 (ptd_ne (hu_room hr) (pd_call (FnD.mono (ok_format_text T) (by decide)) hr tk rfl (pad_cons (pd_var 1) (pad_nil)) rfl (fl_cons (fl_nil))) (pd_var 0))))) (psd_one (psd_never)) (psd_nil))
      (psd_one (psd_ret (pd_var 1)))))
abbrev st_show_file : Stmt := top 47
abbrev nN_show_file : List Str := ["form", "file"]
theorem sc_show_file : FnScope ["form", "file"] ["form", "file"] (defScope st_show_file) := ⟨rfl, rfl, rfl, by decide +kernel, rfl, by decide +kernel, by decide +kernel⟩
def F_show_file : List Wv → M Wv := fnS false 2 2 (
  sSeq (sDrop (eCall F_check_format (aCons (eVar 0) (aNil)))) (
    sSeq (sDrop (eCall F_check_file (aCons (eVar 0) (aCons (eVar 1) (aNil))))) (
    sRet (eCall F_signs_text (aCons (eVar 1) (aNil))))))
theorem ok_show_file (T : Tx G) : FnD P w G base 6 "show_file" st_show_file ["form", "file"] F_show_file := fnD_of false T.d_show_file sc_show_file (fun _ _ _ _ _ _ us hl => match us, hl with | [_, _], _ => rfl) fun f cdv A outer sh H E hr tk => by
    have S := sc_show_file
    exact psd_cons (psd_expr (pd_call (FnD.mono (ok_check_format T) (by decide)) hr tk rfl (pad_cons (pd_var 0) (pad_nil)) rfl (fl_cons (fl_nil))))
      (psd_cons (psd_expr (pd_call (FnD.mono (ok_check_file T) (by decide)) hr tk rfl (pad_cons (pd_var 0) (pad_cons (pd_var 1) (pad_nil))) rfl (fl_cons (fl_cons (fl_nil)))))
      (psd_one (psd_ret (pd_call (FnD.mono (ok_signs_text T) (by decide)) hr tk rfl (pad_cons (pd_var 1) (pad_nil)) rfl (fl_cons (fl_nil))))))
abbrev st_parse_file : Stmt := top 48
abbrev nN_parse_file : List Str := ["form", "text"]
theorem sc_parse_file : FnScope ["form", "text"] ["form", "text"] (defScope st_parse_file) := ⟨rfl, rfl, rfl, by decide +kernel, rfl, by decide +kernel, by decide +kernel⟩
def F_parse_file : List Wv → M Wv := fnS false 2 2 (
  sSeq (sDrop (eCall F_check_format (aCons (eVar 0) (aNil)))) (
    sSeq (sIf (cOr (cNot (cVal (eIsi "str" (eVar 1)))) (cNot (cVal (eCall F_is_file_of (aCons (eVar 0) (aCons (eCall F_signs_in (aCons (eVar 1) (aNil))) (aNil))))))) (sNo) (sNil)) (
    sRet (eCall F_signs_in (aCons (eVar 1) (aNil))))))
theorem ok_parse_file (T : Tx G) : FnD P w G base 6 "parse_file" st_parse_file ["form", "text"] F_parse_file := fnD_of false T.d_parse_file sc_parse_file (fun _ _ _ _ _ _ us hl => match us, hl with | [_, _], _ => rfl) fun f cdv A outer sh H E hr tk => by
    have S := sc_parse_file
    exact psd_cons (psd_expr (pd_call (FnD.mono (ok_check_format T) (by decide)) hr tk rfl (pad_cons (pd_var 0) (pad_nil)) rfl (fl_cons (fl_nil))))
      (psd_cons (psd_if (pwd_pt (pwd_or (ptd_not (ptd_val (pd_isi (T := "str") (by decide) rfl T.free_isinstance (pe_ty T.free_str (by decide +kernel)) (pd_var 1)))) (pwd_or1 (ptd_not (ptd_val (pd_call (FnD.mono (ok_is_file_of T) (by decide)) hr tk rfl (pad_cons (pd_var 0) (pad_cons (pd_call (FnD.mono (ok_signs_in T) (by decide)) hr tk rfl (pad_cons (pd_var 1) (pad_nil)) rfl (fl_cons (fl_nil))) (pad_nil))) rfl (fl_cons (fl_cons (fl_nil))))))))) (psd_one (psd_never)) (psd_nil))
      (psd_one (psd_ret (pd_call (FnD.mono (ok_signs_in T) (by decide)) hr tk rfl (pad_cons (pd_var 1) (pad_nil)) rfl (fl_cons (fl_nil))))))
abbrev st__law_bag : Stmt := top 50
abbrev nN__law_bag : List Str := ["script", "at", "cell"]
theorem sc__law_bag : FnScope ["script", "at", "cell"] ["script", "at"] (defScope st__law_bag) := ⟨rfl, rfl, rfl, by decide +kernel, rfl, by decide +kernel, by decide +kernel⟩
def F__law_bag : List Wv → M Wv := fnS true 3 2 (
  sSeq (sSet 2 (eIf (cVal (eBin opLt (eVar 1) (eCall (f1 lenW) (aCons (eVar 0) (aNil))))) (eBin ixW (eVar 0) (eVar 1)) (eC (.int 0)))) (
    sRet (eCall mkM (aCons (eCall (max2F) (aCons (eC (.int 0)) (aCons (eBin opSub (eCall (absF) (aCons (eVar 2) (aNil))) (eBin opPow (eC (.int 10)) (eC (.int 18)))) (aNil)))) (aCons (eBin opAdd (eBin opAdd (eBin opMul (eBin opMod (eCall (f1 intW) (aCons (eVar 2) (aNil))) (eBin opAdd (eBin opPow (eC (.int 10)) (eC (.int 37))) (eC (.int 163)))) (eC (.int 89))) (eBin opMul (eC (.int 71)) (eVar 1))) (eC (.int 53))) (aCons (eC (.int 0)) (aNil)))))))
theorem ok__law_bag (T : Tx G) : FnD P w G base 1 "_law_bag" st__law_bag ["script", "at"] F__law_bag := fnD_of true T.d__law_bag sc__law_bag (fun _ _ _ _ _ _ us hl => match us, hl with | [_, _], _ => rfl) fun f cdv A outer sh H E hr tk => by
    have S := sc__law_bag
    exact psd_cons (psd_set (i := 2) S.nd rfl (Or.inl rfl) (pd_if (ptd_lt (pd_var 1) (pd_len T.free_len (pad_cons (pd_var 0) (pad_nil)))) (pd_ix (pd_var 0) (pd_var 1)) (pd_int)))
      (psd_one (psd_ret (pd_lstM (pad_cons (pd_max2 rfl T.free_max (pad_cons (pd_int) (pad_cons (pd_sub (pd_abs T.free_abs (pad_cons (pd_var 2) (pad_nil))) (pd_pow (pd_int) (pd_int))) (pad_nil)))) (pad_cons (pd_add (pd_add (pd_mul (pd_mod (pd_intOf T.free_int (pad_cons (pd_var 2) (pad_nil))) (pd_add (pd_pow (pd_int) (pd_int)) (pd_int))) (pd_int)) (pd_mul (pd_int) (pd_var 1))) (pd_int)) (pad_cons (pd_int) (pad_nil)))))))
abbrev st__law_grab : Stmt := top 51
abbrev nN__law_grab : List Str := ["bag", "below", "digit", "mix"]
theorem sc__law_grab : FnScope ["bag", "below", "digit", "mix"] ["bag", "below"] (defScope st__law_grab) := ⟨rfl, rfl, rfl, by decide +kernel, rfl, by decide +kernel, by decide +kernel⟩
def F__law_grab : List Wv → M Wv := fnS false 4 2 (
  sSeq (sIf (cVal (eBin opGt (eBin ixW (eVar 0) (eC (.int 0))) (eC (.int 0)))) (sSeq (sSet 2 (eBin opMod (eCall (f1 intW) (aCons (eBin ixW (eVar 0) (eC (.int 0))) (aNil))) (eVar 1))) (
    sSeq (sSetIx (eVar 0) (eC (.int 0)) (eBin opFdiv (eBin ixW (eVar 0) (eC (.int 0))) (eVar 1))) (
    sRet (eVar 2)))) (sNil)) (
    sSeq (sSetIx (eVar 0) (eC (.int 2)) (eBin opAdd (eBin ixW (eVar 0) (eC (.int 2))) (eC (.int 1)))) (
    sSeq (sSet 3 (eBin opMod (eBin opPow (eCall (f1 intW) (aCons (eBin opAdd (eBin ixW (eVar 0) (eC (.int 1))) (eBin opMul (eC (.int 90019)) (eBin ixW (eVar 0) (eC (.int 2))))) (aNil))) (eC (.int 2))) (eBin opAdd (eBin opPow (eC (.int 10)) (eC (.int 38))) (eC (.int 271))))) (
    sSeq (sSet 3 (eBin opMod (eBin opPow (eCall (f1 intW) (aCons (eBin opAdd (eVar 3) (eBin opMul (eC (.int 1900037)) (eBin ixW (eVar 0) (eC (.int 2))))) (aNil))) (eC (.int 3))) (eBin opAdd (eBin opPow (eC (.int 10)) (eC (.int 39))) (eC (.int 331))))) (
    sRet (eBin opMod (eBin opFdiv (eVar 3) (eC (.int 8192))) (eVar 1)))))))
theorem ok__law_grab (T : Tx G) : FnD P w G base 1 "_law_grab" st__law_grab ["bag", "below"] F__law_grab := fnD_of false T.d__law_grab sc__law_grab (fun _ _ _ _ _ _ us hl => match us, hl with | [_, _], _ => rfl) fun f cdv A outer sh H E hr tk => by
    have S := sc__law_grab
    exact psd_cons (psd_if (ptd_gt (pd_ix (pd_var 0) (pd_int)) (pd_int)) (psd_cons (psd_set (i := 2) S.nd rfl (Or.inl rfl) (pd_mod (pd_intOf T.free_int (pad_cons (pd_ix (pd_var 0) (pd_int)) (pad_nil))) (pd_var 1)))
      (psd_cons (psd_setIx (pd_var 0) (pd_int) (pd_fdiv (pd_ix (pd_var 0) (pd_int)) (pd_var 1)))
      (psd_one (psd_ret (pd_var 2))))) (psd_nil))
      (psd_cons (psd_setIx (pd_var 0) (pd_int) (pd_add (pd_ix (pd_var 0) (pd_int)) (pd_int)))
      (psd_cons (psd_set (i := 3) S.nd rfl (Or.inl rfl) (pd_mod (pd_pow (pd_intOf T.free_int (pad_cons (pd_add (pd_ix (pd_var 0) (pd_int)) (pd_mul (pd_int) (pd_ix (pd_var 0) (pd_int)))) (pad_nil))) (pd_int)) (pd_add (pd_pow (pd_int) (pd_int)) (pd_int))))
      (psd_cons (psd_set (i := 3) S.nd rfl (Or.inl rfl) (pd_mod (pd_pow (pd_intOf T.free_int (pad_cons (pd_add (pd_var 3) (pd_mul (pd_int) (pd_ix (pd_var 0) (pd_int)))) (pad_nil))) (pd_int)) (pd_add (pd_pow (pd_int) (pd_int)) (pd_int))))
      (psd_one (psd_ret (pd_mod (pd_fdiv (pd_var 3) (pd_int)) (pd_var 1)))))))
abbrev st__law_equal : Stmt := top 52
abbrev nN__law_equal : List Str := ["found", "due", "k"]
theorem sc__law_equal : FnScope ["found", "due", "k"] ["found", "due"] (defScope st__law_equal) := ⟨rfl, rfl, rfl, by decide +kernel, rfl, by decide +kernel, by decide +kernel⟩
def G__law_equal (F : List Wv → M Wv) : List Wv → M Wv := fnS false 3 2 (
  sSeq (sIf (cOr (cVal (eIsi "bool" (eVar 0))) (cVal (eIsi "bool" (eVar 1)))) (sRet (eAnd (eIsi "bool" (eVar 0)) (eAnd (eIsi "bool" (eVar 1)) (eBin opEq (eVar 0) (eVar 1))))) (sNil)) (
    sSeq (sIf (cOr (cVal (eBin opNe (eIsi "list" (eVar 0)) (eIsi "list" (eVar 1)))) (cVal (eBin opNe (eIsi "tuple" (eVar 0)) (eIsi "tuple" (eVar 1))))) (sRet (eC (.bool false))) (sNil)) (
    sSeq (sIf (cOr (cVal (eBin opNe (eIsi "str" (eVar 0)) (eIsi "str" (eVar 1)))) (cVal (eBin opNe (eIsi "int" (eVar 0)) (eIsi "int" (eVar 1))))) (sRet (eC (.bool false))) (sNil)) (
    sSeq (sIf (cVal (eIsi2 "list" "tuple" (eVar 1))) (sSeq (sIf (cVal (eBin opNe (eCall (f1 lenW) (aCons (eVar 0) (aNil))) (eCall (f1 lenW) (aCons (eVar 1) (aNil))))) (sRet (eC (.bool false))) (sNil)) (
    sRet (eBin opEq (eLc (iRange1 (aCons (eCall (f1 lenW) (aCons (eVar 1) (aNil))) (aNil))) (gN 2) (cNot (cVal (eCall (F) (aCons (eBin ixW (eVar 0) (eVar 2)) (aCons (eBin ixW (eVar 1) (eVar 2)) (aNil)))))) (eVar 2) [2]) (eCall mkL (aNil))))) (sNil)) (
    sRet (eAnd (eBin opEq (eBin opIs (eVar 0) (eC .none)) (eBin opIs (eVar 1) (eC .none))) (eBin opEq (eVar 0) (eVar 1))))))))
def F__law_equal : Nat → List Wv → M Wv
  | 0 => fun _ => M.no
  | n + 1 => G__law_equal (F__law_equal n)
theorem ok__law_equal (T : Tx G) : ∀ n : Nat, FnD P w G base (1 + n) "_law_equal" st__law_equal ["found", "due"] (F__law_equal n)
  | 0 => fnD_none T.d__law_equal (fun _ _ _ _ _ _ us hl => match us, hl with | [_, _], _ => rfl)
  | n + 1 => fnD_of (k := 1 + n) false T.d__law_equal sc__law_equal (fun _ _ _ _ _ _ us hl => match us, hl with | [_, _], _ => rfl) fun f cdv A outer sh H E hr tk => by
    have S := sc__law_equal
    have ih := ok__law_equal T n
    exact psd_cons (psd_if (pwd_pt (pwd_or (ptd_val (pd_isi (T := "bool") (by decide) rfl T.free_isinstance (pe_ty T.free_bool (by decide +kernel)) (pd_var 0))) (pwd_or1 (ptd_val (pd_isi (T := "bool") (by decide) rfl T.free_isinstance (pe_ty T.free_bool (by decide +kernel)) (pd_var 1)))))) (psd_one (psd_ret (pd_and (pd_isi (T := "bool") (by decide) rfl T.free_isinstance (pe_ty T.free_bool (by decide +kernel)) (pd_var 0)) (pd_and (pd_isi (T := "bool") (by decide) rfl T.free_isinstance (pe_ty T.free_bool (by decide +kernel)) (pd_var 1)) (pd_one (pd_eq (hu_room hr) (pd_var 0) (pd_var 1))))))) (psd_nil))
      (psd_cons (psd_if (pwd_pt (pwd_or (ptd_ne (hu_room hr) (pd_isi (T := "list") (by decide) rfl T.free_isinstance (pe_ty T.free_list (by decide +kernel)) (pd_var 0)) (pd_isi (T := "list") (by decide) rfl T.free_isinstance (pe_ty T.free_list (by decide +kernel)) (pd_var 1))) (pwd_or1 (ptd_ne (hu_room hr) (pd_isi (T := "tuple") (by decide) rfl T.free_isinstance (pe_ty T.free_tuple (by decide +kernel)) (pd_var 0)) (pd_isi (T := "tuple") (by decide) rfl T.free_isinstance (pe_ty T.free_tuple (by decide +kernel)) (pd_var 1)))))) (psd_one (psd_ret (pd_bl))) (psd_nil))
      (psd_cons (psd_if (pwd_pt (pwd_or (ptd_ne (hu_room hr) (pd_isi (T := "str") (by decide) rfl T.free_isinstance (pe_ty T.free_str (by decide +kernel)) (pd_var 0)) (pd_isi (T := "str") (by decide) rfl T.free_isinstance (pe_ty T.free_str (by decide +kernel)) (pd_var 1))) (pwd_or1 (ptd_ne (hu_room hr) (pd_isi (T := "int") (by decide) rfl T.free_isinstance (pe_ty T.free_int (by decide +kernel)) (pd_var 0)) (pd_isi (T := "int") (by decide) rfl T.free_isinstance (pe_ty T.free_int (by decide +kernel)) (pd_var 1)))))) (psd_one (psd_ret (pd_bl))) (psd_nil))
      (psd_cons (psd_if (ptd_val (pd_isi2 (T := "list") (U := "tuple") (by decide) (by decide) rfl T.free_isinstance (pe_ty T.free_list (by decide +kernel)) (pe_ty T.free_tuple (by decide +kernel)) (pd_var 1))) (psd_cons (psd_if (ptd_ne (hu_room hr) (pd_len T.free_len (pad_cons (pd_var 0) (pad_nil))) (pd_len T.free_len (pad_cons (pd_var 1) (pad_nil)))) (psd_one (psd_ret (pd_bl))) (psd_nil))
      (psd_one (psd_ret (pd_eq (hu_room hr) (pd_lc (own := [("k", 2)]) rfl S.nd (pid_range1 rfl T.free_range (pad_cons (pd_len T.free_len (pad_cons (pd_var 1) (pad_nil))) (pad_nil))) (blkOk_by (N := nN__law_equal) (sc := defScope st__law_equal) (own := [("k", 2)]) (by decide +kernel)) (fun _ _ _ _ _ => pgd_name 2 S.nd) (fun _ _ _ _ _ => ptsd_one (ptd_not (ptd_val (pd_call (ih) hr takes0 rfl (pad_cons (pd_ix (pd_var 0) (pd_var 2)) (pad_cons (pd_ix (pd_var 1) (pd_var 2)) (pad_nil))) rfl (fl_cons (fl_cons (fl_nil))))))) (fun _ _ _ _ _ => pd_var 2)) (pd_lst (pad_nil)))))) (psd_nil))
      (psd_one (psd_ret (pd_and (pd_eq (hu_room hr) (pd_is (pd_var 0) (pd_non)) (pd_is (pd_var 1) (pd_non))) (pd_one (pd_eq (hu_room hr) (pd_var 0) (pd_var 1)))))))))
abbrev st__law_drawn_tags : Stmt := top 53
abbrev nN__law_drawn_tags : List Str := ["bag", "base", "many_here", "kinds_here", "found", "sign"]
theorem sc__law_drawn_tags : FnScope ["bag", "base", "many_here", "kinds_here", "found", "sign"] ["bag", "base", "many_here"] (defScope st__law_drawn_tags) := ⟨rfl, rfl, rfl, by decide +kernel, rfl, by decide +kernel, by decide +kernel⟩
def F__law_drawn_tags : List Wv → M Wv := fnS false 6 3 (
  sSeq (sPar 3 4 (aCons (eCall mkL (aCons (eC (.str "keep")) (aCons (eC (.str "check")) (aCons (eC (.str "skip")) (aCons (eC (.str "end")) (aCons (eC (.str "stop")) (aCons (eC (.str "keep")) (aCons (eC (.str "skip")) (aNil))))))))) (aCons (eCall mkM (aNil)) (aNil)))) (
    sSeq (sFor (iRange1 (aCons (eVar 1) (aNil))) (gN 5) (sIf (cAnd (cVal (eBin opLt (eCall (f1 lenW) (aCons (eVar 4) (aNil))) (eVar 2))) (cVal (eBin opLt (eCall F__law_grab (aCons (eVar 0) (aCons (eVar 1) (aNil)))) (eVar 2)))) (sDrop (eApp (eVar 4) (eCall mkT (aCons (eVar 5) (aCons (eBin ixW (eVar 3) (eCall F__law_grab (aCons (eVar 0) (aCons (eC (.int 7)) (aNil))))) (aNil)))))) (sNil))) (
    sRet (eCall (f1 tupW) (aCons (eVar 4) (aNil))))))
theorem ok__law_drawn_tags (T : Tx G) : FnD P w G base 2 "_law_drawn_tags" st__law_drawn_tags ["bag", "base", "many_here"] F__law_drawn_tags := fnD_of false T.d__law_drawn_tags sc__law_drawn_tags (fun _ _ _ _ _ _ us hl => match us, hl with | [_, _, _], _ => rfl) fun f cdv A outer sh H E hr tk => by
    have S := sc__law_drawn_tags
    exact psd_cons (psd_par (i := 3) (j := 4) rfl S.nd rfl rfl (by decide) rfl rfl (pad_cons (pd_lst (pad_cons (pd_str) (pad_cons (pd_str) (pad_cons (pd_str) (pad_cons (pd_str) (pad_cons (pd_str) (pad_cons (pd_str) (pad_cons (pd_str) (pad_nil))))))))) (pad_cons (pd_lstM (pad_nil)) (pad_nil))))
      (psd_cons (psd_for (passes_of rfl) rfl (pid_range1 rfl T.free_range (pad_cons (pd_var 1) (pad_nil))) (pgd_name 5 S.nd) (psd_one (psd_if (pwd_pt (pwd_and (ptd_lt (pd_len T.free_len (pad_cons (pd_var 4) (pad_nil))) (pd_var 2)) (pwd_and1 (ptd_lt (pd_call (FnD.mono (ok__law_grab T) (by decide)) hr tk rfl (pad_cons (pd_var 0) (pad_cons (pd_var 1) (pad_nil))) rfl (fl_cons (fl_cons (fl_nil)))) (pd_var 2))))) (psd_one (psd_expr (pd_append (pd_var 4) (pd_tup (pad_cons (pd_var 5) (pad_cons (pd_ix (pd_var 3) (pd_call (FnD.mono (ok__law_grab T) (by decide)) hr tk rfl (pad_cons (pd_var 0) (pad_cons (pd_int) (pad_nil))) rfl (fl_cons (fl_cons (fl_nil))))) (pad_nil))))))) (psd_nil))))
      (psd_one (psd_ret (pd_tuple T.free_tuple (pad_cons (pd_var 4) (pad_nil))))))
abbrev st__law_drawn_form : Stmt := top 54
abbrev nN__law_drawn_form : List Str := ["bag", "base", "marks_here", "most_here", "many_here", "many_marks", "head_here", "k", "wide", "top", "rows"]
theorem sc__law_drawn_form : FnScope ["bag", "base", "marks_here", "most_here", "many_here", "many_marks", "head_here", "k", "wide", "top", "rows"] ["bag", "base", "marks_here", "most_here", "many_here"] (defScope st__law_drawn_form) := ⟨rfl, rfl, rfl, by decide +kernel, rfl, by decide +kernel, by decide +kernel⟩
def F__law_drawn_form : List Wv → M Wv := fnS false 11 5 (
  sSeq (sSet 5 (eCall F__law_grab (aCons (eVar 0) (aCons (eBin opAdd (eVar 2) (eC (.int 1))) (aNil))))) (
    sSeq (sSet 6 (eLc (iRange1 (aCons (eVar 5) (aNil))) (gN 7) (cYes) (eIf (cVal (eBin opEq (eCall F__law_grab (aCons (eVar 0) (aCons (eC (.int 3)) (aNil)))) (eC (.int 0)))) (eC .none) (eCall F__law_grab (aCons (eVar 0) (aCons (eVar 1) (aNil))))) [7])) (
    sSeq (sSet 8 (eBin ixW (eCall mkL (aCons (eC (.str "one")) (aCons (eC (.str "one")) (aCons (eC (.str "high")) (aCons (eC (.str "low")) (aNil)))))) (eCall F__law_grab (aCons (eVar 0) (aCons (eC (.int 4)) (aNil)))))) (
    sSeq (sSet 9 (eCall F__law_grab (aCons (eVar 0) (aCons (eBin opAdd (eVar 3) (eC (.int 1))) (aNil))))) (
    sSeq (sSet 10 (eCall F__law_drawn_tags (aCons (eVar 0) (aCons (eVar 1) (aCons (eCall F__law_grab (aCons (eVar 0) (aCons (eBin opAdd (eVar 4) (eC (.int 1))) (aNil)))) (aNil)))))) (
    sRet (eCall mkT (aCons (eVar 1) (aCons (eCall (f1 tupW) (aCons (eVar 6) (aNil))) (aCons (eVar 8) (aCons (eVar 9) (aCons (eVar 10) (aCons (eBin ixW (eCall mkL (aCons (eC (.str "skip")) (aCons (eC (.str "refuse")) (aNil)))) (eCall F__law_grab (aCons (eVar 0) (aCons (eC (.int 2)) (aNil))))) (aNil))))))))))))))
theorem ok__law_drawn_form (T : Tx G) : FnD P w G base 3 "_law_drawn_form" st__law_drawn_form ["bag", "base", "marks_here", "most_here", "many_here"] F__law_drawn_form := fnD_of false T.d__law_drawn_form sc__law_drawn_form (fun _ _ _ _ _ _ us hl => match us, hl with | [_, _, _, _, _], _ => rfl) fun f cdv A outer sh H E hr tk => by
    have S := sc__law_drawn_form
    exact psd_cons (psd_set (i := 5) S.nd rfl (Or.inl rfl) (pd_call (FnD.mono (ok__law_grab T) (by decide)) hr tk rfl (pad_cons (pd_var 0) (pad_cons (pd_add (pd_var 2) (pd_int)) (pad_nil))) rfl (fl_cons (fl_cons (fl_nil)))))
      (psd_cons (psd_setLc (i := 6) (own := [("k", 7)]) rfl S.nd rfl rfl rfl (pid_range1 rfl T.free_range (pad_cons (pd_var 5) (pad_nil))) (blkOk_by (N := nN__law_drawn_form) (sc := defScope st__law_drawn_form) (own := [("k", 7)]) (by decide +kernel)) (fun _ _ _ _ _ => pgd_name 7 S.nd) (fun _ _ _ _ _ => ptsd_nil) (fun _ _ _ _ _ => pd_if (ptd_eq (hu_room hr) (pd_call (FnD.mono (ok__law_grab T) (by decide)) hr takes0 rfl (pad_cons (pd_var 0) (pad_cons (pd_int) (pad_nil))) rfl (fl_cons (fl_cons (fl_nil)))) (pd_int)) (pd_non) (pd_call (FnD.mono (ok__law_grab T) (by decide)) hr takes0 rfl (pad_cons (pd_var 0) (pad_cons (pd_var 1) (pad_nil))) rfl (fl_cons (fl_cons (fl_nil))))))
      (psd_cons (psd_set (i := 8) S.nd rfl (Or.inl rfl) (pd_ix (pd_lst (pad_cons (pd_str) (pad_cons (pd_str) (pad_cons (pd_str) (pad_cons (pd_str) (pad_nil)))))) (pd_call (FnD.mono (ok__law_grab T) (by decide)) hr tk rfl (pad_cons (pd_var 0) (pad_cons (pd_int) (pad_nil))) rfl (fl_cons (fl_cons (fl_nil))))))
      (psd_cons (psd_set (i := 9) S.nd rfl (Or.inl rfl) (pd_call (FnD.mono (ok__law_grab T) (by decide)) hr tk rfl (pad_cons (pd_var 0) (pad_cons (pd_add (pd_var 3) (pd_int)) (pad_nil))) rfl (fl_cons (fl_cons (fl_nil)))))
      (psd_cons (psd_set (i := 10) S.nd rfl (Or.inl rfl) (pd_call (FnD.mono (ok__law_drawn_tags T) (by decide)) hr tk rfl (pad_cons (pd_var 0) (pad_cons (pd_var 1) (pad_cons (pd_call (FnD.mono (ok__law_grab T) (by decide)) hr tk rfl (pad_cons (pd_var 0) (pad_cons (pd_add (pd_var 4) (pd_int)) (pad_nil))) rfl (fl_cons (fl_cons (fl_nil)))) (pad_nil)))) rfl (fl_cons (fl_cons (fl_cons (fl_nil))))))
      (psd_one (psd_ret (pd_tup (pad_cons (pd_var 1) (pad_cons (pd_tuple T.free_tuple (pad_cons (pd_var 6) (pad_nil))) (pad_cons (pd_var 8) (pad_cons (pd_var 9) (pad_cons (pd_var 10) (pad_cons (pd_ix (pd_lst (pad_cons (pd_str) (pad_cons (pd_str) (pad_nil)))) (pd_call (FnD.mono (ok__law_grab T) (by decide)) hr tk rfl (pad_cons (pd_var 0) (pad_cons (pd_int) (pad_nil))) rfl (fl_cons (fl_cons (fl_nil))))) (pad_nil))))))))))))))
abbrev st__law_any_form : Stmt := top 55
abbrev nN__law_any_form : List Str := ["bag", "base", "great", "marks_here", "many", "top"]
theorem sc__law_any_form : FnScope ["bag", "base", "great", "marks_here", "many", "top"] ["bag", "base", "great"] (defScope st__law_any_form) := ⟨rfl, rfl, rfl, by decide +kernel, rfl, by decide +kernel, by decide +kernel⟩
def F__law_any_form : List Wv → M Wv := fnS false 6 3 (
  sSeq (sPar 3 4 (aCons (eBin ixW (eCall mkL (aCons (eC (.int 3)) (aCons (eVar 2) (aNil)))) (eCall F__law_grab (aCons (eVar 0) (aCons (eC (.int 2)) (aNil))))) (aCons (eBin ixW (eCall mkL (aCons (eC (.int 4)) (aCons (eVar 2) (aNil)))) (eCall F__law_grab (aCons (eVar 0) (aCons (eC (.int 2)) (aNil))))) (aNil)))) (
    sSeq (sSet 5 (eBin ixW (eCall mkL (aCons (eC (.int 5)) (aCons (eC (.int 40)) (aCons (eC (.int 65535)) (aNil))))) (eCall F__law_grab (aCons (eVar 0) (aCons (eC (.int 3)) (aNil)))))) (
    sRet (eCall F__law_drawn_form (aCons (eVar 0) (aCons (eVar 1) (aCons (eVar 3) (aCons (eVar 5) (aCons (eVar 4) (aNil))))))))))
theorem ok__law_any_form (T : Tx G) : FnD P w G base 4 "_law_any_form" st__law_any_form ["bag", "base", "great"] F__law_any_form := fnD_of false T.d__law_any_form sc__law_any_form (fun _ _ _ _ _ _ us hl => match us, hl with | [_, _, _], _ => rfl) fun f cdv A outer sh H E hr tk => by
    have S := sc__law_any_form
    exact psd_cons (psd_par (i := 3) (j := 4) rfl S.nd rfl rfl (by decide) rfl rfl (pad_cons (pd_ix (pd_lst (pad_cons (pd_int) (pad_cons (pd_var 2) (pad_nil)))) (pd_call (FnD.mono (ok__law_grab T) (by decide)) hr tk rfl (pad_cons (pd_var 0) (pad_cons (pd_int) (pad_nil))) rfl (fl_cons (fl_cons (fl_nil))))) (pad_cons (pd_ix (pd_lst (pad_cons (pd_int) (pad_cons (pd_var 2) (pad_nil)))) (pd_call (FnD.mono (ok__law_grab T) (by decide)) hr tk rfl (pad_cons (pd_var 0) (pad_cons (pd_int) (pad_nil))) rfl (fl_cons (fl_cons (fl_nil))))) (pad_nil))))
      (psd_cons (psd_set (i := 5) S.nd rfl (Or.inl rfl) (pd_ix (pd_lst (pad_cons (pd_int) (pad_cons (pd_int) (pad_cons (pd_int) (pad_nil))))) (pd_call (FnD.mono (ok__law_grab T) (by decide)) hr tk rfl (pad_cons (pd_var 0) (pad_cons (pd_int) (pad_nil))) rfl (fl_cons (fl_cons (fl_nil))))))
      (psd_one (psd_ret (pd_call (FnD.mono (ok__law_drawn_form T) (by decide)) hr tk rfl (pad_cons (pd_var 0) (pad_cons (pd_var 1) (pad_cons (pd_var 3) (pad_cons (pd_var 5) (pad_cons (pd_var 4) (pad_nil)))))) rfl (fl_cons (fl_cons (fl_cons (fl_cons (fl_cons (fl_nil))))))))))
abbrev st__law_form_line : Stmt := top 56
abbrev nN__law_form_line : List Str := ["form_here", "base", "head_here", "wide", "top", "rows", "rest", "marks", "mark", "uses_here", "row", "words"]
theorem sc__law_form_line : FnScope ["form_here", "base", "head_here", "wide", "top", "rows", "rest", "marks", "mark", "uses_here", "row", "words"] ["form_here"] (defScope st__law_form_line) := ⟨rfl, rfl, rfl, by decide +kernel, rfl, by decide +kernel, by decide +kernel⟩
def F__law_form_line : List Wv → M Wv := fnS false 12 1 (
  sSeq (sAsg (gT 6 (gsCons (gN 1) (gsCons (gN 2) (gsCons (gN 3) (gsCons (gN 4) (gsCons (gN 5) (gsCons (gN 6) (gsNil)))))))) (eVar 0)) (
    sSeq (sSet 7 (eLc (iTupl (eVar 2)) (gN 8) (cYes) (eIf (cVal (eBin opIs (eVar 8) (eC .none))) (eC (.str "*")) (eCall (f1 strW) (aCons (eVar 8) (aNil)))) [8])) (
    sSeq (sSet 9 (eLc (iTupl (eVar 5)) (gN 10) (cYes) (eBin opAdd (eBin opAdd (eCall (f1 strW) (aCons (eBin ixW (eVar 10) (eC (.int 0))) (aNil))) (eC (.str " "))) (eBin ixW (eVar 10) (eC (.int 1)))) [10])) (
    sSeq (sSet 11 (eCall mkL (aCons (eBin opAdd (eC (.str "base ")) (eCall (f1 strW) (aCons (eVar 1) (aNil)))) (aCons (eIf (cVal (eBin opNe (eVar 7) (eCall mkL (aNil)))) (eBin opAdd (eC (.str "head ")) (eM1 joinS (eC (.str " ")) (eVar 7))) (eC (.str "head"))) (aCons (eBin opAdd (eC (.str "width ")) (eVar 3)) (aNil)))))) (
    sSeq (sSet 11 (eBin opAdd (eVar 11) (eCall mkL (aCons (eBin opAdd (eC (.str "most ")) (eCall (f1 strW) (aCons (eVar 4) (aNil)))) (aCons (eIf (cVal (eBin opNe (eVar 9) (eCall mkL (aNil)))) (eBin opAdd (eC (.str "tags ")) (eM1 joinS (eC (.str ", ")) (eVar 9))) (eC (.str "tags"))) (aNil)))))) (
    sRet (eM1 joinS (eC (.str "; ")) (eBin opAdd (eVar 11) (eCall mkL (aCons (eBin opAdd (eC (.str "others ")) (eVar 6)) (aNil)))))))))))
theorem ok__law_form_line (T : Tx G) : FnD P w G base 1 "_law_form_line" st__law_form_line ["form_here"] F__law_form_line := fnD_of false T.d__law_form_line sc__law_form_line (fun _ _ _ _ _ _ us hl => match us, hl with | [_], _ => rfl) fun f cdv A outer sh H E hr tk => by
    have S := sc__law_form_line
    exact psd_cons (psd_asg (pd_var 0) (pgd_tup rfl (pgsd_cons (pgd_name 1 S.nd) (pgsd_cons (pgd_name 2 S.nd) (pgsd_cons (pgd_name 3 S.nd) (pgsd_cons (pgd_name 4 S.nd) (pgsd_cons (pgd_name 5 S.nd) (pgsd_cons (pgd_name 6 S.nd) (pgsd_nil)))))))))
      (psd_cons (psd_setLc (i := 7) (own := [("mark", 8)]) rfl S.nd rfl rfl rfl (pid_tup (pd_var 2)) (blkOk_by (N := nN__law_form_line) (sc := defScope st__law_form_line) (own := [("mark", 8)]) (by decide +kernel)) (fun _ _ _ _ _ => pgd_name 8 S.nd) (fun _ _ _ _ _ => ptsd_nil) (fun _ _ _ _ _ => pd_if (ptd_is (pd_var 8) (pd_non)) (pd_str) (pd_strOf T.free_str (pad_cons (pd_var 8) (pad_nil)))))
      (psd_cons (psd_setLc (i := 9) (own := [("row", 10)]) rfl S.nd rfl rfl rfl (pid_tup (pd_var 5)) (blkOk_by (N := nN__law_form_line) (sc := defScope st__law_form_line) (own := [("row", 10)]) (by decide +kernel)) (fun _ _ _ _ _ => pgd_name 10 S.nd) (fun _ _ _ _ _ => ptsd_nil) (fun _ _ _ _ _ => pd_add (pd_add (pd_strOf T.free_str (pad_cons (pd_ix (pd_var 10) (pd_int)) (pad_nil))) (pd_str)) (pd_ix (pd_var 10) (pd_int))))
      (psd_cons (psd_set (i := 11) S.nd rfl (Or.inl rfl) (pd_lst (pad_cons (pd_add (pd_str) (pd_strOf T.free_str (pad_cons (pd_var 1) (pad_nil)))) (pad_cons (pd_if (ptd_ne (hu_room hr) (pd_var 7) (pd_lst (pad_nil))) (pd_add (pd_str) (pd_join (pd_str) (pd_var 7))) (pd_str)) (pad_cons (pd_add (pd_str) (pd_var 3)) (pad_nil))))))
      (psd_cons (psd_set (i := 11) S.nd rfl (Or.inl rfl) (pd_add (pd_var 11) (pd_lst (pad_cons (pd_add (pd_str) (pd_strOf T.free_str (pad_cons (pd_var 4) (pad_nil)))) (pad_cons (pd_if (ptd_ne (hu_room hr) (pd_var 9) (pd_lst (pad_nil))) (pd_add (pd_str) (pd_join (pd_str) (pd_var 9))) (pd_str)) (pad_nil))))))
      (psd_one (psd_ret (pd_join (pd_str) (pd_add (pd_var 11) (pd_lst (pad_cons (pd_add (pd_str) (pd_var 6)) (pad_nil)))))))))))
abbrev st__law_file_line : Stmt := top 57
abbrev nN__law_file_line : List Str := ["signs_here", "sign"]
theorem sc__law_file_line : FnScope ["signs_here", "sign"] ["signs_here"] (defScope st__law_file_line) := ⟨rfl, rfl, rfl, by decide +kernel, rfl, by decide +kernel, by decide +kernel⟩
def F__law_file_line : List Wv → M Wv := fnS false 2 1 (
  sRet (eIf (cVal (eBin opNe (eVar 0) (eCall mkT (aNil)))) (eM1 joinS (eC (.str " ")) (eLc (iTupl (eVar 0)) (gN 1) (cYes) (eCall (f1 strW) (aCons (eVar 1) (aNil))) [1])) (eC (.str "empty"))))
theorem ok__law_file_line (T : Tx G) : FnD P w G base 1 "_law_file_line" st__law_file_line ["signs_here"] F__law_file_line := fnD_of false T.d__law_file_line sc__law_file_line (fun _ _ _ _ _ _ us hl => match us, hl with | [_], _ => rfl) fun f cdv A outer sh H E hr tk => by
    have S := sc__law_file_line
    exact psd_one (psd_ret (pd_if (ptd_ne (hu_room hr) (pd_var 0) (pd_tup (pad_nil))) (pd_join (pd_str) (pd_lc (own := [("sign", 1)]) rfl S.nd (pid_tup (pd_var 0)) (blkOk_by (N := nN__law_file_line) (sc := defScope st__law_file_line) (own := [("sign", 1)]) (by decide +kernel)) (fun _ _ _ _ _ => pgd_name 1 S.nd) (fun _ _ _ _ _ => ptsd_nil) (fun _ _ _ _ _ => pd_strOf T.free_str (pad_cons (pd_var 1) (pad_nil))))) (pd_str)))
def kg_kw_show_format_form {α : Type} : List α → List α → List α
  | _, [a0] => [a0]
  | _, _ => []
theorem kw_show_format_form : KwOk st_show_format "show_format" ["form"] ["form"] 0 1 (fun {α} => @kg_kw_show_format_form α) := ⟨fun _ _ _ _ _ _ us ws hl hw => match us, hl, ws, hw with | [], _, [_], _ => rfl,
  fun {us ws vs zs} hl hw h1 h2 => by
    obtain ⟨y0, rfl⟩ := len1 hw
    cases h2 with
    | cons a0 r0 =>
      cases r0
      exact .cons a0 (.nil),
  fun {K ρ H us ws vs zs} hl hw h1 h2 => by
    obtain ⟨y0, rfl⟩ := len1 hw
    cases h2 with
    | cons a0 r0 =>
      cases r0
      exact .cons a0 (.nil),
  fun {us ws} hl hw => by
    obtain ⟨y0, rfl⟩ := len1 hw
    rfl⟩
def kg_kw_parse_format_text {α : Type} : List α → List α → List α
  | _, [a0] => [a0]
  | _, _ => []
theorem kw_parse_format_text : KwOk st_parse_format "parse_format" ["text"] ["text"] 0 1 (fun {α} => @kg_kw_parse_format_text α) := ⟨fun _ _ _ _ _ _ us ws hl hw => match us, hl, ws, hw with | [], _, [_], _ => rfl,
  fun {us ws vs zs} hl hw h1 h2 => by
    obtain ⟨y0, rfl⟩ := len1 hw
    cases h2 with
    | cons a0 r0 =>
      cases r0
      exact .cons a0 (.nil),
  fun {K ρ H us ws vs zs} hl hw h1 h2 => by
    obtain ⟨y0, rfl⟩ := len1 hw
    cases h2 with
    | cons a0 r0 =>
      cases r0
      exact .cons a0 (.nil),
  fun {us ws} hl hw => by
    obtain ⟨y0, rfl⟩ := len1 hw
    rfl⟩
def kg_kw_show_file_file_form {α : Type} : List α → List α → List α
  | _, [a0, a1] => [a1, a0]
  | _, _ => []
theorem kw_show_file_file_form : KwOk st_show_file "show_file" ["form", "file"] ["file", "form"] 0 2 (fun {α} => @kg_kw_show_file_file_form α) := ⟨fun _ _ _ _ _ _ us ws hl hw => match us, hl, ws, hw with | [], _, [_, _], _ => rfl,
  fun {us ws vs zs} hl hw h1 h2 => by
    obtain ⟨y0, y1, rfl⟩ := len2 hw
    cases h2 with
    | cons a0 r0 =>
      cases r0 with
      | cons a1 r1 =>
        cases r1
        exact .cons a1 (.cons a0 (.nil)),
  fun {K ρ H us ws vs zs} hl hw h1 h2 => by
    obtain ⟨y0, y1, rfl⟩ := len2 hw
    cases h2 with
    | cons a0 r0 =>
      cases r0 with
      | cons a1 r1 =>
        cases r1
        exact .cons a1 (.cons a0 (.nil)),
  fun {us ws} hl hw => by
    obtain ⟨y0, y1, rfl⟩ := len2 hw
    rfl⟩
def kg_kw_parse_file_text_form {α : Type} : List α → List α → List α
  | _, [a0, a1] => [a1, a0]
  | _, _ => []
theorem kw_parse_file_text_form : KwOk st_parse_file "parse_file" ["form", "text"] ["text", "form"] 0 2 (fun {α} => @kg_kw_parse_file_text_form α) := ⟨fun _ _ _ _ _ _ us ws hl hw => match us, hl, ws, hw with | [], _, [_, _], _ => rfl,
  fun {us ws vs zs} hl hw h1 h2 => by
    obtain ⟨y0, y1, rfl⟩ := len2 hw
    cases h2 with
    | cons a0 r0 =>
      cases r0 with
      | cons a1 r1 =>
        cases r1
        exact .cons a1 (.cons a0 (.nil)),
  fun {K ρ H us ws vs zs} hl hw h1 h2 => by
    obtain ⟨y0, y1, rfl⟩ := len2 hw
    cases h2 with
    | cons a0 r0 =>
      cases r0 with
      | cons a1 r1 =>
        cases r1
        exact .cons a1 (.cons a0 (.nil)),
  fun {us ws} hl hw => by
    obtain ⟨y0, y1, rfl⟩ := len2 hw
    rfl⟩
abbrev st_law : Stmt := top 58
abbrev nN_law : List Str := ["script", "at", "bag", "known", "turn", "base", "form_here", "top", "line", "heard", "signs_here", "k", "where"]
theorem sc_law : FnScope ["script", "at", "bag", "known", "turn", "base", "form_here", "top", "line", "heard", "signs_here", "k", "where"] ["script"] (defScope st_law) := ⟨rfl, rfl, rfl, by decide +kernel, rfl, by decide +kernel, by decide +kernel⟩
def F_law : List Wv → M Wv := fnS false 13 1 (
  sSeq (sFor (iRange1 (aCons (eCall (max2F) (aCons (eC (.int 1)) (aCons (eCall (min2F) (aCons (eC (.int 6)) (aCons (eCall (f1 lenW) (aCons (eVar 0) (aNil))) (aNil)))) (aNil)))) (aNil))) (gN 1) (sSeq (sPar 2 3 (aCons (eCall F__law_bag (aCons (eVar 0) (aCons (eVar 1) (aNil)))) (aCons (mkDict) (aNil)))) (
    sFor (iRange1 (aCons (eC (.int 5)) (aNil))) (gN 4) (sSeq (sSet 5 (eBin ixW (eCall mkL (aCons (eC (.int 2)) (aCons (eC (.int 3)) (aCons (eC (.int 4)) (aCons (eC (.int 16)) (aCons (eC (.int 256)) (aCons (eBin opAdd (eC (.int 2)) (eCall F__law_grab (aCons (eVar 2) (aCons (eC (.int 255)) (aNil))))) (aNil)))))))) (eCall F__law_grab (aCons (eVar 2) (aCons (eC (.int 6)) (aNil)))))) (
    sSeq (sSet 6 (eCall F__law_any_form (aCons (eVar 2) (aCons (eVar 5) (aCons (eC (.int 20)) (aNil)))))) (
    sSeq (sIf (cVal (eBin opEq (eCall F__law_grab (aCons (eVar 2) (aCons (eC (.int 4)) (aNil)))) (eC (.int 0)))) (sSeq (sSet 7 (eCall F__law_grab (aCons (eVar 2) (aCons (eBin ixW (eCall mkL (aCons (eC (.int 65536)) (aCons (eBin opPow (eC (.int 10)) (eC (.int 9))) (aNil)))) (eCall F__law_grab (aCons (eVar 2) (aCons (eC (.int 2)) (aNil))))) (aNil))))) (
    sSet 6 (eBin opAdd (eBin opAdd (eSl (eVar 6) (oNone) (oSome (eC (.int 3)))) (eCall mkT (aCons (eVar 7) (aNil)))) (eSl (eVar 6) (oSome (eC (.int 4))) (oNone))))) (sNil)) (
    sSeq (sSet 8 (eCall F__law_form_line (aCons (eVar 6) (aNil)))) (
    sSeq (sIf (cVal (eBin opIsNot (eCall F_is_format (aCons (eVar 6) (aNil))) (eC (.bool true)))) (sRet (eC (.bool false))) (sNil)) (
    sSeq (sSet 9 (eCall mkL (aCons (eCall F_show_format (aCons (eVar 6) (aNil))) (aCons (eCallK F_show_format kg_kw_show_format_form aNil (aCons (eVar 6) (aNil))) (aCons (eCall F_parse_format (aCons (eVar 8) (aNil))) (aNil)))))) (
    sSeq (sSet 9 (eBin opAdd (eVar 9) (eCall mkL (aCons (eCallK F_parse_format kg_kw_parse_format_text aNil (aCons (eVar 8) (aNil))) (aNil))))) (
    sSeq (sIf (cOr (cNot (cVal (eCall (F__law_equal 6) (aCons (eVar 9) (aCons (eCall mkL (aCons (eVar 8) (aCons (eVar 8) (aCons (eVar 6) (aCons (eVar 6) (aNil)))))) (aNil)))))) (cVal (eBin opNe (eGet2 (eVar 3) (eVar 8) (eVar 6)) (eVar 6)))) (sRet (eC (.bool false))) (sNil)) (
    sSeq (sPut (eVar 3) (eVar 8) (eVar 6)) (
    sSeq (sSet 10 (eCall (f1 tupW) (aCons (eLc (iRange1 (aCons (eCall F__law_grab (aCons (eVar 2) (aCons (eBin ixW (eCall mkL (aCons (eC (.int 9)) (aCons (eC (.int 201)) (aNil)))) (eCall F__law_grab (aCons (eVar 2) (aCons (eC (.int 2)) (aNil))))) (aNil)))) (aNil))) (gN 11) (cYes) (eCall F__law_grab (aCons (eVar 2) (aCons (eVar 5) (aNil)))) [11]) (aNil)))) (
    sSeq (sSet 12 (eCall F__law_file_line (aCons (eVar 10) (aNil)))) (
    sSeq (sSet 9 (eCall mkL (aCons (eCall F_show_file (aCons (eVar 6) (aCons (eVar 10) (aNil)))) (aCons (eCallK F_show_file kg_kw_show_file_file_form aNil (aCons (eVar 10) (aCons (eVar 6) (aNil)))) (aNil))))) (
    sSeq (sSet 9 (eBin opAdd (eVar 9) (eCall mkL (aCons (eCall F_parse_file (aCons (eVar 6) (aCons (eVar 12) (aNil)))) (aCons (eCallK F_parse_file kg_kw_parse_file_text_form aNil (aCons (eVar 12) (aCons (eVar 6) (aNil)))) (aNil)))))) (
    sIf (cNot (cVal (eCall (F__law_equal 6) (aCons (eVar 9) (aCons (eCall mkL (aCons (eVar 12) (aCons (eVar 12) (aCons (eVar 10) (aCons (eVar 10) (aNil)))))) (aNil)))))) (sRet (eC (.bool false))) (sNil)))))))))))))))))) (
    sRet (eBin opEq (eCall F_parse_format (aCons (eC (.str "base 2; head; width low; most 0; tags; others skip")) (aNil))) (eCall mkT (aCons (eC (.int 2)) (aCons (eCall mkT (aNil)) (aCons (eC (.str "low")) (aCons (eC (.int 0)) (aCons (eCall mkT (aNil)) (aCons (eC (.str "skip")) (aNil)))))))))))
theorem ok_law (T : Tx G) : FnD P w G base 8 "law" st_law ["script"] F_law := fnD_of false T.d_law sc_law (fun _ _ _ _ _ _ us hl => match us, hl with | [_], _ => rfl) fun f cdv A outer sh H E hr tk => by
    have S := sc_law
    exact psd_cons (psd_for (passes_of rfl) rfl (pid_range1 rfl T.free_range (pad_cons (pd_max2 rfl T.free_max (pad_cons (pd_int) (pad_cons (pd_min2 rfl T.free_min (pad_cons (pd_int) (pad_cons (pd_len T.free_len (pad_cons (pd_var 0) (pad_nil))) (pad_nil)))) (pad_nil)))) (pad_nil))) (pgd_name 1 S.nd) (psd_cons (psd_parT (i := 2) (j := 3) rfl S.nd (pad_cons (pd_call (FnD.mono (ok__law_bag T) (by decide)) hr tk rfl (pad_cons (pd_var 0) (pad_cons (pd_var 1) (pad_nil))) rfl (fl_cons (fl_cons (fl_nil)))) (pad_cons (pd_dictNew) (pad_nil))))
      (psd_one (psd_for (passes_of rfl) rfl (pid_range1 rfl T.free_range (pad_cons (pd_int) (pad_nil))) (pgd_name 4 S.nd) (psd_cons (psd_set (i := 5) S.nd rfl (Or.inr rfl) (pd_ix (pd_lst (pad_cons (pd_int) (pad_cons (pd_int) (pad_cons (pd_int) (pad_cons (pd_int) (pad_cons (pd_int) (pad_cons (pd_add (pd_int) (pd_call (FnD.mono (ok__law_grab T) (by decide)) hr tk rfl (pad_cons (pd_var 2) (pad_cons (pd_int) (pad_nil))) rfl (fl_cons (fl_cons (fl_nil))))) (pad_nil)))))))) (pd_call (FnD.mono (ok__law_grab T) (by decide)) hr tk rfl (pad_cons (pd_var 2) (pad_cons (pd_int) (pad_nil))) rfl (fl_cons (fl_cons (fl_nil))))))
      (psd_cons (psd_set (i := 6) S.nd rfl (Or.inl rfl) (pd_call (FnD.mono (ok__law_any_form T) (by decide)) hr tk rfl (pad_cons (pd_var 2) (pad_cons (pd_var 5) (pad_cons (pd_int) (pad_nil)))) rfl (fl_cons (fl_cons (fl_cons (fl_nil))))))
      (psd_cons (psd_if (ptd_eq (hu_room hr) (pd_call (FnD.mono (ok__law_grab T) (by decide)) hr tk rfl (pad_cons (pd_var 2) (pad_cons (pd_int) (pad_nil))) rfl (fl_cons (fl_cons (fl_nil)))) (pd_int)) (psd_cons (psd_set (i := 7) S.nd rfl (Or.inl rfl) (pd_call (FnD.mono (ok__law_grab T) (by decide)) hr tk rfl (pad_cons (pd_var 2) (pad_cons (pd_ix (pd_lst (pad_cons (pd_int) (pad_cons (pd_pow (pd_int) (pd_int)) (pad_nil)))) (pd_call (FnD.mono (ok__law_grab T) (by decide)) hr tk rfl (pad_cons (pd_var 2) (pad_cons (pd_int) (pad_nil))) rfl (fl_cons (fl_cons (fl_nil))))) (pad_nil))) rfl (fl_cons (fl_cons (fl_nil)))))
      (psd_one (psd_set (i := 6) S.nd rfl (Or.inl rfl) (pd_add (pd_add (pd_slice (pd_var 6) (pod_none) (pod_some (pd_int))) (pd_tup (pad_cons (pd_var 7) (pad_nil)))) (pd_slice (pd_var 6) (pod_some (pd_int)) (pod_none)))))) (psd_nil))
      (psd_cons (psd_set (i := 8) S.nd rfl (Or.inl rfl) (pd_call (FnD.mono (ok__law_form_line T) (by decide)) hr tk rfl (pad_cons (pd_var 6) (pad_nil)) rfl (fl_cons (fl_nil))))
      (psd_cons (psd_if (ptd_isNot (pd_call (FnD.mono (ok_is_format T) (by decide)) hr tk rfl (pad_cons (pd_var 6) (pad_nil)) rfl (fl_cons (fl_nil))) (pd_bl)) (psd_one (psd_ret (pd_bl))) (psd_nil))
      (psd_cons (psd_set (i := 9) S.nd rfl (Or.inl rfl) (pd_lst (pad_cons (pd_call (FnD.mono (ok_show_format T) (by decide)) hr tk rfl (pad_cons (pd_var 6) (pad_nil)) rfl (fl_cons (fl_nil))) (pad_cons (pd_callK0 (b := 1) (FnD.mono (ok_show_format T) (by decide)) hr tk rfl (pkd_cons (pd_var 6) (pkd_nil)) kw_show_format_form (fl_cons (fl_nil))) (pad_cons (pd_call (FnD.mono (ok_parse_format T) (by decide)) hr tk rfl (pad_cons (pd_var 8) (pad_nil)) rfl (fl_cons (fl_nil))) (pad_nil))))))
      (psd_cons (psd_set (i := 9) S.nd rfl (Or.inl rfl) (pd_add (pd_var 9) (pd_lst (pad_cons (pd_callK0 (b := 1) (FnD.mono (ok_parse_format T) (by decide)) hr tk rfl (pkd_cons (pd_var 8) (pkd_nil)) kw_parse_format_text (fl_cons (fl_nil))) (pad_nil)))))
      (psd_cons (psd_if (pwd_pt (pwd_or (ptd_not (ptd_val (pd_call (FnD.mono (ok__law_equal T 6) (by decide)) hr tk rfl (pad_cons (pd_var 9) (pad_cons (pd_lst (pad_cons (pd_var 8) (pad_cons (pd_var 8) (pad_cons (pd_var 6) (pad_cons (pd_var 6) (pad_nil)))))) (pad_nil))) rfl (fl_cons (fl_cons (fl_nil)))))) (pwd_or1 (ptd_ne (hu_room hr) (pd_get2 (hu_room1 hr) (pd_var 3) (pd_var 8) (pd_var 6)) (pd_var 6))))) (psd_one (psd_ret (pd_bl))) (psd_nil))
      (psd_cons (psd_put (hu_room1 hr) (pd_var 3) (pd_var 8) (pd_var 6))
      (psd_cons (psd_set (i := 10) S.nd rfl (Or.inl rfl) (pd_tuple T.free_tuple (pad_cons (pd_lc (own := [("k", 11)]) rfl S.nd (pid_range1 rfl T.free_range (pad_cons (pd_call (FnD.mono (ok__law_grab T) (by decide)) hr tk rfl (pad_cons (pd_var 2) (pad_cons (pd_ix (pd_lst (pad_cons (pd_int) (pad_cons (pd_int) (pad_nil)))) (pd_call (FnD.mono (ok__law_grab T) (by decide)) hr tk rfl (pad_cons (pd_var 2) (pad_cons (pd_int) (pad_nil))) rfl (fl_cons (fl_cons (fl_nil))))) (pad_nil))) rfl (fl_cons (fl_cons (fl_nil)))) (pad_nil))) (blkOk_by (N := nN_law) (sc := defScope st_law) (own := [("k", 11)]) (by decide +kernel)) (fun _ _ _ _ _ => pgd_name 11 S.nd) (fun _ _ _ _ _ => ptsd_nil) (fun _ _ _ _ _ => pd_call (FnD.mono (ok__law_grab T) (by decide)) hr takes0 rfl (pad_cons (pd_var 2) (pad_cons (pd_var 5) (pad_nil))) rfl (fl_cons (fl_cons (fl_nil))))) (pad_nil))))
      (psd_cons (psd_set (i := 12) S.nd rfl (Or.inl rfl) (pd_call (FnD.mono (ok__law_file_line T) (by decide)) hr tk rfl (pad_cons (pd_var 10) (pad_nil)) rfl (fl_cons (fl_nil))))
      (psd_cons (psd_set (i := 9) S.nd rfl (Or.inl rfl) (pd_lst (pad_cons (pd_call (FnD.mono (ok_show_file T) (by decide)) hr tk rfl (pad_cons (pd_var 6) (pad_cons (pd_var 10) (pad_nil))) rfl (fl_cons (fl_cons (fl_nil)))) (pad_cons (pd_callK0 (b := 2) (FnD.mono (ok_show_file T) (by decide)) hr tk rfl (pkd_cons (pd_var 10) (pkd_cons (pd_var 6) (pkd_nil))) kw_show_file_file_form (fl_cons (fl_cons (fl_nil)))) (pad_nil)))))
      (psd_cons (psd_set (i := 9) S.nd rfl (Or.inl rfl) (pd_add (pd_var 9) (pd_lst (pad_cons (pd_call (FnD.mono (ok_parse_file T) (by decide)) hr tk rfl (pad_cons (pd_var 6) (pad_cons (pd_var 12) (pad_nil))) rfl (fl_cons (fl_cons (fl_nil)))) (pad_cons (pd_callK0 (b := 2) (FnD.mono (ok_parse_file T) (by decide)) hr tk rfl (pkd_cons (pd_var 12) (pkd_cons (pd_var 6) (pkd_nil))) kw_parse_file_text_form (fl_cons (fl_cons (fl_nil)))) (pad_nil))))))
      (psd_one (psd_if (ptd_not (ptd_val (pd_call (FnD.mono (ok__law_equal T 6) (by decide)) hr tk rfl (pad_cons (pd_var 9) (pad_cons (pd_lst (pad_cons (pd_var 12) (pad_cons (pd_var 12) (pad_cons (pd_var 10) (pad_cons (pd_var 10) (pad_nil)))))) (pad_nil))) rfl (fl_cons (fl_cons (fl_nil)))))) (psd_one (psd_ret (pd_bl))) (psd_nil))))))))))))))))))))
      (psd_one (psd_ret (pd_eq (hu_room hr) (pd_call (FnD.mono (ok_parse_format T) (by decide)) hr tk rfl (pad_cons (pd_str) (pad_nil)) rfl (fl_cons (fl_nil))) (pd_tup (pad_cons (pd_int) (pad_cons (pd_tup (pad_nil)) (pad_cons (pd_str) (pad_cons (pd_int) (pad_cons (pd_tup (pad_nil)) (pad_cons (pd_str) (pad_nil)))))))))))
end
end K50
set_option Elab.async false
set_option linter.all false
set_option maxRecDepth 100000
set_option maxHeartbeats 0
namespace K50
open PySem L2 PyProof.Rows Bq
def df_is_integer : He.DefD := ⟨("is_integer", none), "is_integer", "is_integer", defArgs st_is_integer, defBody st_is_integer, defScope st_is_integer, [], []⟩
def df_is_at_least : He.DefD := ⟨("is_at_least", none), "is_at_least", "is_at_least", defArgs st_is_at_least, defBody st_is_at_least, defScope st_is_at_least, [], []⟩
def df_is_sign : He.DefD := ⟨("is_sign", none), "is_sign", "is_sign", defArgs st_is_sign, defBody st_is_sign, defScope st_is_sign, [], []⟩
def df_is_signs : He.DefD := ⟨("is_signs", none), "is_signs", "is_signs", defArgs st_is_signs, defBody st_is_signs, defScope st_is_signs, [], []⟩
def df_is_word_of : He.DefD := ⟨("is_word_of", none), "is_word_of", "is_word_of", defArgs st_is_word_of, defBody st_is_word_of, defScope st_is_word_of, [], []⟩
def df_is_tags : He.DefD := ⟨("is_tags", none), "is_tags", "is_tags", defArgs st_is_tags, defBody st_is_tags, defScope st_is_tags, [], []⟩
def df_is_head : He.DefD := ⟨("is_head", none), "is_head", "is_head", defArgs st_is_head, defBody st_is_head, defScope st_is_head, [], []⟩
def df_is_format : He.DefD := ⟨("is_format", none), "is_format", "is_format", defArgs st_is_format, defBody st_is_format, defScope st_is_format, [], []⟩
def df_is_file_of : He.DefD := ⟨("is_file_of", none), "is_file_of", "is_file_of", defArgs st_is_file_of, defBody st_is_file_of, defScope st_is_file_of, [], []⟩
def df_check_format : He.DefD := ⟨("check_format", none), "check_format", "check_format", defArgs st_check_format, defBody st_check_format, defScope st_check_format, [], []⟩
def df_check_file : He.DefD := ⟨("check_file", none), "check_file", "check_file", defArgs st_check_file, defBody st_check_file, defScope st_check_file, [], []⟩
def df_number_in : He.DefD := ⟨("number_in", none), "number_in", "number_in", defArgs st_number_in, defBody st_number_in, defScope st_number_in, [], []⟩
def df_signs_text : He.DefD := ⟨("signs_text", none), "signs_text", "signs_text", defArgs st_signs_text, defBody st_signs_text, defScope st_signs_text, [], []⟩
def df_signs_in : He.DefD := ⟨("signs_in", none), "signs_in", "signs_in", defArgs st_signs_in, defBody st_signs_in, defScope st_signs_in, [], []⟩
def df_mark_text : He.DefD := ⟨("mark_text", none), "mark_text", "mark_text", defArgs st_mark_text, defBody st_mark_text, defScope st_mark_text, [], []⟩
def df_part_text : He.DefD := ⟨("part_text", none), "part_text", "part_text", defArgs st_part_text, defBody st_part_text, defScope st_part_text, [], []⟩
def df_format_text : He.DefD := ⟨("format_text", none), "format_text", "format_text", defArgs st_format_text, defBody st_format_text, defScope st_format_text, [], []⟩
def df_mark_in : He.DefD := ⟨("mark_in", none), "mark_in", "mark_in", defArgs st_mark_in, defBody st_mark_in, defScope st_mark_in, [], []⟩
def df_tag_in : He.DefD := ⟨("tag_in", none), "tag_in", "tag_in", defArgs st_tag_in, defBody st_tag_in, defScope st_tag_in, [], []⟩
def df_value_in : He.DefD := ⟨("value_in", none), "value_in", "value_in", defArgs st_value_in, defBody st_value_in, defScope st_value_in, [], []⟩
def df_format_in : He.DefD := ⟨("format_in", none), "format_in", "format_in", defArgs st_format_in, defBody st_format_in, defScope st_format_in, [], []⟩
def df_show_format : He.DefD := ⟨("show_format", none), "show_format", "show_format", defArgs st_show_format, defBody st_show_format, defScope st_show_format, [], []⟩
def df_parse_format : He.DefD := ⟨("parse_format", none), "parse_format", "parse_format", defArgs st_parse_format, defBody st_parse_format, defScope st_parse_format, [], []⟩
def df_show_file : He.DefD := ⟨("show_file", none), "show_file", "show_file", defArgs st_show_file, defBody st_show_file, defScope st_show_file, [], []⟩
def df_parse_file : He.DefD := ⟨("parse_file", none), "parse_file", "parse_file", defArgs st_parse_file, defBody st_parse_file, defScope st_parse_file, [], []⟩
def df__law_bag : He.DefD := ⟨("_law_bag", none), "_law_bag", "_law_bag", defArgs st__law_bag, defBody st__law_bag, defScope st__law_bag, [], []⟩
def df__law_grab : He.DefD := ⟨("_law_grab", none), "_law_grab", "_law_grab", defArgs st__law_grab, defBody st__law_grab, defScope st__law_grab, [], []⟩
def df__law_equal : He.DefD := ⟨("_law_equal", none), "_law_equal", "_law_equal", defArgs st__law_equal, defBody st__law_equal, defScope st__law_equal, [], []⟩
def df__law_drawn_tags : He.DefD := ⟨("_law_drawn_tags", none), "_law_drawn_tags", "_law_drawn_tags", defArgs st__law_drawn_tags, defBody st__law_drawn_tags, defScope st__law_drawn_tags, [], []⟩
def df__law_drawn_form : He.DefD := ⟨("_law_drawn_form", none), "_law_drawn_form", "_law_drawn_form", defArgs st__law_drawn_form, defBody st__law_drawn_form, defScope st__law_drawn_form, [], []⟩
def df__law_any_form : He.DefD := ⟨("_law_any_form", none), "_law_any_form", "_law_any_form", defArgs st__law_any_form, defBody st__law_any_form, defScope st__law_any_form, [], []⟩
def df__law_form_line : He.DefD := ⟨("_law_form_line", none), "_law_form_line", "_law_form_line", defArgs st__law_form_line, defBody st__law_form_line, defScope st__law_form_line, [], []⟩
def df__law_file_line : He.DefD := ⟨("_law_file_line", none), "_law_file_line", "_law_file_line", defArgs st__law_file_line, defBody st__law_file_line, defScope st__law_file_line, [], []⟩
def df_law : He.DefD := ⟨("law", none), "law", "law", defArgs st_law, defBody st_law, defScope st_law, [], []⟩
def fn : List He.DefD := [df_is_integer, df_is_at_least, df_is_sign, df_is_signs, df_is_word_of, df_is_tags, df_is_head, df_is_format, df_is_file_of, df_check_format, df_check_file, df_number_in, df_signs_text, df_signs_in, df_mark_text, df_part_text, df_format_text, df_mark_in, df_tag_in, df_value_in, df_format_in, df_show_format, df_parse_format, df_show_file, df_parse_file, df__law_bag, df__law_grab, df__law_equal, df__law_drawn_tags, df__law_drawn_form, df__law_any_form, df__law_form_line, df__law_file_line, df_law]
def fa : List He.Fa := [.glo "is_integer", .glo "is_at_least", .glo "is_sign", .glo "is_signs", .glo "is_word_of", .glo "is_tags", .glo "is_head", .glo "is_format", .glo "is_file_of", .glo "check_format", .glo "check_file", .glo "number_in", .glo "signs_text", .glo "signs_in", .glo "mark_text", .glo "part_text", .glo "format_text", .glo "mark_in", .glo "tag_in", .glo "value_in", .glo "format_in", .glo "show_format", .glo "parse_format", .glo "show_file", .glo "parse_file", .glo "_law_bag", .glo "_law_grab", .glo "_law_equal", .glo "_law_drawn_tags", .glo "_law_drawn_form", .glo "_law_any_form", .glo "_law_form_line", .glo "_law_file_line", .glo "law", .free "abs", .free "all", .free "bool", .free "int", .free "isinstance", .free "len", .free "list", .free "max", .free "min", .free "range", .free "str", .free "tuple", .free "zip", .glo "USES", .int "GREATEST_BASE" 256, .glo "WIDTHS", .glo "OTHERS", .str "DIGITS" "0123456789", .str "EMPTY" "empty", .str "ANY" "*", .glo "PARTS"]
def ex (K : PySem.W.Frag) : Bool := He.tupB K "USES" [(.str "keep"), (.str "check"), (.str "skip"), (.str "end"), (.str "stop")] && (He.tupB K "WIDTHS" [(.str "one"), (.str "high"), (.str "low")] && (He.tupB K "OTHERS" [(.str "skip"), (.str "refuse")] && (He.tupB K "PARTS" [(.str "base"), (.str "head"), (.str "width"), (.str "most"), (.str "tags"), (.str "others")])))
abbrev R : PySem.W.OpenRow := PySem.W.OpenLaw.row PySem.Challenge.rw_bothreaders_k50_texts_written_and_read
abbrev hk : PySem.W.Hook := He.hookX 4 fa fn [] [] ex
def ob (s : PySem.W.SharedT) : He.AlX := He.obsX 4 fa fn [] [] ex (HandSHeadRun.getT s)
theorem ob_eq (s : PySem.W.SharedT) : ob s = hk.obs s.abs := He.obsX_eq (HandSHeadRun.getT_eq s)
def lo0 : List Str := ["FileError", "InvalidFormat", "InvalidFile", "InvalidText", "KEEP", "CHECK", "SKIP", "END", "STOP", "REFUSE", "USES", "OTHERS", "ONE", "HIGH", "LOW", "WIDTHS", "GREATEST_BASE", "is_integer", "is_at_least", "is_sign", "is_signs", "is_word_of", "is_tags", "is_head", "is_format", "is_file_of", "check_format", "check_file", "EMPTY", "ANY"]
def lo1 : List Str := ["PARTS", "DIGITS", "number_in", "signs_text", "signs_in", "mark_text", "part_text", "format_text", "mark_in", "tag_in", "value_in", "format_in", "show_format", "parse_format", "show_file", "parse_file", "_law_bag", "_law_grab", "_law_equal", "_law_drawn_tags", "_law_drawn_form", "_law_any_form", "_law_form_line", "_law_file_line"]
def loose : List Str := lo0 ++ lo1
theorem run (w : World) : HandSHeadRun.RunEq R (PySem.W.view R.prog [58]) hk ob 6000 loose w := by
  intro os
  kernel_rfl
theorem tx_of {h : Heap} {w : World} {K : PySem.W.Frag} {mg : Str → Option Value} (X : K.In h) (Gn : h.Ns mainGlobals mg) (c : He.SaysX fa fn [] [] ex w h K) : Tx ⟨K, mg⟩ := by
  have cd : He.SaysD fa fn K := congrArg (fun z : He.AlT => z.1) c.t
  have ce : ex K = true := c.more
  exact {
    free_abs := He.free_ok X Gn (cd.fact 34 (f := .free "abs") rfl),
    free_all := He.free_ok X Gn (cd.fact 35 (f := .free "all") rfl),
    free_bool := He.free_ok X Gn (cd.fact 36 (f := .free "bool") rfl),
    free_int := He.free_ok X Gn (cd.fact 37 (f := .free "int") rfl),
    free_isinstance := He.free_ok X Gn (cd.fact 38 (f := .free "isinstance") rfl),
    free_len := He.free_ok X Gn (cd.fact 39 (f := .free "len") rfl),
    free_list := He.free_ok X Gn (cd.fact 40 (f := .free "list") rfl),
    free_max := He.free_ok X Gn (cd.fact 41 (f := .free "max") rfl),
    free_min := He.free_ok X Gn (cd.fact 42 (f := .free "min") rfl),
    free_range := He.free_ok X Gn (cd.fact 43 (f := .free "range") rfl),
    free_str := He.free_ok X Gn (cd.fact 44 (f := .free "str") rfl),
    free_tuple := He.free_ok X Gn (cd.fact 45 (f := .free "tuple") rfl),
    free_zip := He.free_ok X Gn (cd.fact 46 (f := .free "zip") rfl),
    c_USES := gconst_tup (vs := [(.str "keep"), (.str "check"), (.str "skip"), (.str "end"), (.str "stop")]) (He.ba ce).1 (He.glo_ok X Gn (cd.fact 47 (f := .glo "USES") rfl)),
    c_GREATEST_BASE := gconst_int (He.int_ok X Gn (cd.fact 48 (f := .int "GREATEST_BASE" 256) rfl)),
    c_WIDTHS := gconst_tup (vs := [(.str "one"), (.str "high"), (.str "low")]) (He.ba (He.ba ce).2).1 (He.glo_ok X Gn (cd.fact 49 (f := .glo "WIDTHS") rfl)),
    c_OTHERS := gconst_tup (vs := [(.str "skip"), (.str "refuse")]) (He.ba (He.ba (He.ba ce).2).2).1 (He.glo_ok X Gn (cd.fact 50 (f := .glo "OTHERS") rfl)),
    c_DIGITS := gconst_str (He.str_ok X Gn (cd.fact 51 (f := .str "DIGITS" "0123456789") rfl)),
    c_EMPTY := gconst_str (He.str_ok X Gn (cd.fact 52 (f := .str "EMPTY" "empty") rfl)),
    c_ANY := gconst_str (He.str_ok X Gn (cd.fact 53 (f := .str "ANY" "*") rfl)),
    c_PARTS := gconst_tup (vs := [(.str "base"), (.str "head"), (.str "width"), (.str "most"), (.str "tags"), (.str "others")]) (He.ba (He.ba (He.ba ce).2).2).2 (He.glo_ok X Gn (cd.fact 54 (f := .glo "PARTS") rfl)),
    d_is_integer := defT_of (He.glo_ok X Gn (cd.fact 0 (f := .glo "is_integer") rfl)) (cd.def_ 0 (d := df_is_integer) rfl),
    d_is_at_least := defT_of (He.glo_ok X Gn (cd.fact 1 (f := .glo "is_at_least") rfl)) (cd.def_ 1 (d := df_is_at_least) rfl),
    d_is_sign := defT_of (He.glo_ok X Gn (cd.fact 2 (f := .glo "is_sign") rfl)) (cd.def_ 2 (d := df_is_sign) rfl),
    d_is_signs := defT_of (He.glo_ok X Gn (cd.fact 3 (f := .glo "is_signs") rfl)) (cd.def_ 3 (d := df_is_signs) rfl),
    d_is_word_of := defT_of (He.glo_ok X Gn (cd.fact 4 (f := .glo "is_word_of") rfl)) (cd.def_ 4 (d := df_is_word_of) rfl),
    d_is_tags := defT_of (He.glo_ok X Gn (cd.fact 5 (f := .glo "is_tags") rfl)) (cd.def_ 5 (d := df_is_tags) rfl),
    d_is_head := defT_of (He.glo_ok X Gn (cd.fact 6 (f := .glo "is_head") rfl)) (cd.def_ 6 (d := df_is_head) rfl),
    d_is_format := defT_of (He.glo_ok X Gn (cd.fact 7 (f := .glo "is_format") rfl)) (cd.def_ 7 (d := df_is_format) rfl),
    d_is_file_of := defT_of (He.glo_ok X Gn (cd.fact 8 (f := .glo "is_file_of") rfl)) (cd.def_ 8 (d := df_is_file_of) rfl),
    d_check_format := defT_of (He.glo_ok X Gn (cd.fact 9 (f := .glo "check_format") rfl)) (cd.def_ 9 (d := df_check_format) rfl),
    d_check_file := defT_of (He.glo_ok X Gn (cd.fact 10 (f := .glo "check_file") rfl)) (cd.def_ 10 (d := df_check_file) rfl),
    d_number_in := defT_of (He.glo_ok X Gn (cd.fact 11 (f := .glo "number_in") rfl)) (cd.def_ 11 (d := df_number_in) rfl),
    d_signs_text := defT_of (He.glo_ok X Gn (cd.fact 12 (f := .glo "signs_text") rfl)) (cd.def_ 12 (d := df_signs_text) rfl),
    d_signs_in := defT_of (He.glo_ok X Gn (cd.fact 13 (f := .glo "signs_in") rfl)) (cd.def_ 13 (d := df_signs_in) rfl),
    d_mark_text := defT_of (He.glo_ok X Gn (cd.fact 14 (f := .glo "mark_text") rfl)) (cd.def_ 14 (d := df_mark_text) rfl),
    d_part_text := defT_of (He.glo_ok X Gn (cd.fact 15 (f := .glo "part_text") rfl)) (cd.def_ 15 (d := df_part_text) rfl),
    d_format_text := defT_of (He.glo_ok X Gn (cd.fact 16 (f := .glo "format_text") rfl)) (cd.def_ 16 (d := df_format_text) rfl),
    d_mark_in := defT_of (He.glo_ok X Gn (cd.fact 17 (f := .glo "mark_in") rfl)) (cd.def_ 17 (d := df_mark_in) rfl),
    d_tag_in := defT_of (He.glo_ok X Gn (cd.fact 18 (f := .glo "tag_in") rfl)) (cd.def_ 18 (d := df_tag_in) rfl),
    d_value_in := defT_of (He.glo_ok X Gn (cd.fact 19 (f := .glo "value_in") rfl)) (cd.def_ 19 (d := df_value_in) rfl),
    d_format_in := defT_of (He.glo_ok X Gn (cd.fact 20 (f := .glo "format_in") rfl)) (cd.def_ 20 (d := df_format_in) rfl),
    d_show_format := defT_of (He.glo_ok X Gn (cd.fact 21 (f := .glo "show_format") rfl)) (cd.def_ 21 (d := df_show_format) rfl),
    d_parse_format := defT_of (He.glo_ok X Gn (cd.fact 22 (f := .glo "parse_format") rfl)) (cd.def_ 22 (d := df_parse_format) rfl),
    d_show_file := defT_of (He.glo_ok X Gn (cd.fact 23 (f := .glo "show_file") rfl)) (cd.def_ 23 (d := df_show_file) rfl),
    d_parse_file := defT_of (He.glo_ok X Gn (cd.fact 24 (f := .glo "parse_file") rfl)) (cd.def_ 24 (d := df_parse_file) rfl),
    d__law_bag := defT_of (He.glo_ok X Gn (cd.fact 25 (f := .glo "_law_bag") rfl)) (cd.def_ 25 (d := df__law_bag) rfl),
    d__law_grab := defT_of (He.glo_ok X Gn (cd.fact 26 (f := .glo "_law_grab") rfl)) (cd.def_ 26 (d := df__law_grab) rfl),
    d__law_equal := defT_of (He.glo_ok X Gn (cd.fact 27 (f := .glo "_law_equal") rfl)) (cd.def_ 27 (d := df__law_equal) rfl),
    d__law_drawn_tags := defT_of (He.glo_ok X Gn (cd.fact 28 (f := .glo "_law_drawn_tags") rfl)) (cd.def_ 28 (d := df__law_drawn_tags) rfl),
    d__law_drawn_form := defT_of (He.glo_ok X Gn (cd.fact 29 (f := .glo "_law_drawn_form") rfl)) (cd.def_ 29 (d := df__law_drawn_form) rfl),
    d__law_any_form := defT_of (He.glo_ok X Gn (cd.fact 30 (f := .glo "_law_any_form") rfl)) (cd.def_ 30 (d := df__law_any_form) rfl),
    d__law_form_line := defT_of (He.glo_ok X Gn (cd.fact 31 (f := .glo "_law_form_line") rfl)) (cd.def_ 31 (d := df__law_form_line) rfl),
    d__law_file_line := defT_of (He.glo_ok X Gn (cd.fact 32 (f := .glo "_law_file_line") rfl)) (cd.def_ 32 (d := df__law_file_line) rfl),
    d_law := defT_of (He.glo_ok X Gn (cd.fact 33 (f := .glo "law") rfl)) (cd.def_ 33 (d := df_law) rfl) }
end K50
set_option Elab.async false
set_option linter.all false
set_option maxRecDepth 100000
set_option maxHeartbeats 1000000
namespace K50
open PySem L2 TL Bq
variable {S : Sto}
theorem e_is_integer (i : Int) : F_is_integer [.d (.int i)] S = some (.ok (.d (.bool true)), S) := by
  simp [F_is_integer, fnS_eq]
theorem e_is_integer_n : F_is_integer [.d .none] S = some (.ok (.d (.bool false)), S) := by
  simp [F_is_integer, fnS_eq]
theorem e_is_at_least (i j : Int) : F_is_at_least [.d (.int i), .d (.int j)] S = some (.ok (.d (.bool (decide (j ≤ i)))), S) := by
  simp [F_is_at_least, fnS_eq, e_is_integer, opGe, op2I]
theorem e_is_sign {b i : Int} (h0 : 0 ≤ i) (h1 : i < b) : F_is_sign [.d (.int b), .d (.int i)] S = some (.ok (.d (.bool true)), S) := by
  simp [F_is_sign, fnS_eq, e_is_integer, opLe, opLt, op2I, h0, h1]
theorem sz : sizeLine = 16777216 := rfl
theorem e_is_signs {b : Int} {xs : List Int} (h : ∀ i ∈ xs, 0 ≤ i ∧ i < b) (hl : xs.length ≤ sizeLine) : F_is_signs [.d (.int b), .d (.tuple (xs.map PyData.int))] S = some (.ok (.d (.bool true)), S) := by
  have e := lcGo_map (S := S) (env := [some (.d (.int b)), some (.d (.tuple (xs.map PyData.int))), none]) (g := gN 2) (f := eCall F_is_sign (aCons (eVar 0) (aCons (eVar 2) (aNil)))) (h := fun _ => .bool true) (items := xs.map PyData.int) (acc := [])
    (fun x hx => by
      obtain ⟨i, hi, rfl⟩ := List.mem_map.mp hx
      obtain ⟨h0, h1⟩ := h i hi
      exact ⟨_, rfl, by simp [e_is_sign h0 h1]⟩) (by simpa using hl)
  have a := allW_true (S := S) (ds := (xs.map PyData.int).map fun _ => PyData.bool true) (by simp)
  simp at e a
  simp [F_is_signs, fnS_eq, e, a, f1]
/-! ### forms -/
structure Fm where
  b : Nat
  hd : List (Option Nat)
  wd : Str
  mo : Nat
  tg : List (Nat × Str)
  ot : Str
def mkD : Option Nat → D
  | none => .none
  | some n => .int n
def tgD (t : Nat × Str) : D := .tuple [.int t.1, .str t.2]
def Fm.D (f : Fm) : D := .tuple [.int f.b, .tuple (f.hd.map mkD), .str f.wd, .int f.mo, .tuple (f.tg.map tgD), .str f.ot]
def usesL : List Str := ["keep", "check", "skip", "end", "stop"]
def widthsL : List Str := ["one", "high", "low"]
def othersL : List Str := ["skip", "refuse"]
structure Fm.ok (f : Fm) : Prop where
  b2 : 2 ≤ f.b
  b256 : f.b ≤ 256
  hd : ∀ n, some n ∈ f.hd → n < f.b
  wd : f.wd ∈ widthsL
  mo : f.mo < 10 ^ 9
  tg : ∀ t ∈ f.tg, t.1 < f.b ∧ t.2 ∈ usesL
  asc : f.tg.Pairwise (fun s t => s.1 < t.1)
  ot : f.ot ∈ othersL
  hl : f.hd.length ≤ 300
  tl : f.tg.length ≤ 300
theorem opIn_w (u : Str) (b : List D) : opIn (.d (.str u)) (.d (.tuple b)) = if (SeqAt.shaped (.str u) && SeqAt.shaped (.tuple b)) = true then retB (b.any fun z => PyData.eqv z (.str u)) else M.no := rfl
theorem opIn_s (u v : Str) : opIn (.d (.str u)) (.d (.str v)) = retB (sub_in u v) := rfl
theorem e_word {u : Str} {ws : List Str} (h : u ∈ ws) (h1 : SeqAt.shaped (.tuple (ws.map PyData.str)) = true) : F_is_word_of [.d (.str u), .d (.tuple (ws.map PyData.str))] S = some (.ok (.d (.bool true)), S) := by
  have h2 : (SeqAt.shaped (.str u)) = true := by
    have z := PyData.canLay0.eq_def (.tuple (ws.map PyData.str))
    have c := (Bool.and_eq_true_iff.mp (show (PyData.canLay0 (.tuple (ws.map PyData.str)) && decide _) = true from h1)).1
    have key : ∀ l : List Str, PyData.canLayAll0 (l.map PyData.str) = true → ∀ u ∈ l, PyData.strOk u = true := by
      intro l
      induction l with
      | nil => intro _ u hu; cases hu
      | cons x l ih =>
        intro hl u hu
        have hl : (PyData.canLay0 (.str x) && PyData.canLayAll0 (l.map PyData.str)) = true := by simpa [PyData.canLayAll0] using hl
        obtain ⟨p, q⟩ := Bool.and_eq_true_iff.mp hl
        rcases List.mem_cons.mp hu with rfl | hu
        · simpa [PyData.canLay0] using p
        · exact ih q u hu
    have c2 : PyData.canLayAll0 (ws.map PyData.str) = true := by simpa [PyData.canLay0] using c
    have k := key ws c2 u h
    simp [SeqAt.shaped, PyData.canLay0, PyData.depth, k]
  have h3 : ((ws.map PyData.str).any fun z => PyData.eqv z (.str u)) = true := by
    rw [List.any_eq_true]
    exact ⟨.str u, List.mem_map.mpr ⟨u, h, rfl⟩, by simp⟩
  simp [F_is_word_of, fnS_eq, opIn_w, h1, h2]
  exact h
theorem uses_c : (c_USES : D) = .tuple (usesL.map PyData.str) := rfl
theorem widths_c : (c_WIDTHS : D) = .tuple (widthsL.map PyData.str) := rfl
theorem others_c : (c_OTHERS : D) = .tuple (othersL.map PyData.str) := rfl
theorem uses_sh : SeqAt.shaped (.tuple (usesL.map PyData.str)) = true := by decide +kernel
theorem widths_sh : SeqAt.shaped (.tuple (widthsL.map PyData.str)) = true := by decide +kernel
theorem others_sh : SeqAt.shaped (.tuple (othersL.map PyData.str)) = true := by decide +kernel
theorem e_is_head {b : Nat} {hd : List (Option Nat)} (h : ∀ n, some n ∈ hd → n < b) (hl : hd.length ≤ 300) : F_is_head [.d (.int b), .d (.tuple (hd.map mkD))] S = some (.ok (.d (.bool true)), S) := by
  have e := lcGo_map (S := S) (env := [some (.d (.int b)), some (.d (.tuple (hd.map mkD))), none]) (g := gN 2) (f := eOr (eBin opIs (eVar 2) (eC .none)) (eCall F_is_sign (aCons (eVar 0) (aCons (eVar 2) (aNil))))) (h := fun _ => .bool true) (items := hd.map mkD) (acc := [])
    (fun x hx => by
      obtain ⟨m, hm, rfl⟩ := List.mem_map.mp hx
      cases m with
      | none => exact ⟨_, rfl, by simp [mkD]⟩
      | some n =>
        have := h n hm
        exact ⟨_, rfl, by simp [mkD, e_is_sign (show (0 : Int) ≤ (n : Int) by omega) (show (n : Int) < (b : Int) by omega)]⟩) (by rw [sz]; simp; omega)
  have a := allW_true (S := S) (ds := (hd.map mkD).map fun _ => PyData.bool true) (by simp)
  simp at e a
  simp [F_is_head, fnS_eq, e, a, f1]
theorem zip_asc : ∀ {tg : List (Nat × Str)}, tg.Pairwise (fun s t => s.1 < t.1) → ∀ x ∈ zipD (tg.map tgD) (tg.map tgD).tail, ∃ s t : Nat × Str, x = .tuple [tgD s, tgD t] ∧ s.1 < t.1
  | [], _, x, hx => by cases hx
  | [s], _, x, hx => by cases hx
  | s :: t :: r, h, x, hx => by
    have hx : x ∈ PyData.tuple [tgD s, tgD t] :: zipD ((t :: r).map tgD) ((t :: r).map tgD).tail := hx
    rcases List.mem_cons.mp hx with rfl | hx
    · exact ⟨s, t, rfl, (List.pairwise_cons.mp h).1 t List.mem_cons_self⟩
    · exact zip_asc (List.pairwise_cons.mp h).2 x hx
theorem zipD_len (xs ys : List D) : (zipD xs ys).length ≤ xs.length := by
  unfold zipD
  rw [List.length_zipWith]
  omega
theorem e_is_tags {b : Nat} {tg : List (Nat × Str)} (h : ∀ t ∈ tg, t.1 < b ∧ t.2 ∈ usesL) (ha : tg.Pairwise (fun s t => s.1 < t.1)) (hl : tg.length ≤ 300) : F_is_tags [.d (.int b), .d (.tuple (tg.map tgD))] S = some (.ok (.d (.bool true)), S) := by
  obtain ⟨env1, S1, h1, h2⟩ := forD_inv (S := S) (env := [some (.d (.int b)), some (.d (.tuple (tg.map tgD))), none, none]) (items := tg.map tgD) (g := gN 2)
    (b := sIf (cOr (cNot (cVal (eIsi "tuple" (eVar 2)))) (cOr (cVal (eBin opNe (eCall (f1 lenW) (aCons (eVar 2) (aNil))) (eC (.int 2)))) (cOr (cNot (cVal (eCall F_is_sign (aCons (eVar 0) (aCons (eBin ixW (eVar 2) (eC (.int 0))) (aNil)))))) (cNot (cVal (eCall F_is_word_of (aCons (eBin ixW (eVar 2) (eC (.int 1))) (aCons (eC c_USES) (aNil))))))))) (sRet (eC (.bool false))) (sNil))
    (fun rest env S' => S' = S ∧ (∃ z, env = [some (.d (.int b)), some (.d (.tuple (tg.map tgD))), z, none]) ∧ ∀ x ∈ rest, x ∈ tg.map tgD)
    (fun x rest env S' ⟨h1, ⟨z, h2⟩, h3⟩ => by
      subst h1 h2
      obtain ⟨t, ht, rfl⟩ := List.mem_map.mp (h3 x List.mem_cons_self)
      obtain ⟨p, q⟩ := h t ht
      refine ⟨_, rfl, [some (.d (.int b)), some (.d (.tuple (tg.map tgD))), some (.d (tgD t)), none], S', ?_, rfl, ⟨_, rfl⟩, fun y hy => h3 y (List.mem_cons_of_mem _ hy)⟩
      have e1 := e_is_sign (S := S') (show (0 : Int) ≤ (t.1 : Int) by omega) (show (t.1 : Int) < (b : Int) by omega)
      have e2 := e_word (S := S') q uses_sh
      rw [← uses_c] at e2
      simp [tgD, f1, e1, e2, atI, ixN]) ⟨rfl, ⟨_, rfl⟩, fun _ h => h⟩
  obtain ⟨rfl, ⟨z, rfl⟩, _⟩ := h2
  have e := lcGo_map (S := S1) (env := [some (.d (.int b)), some (.d (.tuple (tg.map tgD))), none, none]) (g := gT 2 (gsCons (gN 2) (gsCons (gN 3) (gsNil)))) (f := eBin opLt (eBin ixW (eVar 2) (eC (.int 0))) (eBin ixW (eVar 3) (eC (.int 0)))) (h := fun _ => .bool true) (items := zipD (tg.map tgD) (tg.map tgD).tail) (acc := [])
    (fun x hx => by
      obtain ⟨s, t, rfl, hst⟩ := zip_asc ha x hx
      exact ⟨_, rfl, by simp [tgD, atI, ixN, opLt, op2I, hst]⟩) (by rw [sz]; have := zipD_len (tg.map tgD) (tg.map tgD).tail; simp at this ⊢; omega)
  have a := allW_true (S := S1) (ds := (zipD (tg.map tgD) (tg.map tgD).tail).map fun _ => PyData.bool true) (by simp)
  simp [F_is_tags, fnS_eq, h1, cutD_tail, e, a, f1]
theorem e_is_format {f : Fm} (h : f.ok) : F_is_format [.d f.D] S = some (.ok (.d (.bool true)), S) := by
  have b2 := h.b2
  have b256 := h.b256
  have e1 := e_is_head (S := S) h.hd h.hl
  have e2 := e_is_tags (S := S) h.tg h.asc h.tl
  have e3 := e_word (S := S) h.wd widths_sh
  have e4 := e_word (S := S) h.ot others_sh
  rw [← widths_c] at e3
  rw [← others_c] at e4
  have d1 : ¬ (f.b : Int) < 2 := by omega
  have d2 : ¬ (256 : Int) < f.b := by omega
  have d3 : (2 : Int) ≤ (f.b : Int) := by omega
  simp [F_is_format, fnS_eq, Fm.D, f1, gT, gsCons, gsNil, e_is_at_least, e1, e2, e3, e4, opGt, op2I, d1, d2, d3]
end K50
set_option Elab.async false
set_option linter.all false
set_option maxRecDepth 100000
set_option maxHeartbeats 1000000
namespace K50
open PySem L2 TL Bq
variable {S : Sto}
/-! ### numbers -/
theorem digit_in : ∀ k < 10, sub_in ⟨#[48 + k]⟩ "0123456789" = true := by decide +kernel
theorem chars_num (n : Nat) : chars (num n) = (numL n).map fun c => PyData.str ⟨#[c]⟩ := by
  show (tl (num n)).map _ = _
  rw [tl_numS]
theorem e_number_in {n : Nat} (h : n < 10 ^ 600) : F_number_in [.d (.str (num n))] S = some (.ok (.d (.int n)), S) := by
  have hl := num_len (by decide) h
  have hs : (num n).length ≤ sizeLine := by rw [sz]; omega
  have e := lcGo_map (S := S) (env := [some (.d (.str (num n))), none]) (g := gN 1) (f := eBin opIn (eVar 1) (eC c_DIGITS)) (h := fun _ => .bool true) (items := chars (num n)) (acc := [])
    (fun x hx => by
      rw [chars_num] at hx
      obtain ⟨c, hc, rfl⟩ := List.mem_map.mp hx
      obtain ⟨p, q⟩ := numL_digits n c hc
      have d := digit_in (c - 48) (by omega)
      rw [show 48 + (c - 48) = c by omega] at d
      exact ⟨_, rfl, by simp [opIn_s, d]⟩) (by
        rw [chars_num]
        have := hs
        rw [len_tl, tl_numS] at this
        simpa using this)
  have a := allW_true (S := S) (ds := (chars (num n)).map fun _ => PyData.bool true) (by simp)
  have ne : num n ≠ "" := fun z => numL_ne n (by rw [← tl_numS, z]; rfl)
  obtain ⟨c, r, hc⟩ : ∃ c r, numL n = c :: r := by
    cases q : numL n with
    | nil => exact absurd q (numL_ne n)
    | cons c r => exact ⟨c, r, rfl⟩
  have hci : (num n).cps.toList = c :: r := by rw [← hc]; exact tl_numS n
  have hint : intW (.d (.str (num n))) = retI n := by
    show (if (num n).length ≤ 640 then (match PySem.intText? (num n) with | some n => retI n | none => M.no) else M.no) = _
    rw [if_pos (by omega), show PySem.intText? (num n) = some (n : Int) from int_num (by rw [← tl_numS, ← len_tl]; omega)]
  have key : (⟨#[c]⟩ : Str) = "0" → num n = "0" := fun z => by
    have z2 : tl (⟨#[c]⟩ : Str) = tl "0" := by rw [z]
    have z3 : [c] = [48] := z2
    have := numL_head hc (by injection z3)
    rw [this]
    exact num_zero
  by_cases k : (⟨#[c]⟩ : Str) = "0"
  · have k2 := eq_true (key k)
    simp [F_number_in, fnS_eq, f1, ne, e, a, hs, hci, atI, ixN, k, k2, hint]
  · simp [F_number_in, fnS_eq, f1, ne, e, a, hs, hci, atI, ixN, k, hint]
/-! ### parts -/
def markT : Option Nat → Str
  | none => "*"
  | some n => num n
theorem log_small {n : Nat} (h : n < 10 ^ 9) : ((n : Nat) : Int).natAbs.log2 < 1920 := by
  rw [Int.natAbs_natCast]
  exact log_lt (Nat.lt_of_lt_of_le h (by decide +kernel)) (by decide)
theorem strW_num {n : Nat} (h : n < 10 ^ 9) : strW (.d (.int n)) = retS (num n) := by
  show (if ((n : Nat) : Int).natAbs.log2 < 1920 then retS (toString ((n : Nat) : Int)) else M.no) = _
  rw [if_pos (log_small h)]
  rfl
theorem e_mark_text {m : Option Nat} (h : ∀ n, m = some n → n < 10 ^ 9) : F_mark_text [.d (mkD m)] S = some (.ok (.d (.str (markT m))), S) := by
  cases m with
  | none => simp [F_mark_text, fnS_eq, mkD, markT]
  | some n => simp [F_mark_text, fnS_eq, mkD, markT, f1, strW_num (h n rfl), -strW_int]
def partT (w v : Str) : Str := if v = "" then w else w ++ " " ++ v
theorem e_part_text {w v : Str} (h : w.length + 1 + v.length ≤ sizeLine) : F_part_text [.d (.str w), .d (.str v)] S = some (.ok (.d (.str (partT w v))), S) := by
  have e0 : (Str.empty ++ w) = w := ext_tl (by rw [tl_append]; rfl)
  have e1 : (w ++ " " : Str).length = w.length + 1 := app_len _ _
  have e2 : (w ++ " " ++ v : Str).length = w.length + 1 + v.length := by rw [app_len, e1]
  have z1 : w.length ≤ sizeLine := by omega
  have z2 : w.length + 1 ≤ sizeLine := by omega
  by_cases k : v = ""
  · simp [F_part_text, fnS_eq, partT, k]
  · have z4 : v.length ≤ sizeLine := by omega
    simp [F_part_text, fnS_eq, partT, k, eFmt, e0, e1, e2, h, z1, z2, z4]
theorem e_value_in {w v : Str} (hv : (w ++ " " ++ v : Str).length ≤ sizeLine) : F_value_in [.d (.str (partT w v)), .d (.str w)] S = some (.ok (.d (.str v)), S) := by
  have e1 : (w ++ " " : Str).length = w.length + 1 := app_len _ _
  have e2 : (w ++ " " ++ v : Str).length = w.length + 1 + v.length := by rw [app_len, e1]
  have z1 : w.length ≤ sizeLine := by omega
  have z2 : w.length + 1 ≤ sizeLine := by omega
  have z3 : w.length + Str.length " " ≤ sizeLine := z2
  by_cases k : v = ""
  · subst k
    simp [F_value_in, fnS_eq, partT]
  · have ne : ¬ (w ++ " " ++ v) = w := fun e => by
      have := congrArg Str.length e
      omega
    have c := cutS_drop (w ++ " ") v
    rw [e1] at c
    have c2 : cutS (w ++ " " ++ v) (some ((w.length : Int) + 1)) none = v := c
    simp [F_value_in, fnS_eq, partT, k, ne, f1, z1, z3, hv, starts_app, c2]
end K50
set_option Elab.async false
set_option linter.all false
set_option maxRecDepth 100000
set_option maxHeartbeats 1000000
namespace K50
open PySem L2 TL Bq
variable {S : Sto}
def marksT (hd : List (Option Nat)) : Str := Txt.join " " (hd.map markT)
def useT (t : Nat × Str) : Str := num t.1 ++ " " ++ t.2
def usesT (tg : List (Nat × Str)) : Str := Txt.join ", " (tg.map useT)
def pieces (f : Fm) : List Str := [partT "base" (num f.b), partT "head" (marksT f.hd), partT "width" f.wd, partT "most" (num f.mo), partT "tags" (usesT f.tg), partT "others" f.ot]
def line (f : Fm) : Str := Txt.join "; " (pieces f)
/-! ### sizes -/
theorem markT_len {b : Nat} {m : Option Nat} (hb : b ≤ 256) (h : ∀ n, m = some n → n < b) : (markT m).length ≤ 3 := by
  cases m with
  | none => show Str.length "*" ≤ 3; decide
  | some n => exact num_len (by decide) (by have := h n rfl; omega)
theorem uses_len : ∀ u ∈ usesL, u.length ≤ 5 := by decide +kernel
theorem useT_len {b : Nat} {t : Nat × Str} (hb : b ≤ 256) (h : t.1 < b ∧ t.2 ∈ usesL) : (useT t).length ≤ 9 := by
  have h1 : (num t.1).length ≤ 3 := num_len (by decide) (by omega)
  have h2 := uses_len t.2 h.2
  have e1 : (num t.1 ++ " " : Str).length = (num t.1).length + 1 := app_len _ _
  show (num t.1 ++ " " ++ t.2 : Str).length ≤ 9
  rw [app_len, e1]
  omega
theorem marks_len {f : Fm} (h : f.ok) : (marksT f.hd).length ≤ 1200 ∧ ((f.hd.map markT).map (·.length)).sum + (f.hd.map markT).length * Str.length " " ≤ 1200 :=
  join_le (m := 3) (n := 300) (fun p hp => by
    obtain ⟨m, hm, rfl⟩ := List.mem_map.mp hp
    exact markT_len h.b256 fun n e => h.hd n (e ▸ hm)) (by rw [List.length_map]; exact h.hl) (by decide)
theorem usesT_len {f : Fm} (h : f.ok) : (usesT f.tg).length ≤ 3300 ∧ ((f.tg.map useT).map (·.length)).sum + (f.tg.map useT).length * Str.length ", " ≤ 3300 :=
  join_le (m := 9) (n := 300) (fun p hp => by
    obtain ⟨t, ht, rfl⟩ := List.mem_map.mp hp
    exact useT_len h.b256 (h.tg t ht)) (by rw [List.length_map]; exact h.tl) (by decide)
theorem wd_len : ∀ u ∈ widthsL, u.length ≤ 4 := by decide +kernel
theorem ot_len : ∀ u ∈ othersL, u.length ≤ 6 := by decide +kernel
theorem partT_len {w v : Str} {n : Nat} (hw : w.length ≤ 6) (hv : v.length ≤ n) : (partT w v).length ≤ n + 7 := by
  unfold partT
  have e1 : (w ++ " " : Str).length = w.length + 1 := app_len _ _
  split
  · omega
  · rw [app_len, e1]; omega
theorem wordv_len {w v : Str} {n : Nat} (hw : w.length ≤ 6) (hv : v.length ≤ n) : w.length + 1 + v.length ≤ n + 7 ∧ (w ++ " " ++ v : Str).length ≤ n + 7 := by
  have e1 : (w ++ " " : Str).length = w.length + 1 := app_len _ _
  rw [app_len, e1]
  omega
theorem val_len {f : Fm} (h : f.ok) : (num f.b).length ≤ 3300 ∧ (marksT f.hd).length ≤ 3300 ∧ f.wd.length ≤ 3300 ∧ (num f.mo).length ≤ 3300 ∧ (usesT f.tg).length ≤ 3300 ∧ f.ot.length ≤ 3300 := by
  have h1 : (num f.b).length ≤ 3 := num_len (by decide) (by have := h.b256; omega)
  have h2 := (marks_len h).1
  have h3 := wd_len _ h.wd
  have h4 : (num f.mo).length ≤ 9 := num_len (by decide) h.mo
  have h5 := (usesT_len h).1
  have h6 := ot_len _ h.ot
  omega
theorem piece_len {f : Fm} (h : f.ok) : ∀ p ∈ pieces f, p.length ≤ 3307 := by
  obtain ⟨h1, h2, h3, h4, h5, h6⟩ := val_len h
  intro p hp
  simp only [pieces, List.mem_cons, List.not_mem_nil, or_false] at hp
  rcases hp with rfl | rfl | rfl | rfl | rfl | rfl
  · exact partT_len (by decide) h1
  · exact partT_len (by decide) h2
  · exact partT_len (by decide) h3
  · exact partT_len (by decide) h4
  · exact partT_len (by decide) h5
  · exact partT_len (by decide) h6
theorem line_len {f : Fm} (h : f.ok) : (line f).length ≤ 20000 ∧ ((pieces f).map (·.length)).sum + (pieces f).length * Str.length "; " ≤ 20000 := join_le (m := 3307) (n := 6) (piece_len h) (by simp [pieces]) (by decide)
/-! ### the program's text -/
theorem e_use {env : Sl} {b : Nat} {t : Nat × Str} (hb : b ≤ 256) (h : t.1 < b ∧ t.2 ∈ usesL) (h1 : env[10]? = some (some (.d (.int t.1)))) (h2 : env[11]? = some (some (.d (.str t.2)))) :
    eJoined [eFmt (eVar 10), eC (.str " "), eFmt (eVar 11)] env S = some (.ok (.d (.str (useT t))), S) := by
  obtain ⟨p, q⟩ := h
  have hu := uses_len _ q
  have e0 : (Str.empty ++ num t.1) = num t.1 := ext_tl (by rw [tl_append]; rfl)
  have l1 : (num t.1).length ≤ 3 := num_len (by decide) (by omega)
  have e1 : (num t.1 ++ " " : Str).length = (num t.1).length + 1 := app_len _ _
  have e2 : (num t.1 ++ " " ++ t.2 : Str).length = (num t.1).length + 1 + t.2.length := by rw [app_len, e1]
  have z1 : (num t.1).length ≤ sizeLine := by rw [sz]; omega
  have z2 : (num t.1).length + 1 ≤ sizeLine := by rw [sz]; omega
  have z3 : (num t.1).length + 1 + t.2.length ≤ sizeLine := by rw [sz]; omega
  have z4 : t.2.length ≤ sizeLine := by rw [sz]; omega
  have f1 : eFmt (eVar 10) env S = some (.ok (.d (.str (num t.1))), S) := by
    have lg := log_small (n := t.1) (by omega)
    simp only [eFmt, bnd_eq, eVar_eq, h1, ret_ap, if_pos lg]
    rfl
  have f2 : eFmt (eVar 11) env S = some (.ok (.d (.str t.2)), S) := by
    simp only [eFmt, bnd_eq, eVar_eq, h2, ret_ap, if_pos z4]
  show jsE [eFmt (eVar 10), eC (.str " "), eFmt (eVar 11)] Str.empty env S = _
  rw [jsE_cons, bnd_eq, f1]
  simp only [bnd_eq, asStr_str, ret_ap, e0, z1, if_true]
  rw [jsE_cons, bnd_eq, eC_eq]
  simp only [bnd_eq, asStr_str, ret_ap, e1, z2, if_true]
  rw [jsE_cons, bnd_eq, f2]
  simp only [bnd_eq, asStr_str, ret_ap, e2, z3, if_true]
  rfl
theorem e_format_text {f : Fm} (h : f.ok) : F_format_text [.d f.D] S = some (.ok (.d (.str (line f))), S) := by
  have m1 := lcGo_map (S := S) (env := [some (.d f.D), some (.d (.int f.b)), some (.d (.tuple (f.hd.map mkD))), some (.d (.str f.wd)), some (.d (.int f.mo)), some (.d (.tuple (f.tg.map tgD))), some (.d (.str f.ot)), none, none, none, none, none, none, none, none]) (g := gN 8)
    (f := eCall F_mark_text (aCons (eVar 8) (aNil))) (h := fun x => .str (markT (match x with | .int n => some n.toNat | _ => none))) (items := f.hd.map mkD) (acc := [])
    (fun x hx => by
      obtain ⟨m, hm, rfl⟩ := List.mem_map.mp hx
      refine ⟨_, rfl, ?_⟩
      have e := e_mark_text (S := S) (m := m) fun n e => by have := h.hd n (e ▸ hm); have := h.b256; omega
      cases m with
      | none => simpa [mkD] using e
      | some n => simpa [mkD] using e) (by rw [sz]; have := h.hl; simp; omega)
  have q1 : (f.hd.map mkD).map (fun x => PyData.str (markT (match x with | .int n => some n.toNat | _ => none))) = (f.hd.map markT).map PyData.str := by
    rw [List.map_map, List.map_map]
    refine List.map_congr_left fun m _ => ?_
    cases m <;> simp [mkD]
  rw [q1] at m1
  have m2 := lcGo_map (S := S) (env := [some (.d f.D), some (.d (.int f.b)), some (.d (.tuple (f.hd.map mkD))), some (.d (.str f.wd)), some (.d (.int f.mo)), some (.d (.tuple (f.tg.map tgD))), some (.d (.str f.ot)), some (.d (.str (marksT f.hd))), none, none, none, none, none, none, none])
    (g := gT 2 (gsCons (gN 10) (gsCons (gN 11) (gsNil)))) (f := eJoined [eFmt (eVar 10), eC (.str " "), eFmt (eVar 11)]) (h := fun x => .str (match x with | .tuple [.int s, .str u] => useT (s.toNat, u) | _ => "")) (items := f.tg.map tgD) (acc := [])
    (fun x hx => by
      obtain ⟨t, ht, rfl⟩ := List.mem_map.mp hx
      exact ⟨_, rfl, by rw [e_use h.b256 (h.tg t ht) rfl rfl]; simp [tgD]⟩) (by rw [sz]; have := h.tl; simp; omega)
  have q2 : (f.tg.map tgD).map (fun x => PyData.str (match x with | .tuple [.int s, .str u] => useT (s.toNat, u) | _ => "")) = (f.tg.map useT).map PyData.str := by
    rw [List.map_map, List.map_map]
    refine List.map_congr_left fun m _ => ?_
    simp [tgD]
  rw [q2] at m2
  obtain ⟨v1, v2, v3, v4, v5, v6⟩ := val_len h
  have m3 := lcGo_map (S := S) (env := [some (.d f.D), some (.d (.int f.b)), some (.d (.tuple (f.hd.map mkD))), some (.d (.str f.wd)), some (.d (.int f.mo)), some (.d (.tuple (f.tg.map tgD))), some (.d (.str f.ot)), some (.d (.str (marksT f.hd))), none, some (.d (.str (usesT f.tg))), none, none,
      some (.d (.tuple [.str (num f.b), .str (marksT f.hd), .str f.wd, .str (num f.mo), .str (usesT f.tg), .str f.ot])), none, none])
    (g := gT 2 (gsCons (gN 13) (gsCons (gN 14) (gsNil)))) (f := eCall F_part_text (aCons (eVar 13) (aCons (eVar 14) (aNil)))) (h := fun x => .str (match x with | .tuple [.str s, .str u] => partT s u | _ => ""))
    (items := [.tuple [.str "base", .str (num f.b)], .tuple [.str "head", .str (marksT f.hd)], .tuple [.str "width", .str f.wd], .tuple [.str "most", .str (num f.mo)], .tuple [.str "tags", .str (usesT f.tg)], .tuple [.str "others", .str f.ot]]) (acc := [])
    (fun x hx => by
      have key : ∃ w v : Str, x = .tuple [.str w, .str v] ∧ w.length ≤ 6 ∧ v.length ≤ 3300 := by
        simp only [List.mem_cons, List.not_mem_nil, or_false] at hx
        rcases hx with rfl | rfl | rfl | rfl | rfl | rfl
        · exact ⟨_, _, rfl, by decide, v1⟩
        · exact ⟨_, _, rfl, by decide, v2⟩
        · exact ⟨_, _, rfl, by decide, v3⟩
        · exact ⟨_, _, rfl, by decide, v4⟩
        · exact ⟨_, _, rfl, by decide, v5⟩
        · exact ⟨_, _, rfl, by decide, v6⟩
      obtain ⟨w, v, rfl, hw, hv⟩ := key
      exact ⟨_, rfl, by simp [e_part_text (S := S) (w := w) (v := v) (by rw [sz]; omega)]⟩) (by simp [sz])
  have s1 := strW_num (n := f.b) (by have := h.b256; omega)
  have s2 := strW_num (n := f.mo) h.mo
  have j1 := Nat.le_trans (marks_len h).2 (show 1200 ≤ 16777216 by decide)
  have j2 := Nat.le_trans (usesT_len h).2 (show 3300 ≤ 16777216 by decide)
  have j3 := Nat.le_trans (line_len h).2 (show 20000 ≤ 16777216 by decide)
  have J1 : joinS " " (.d (.list ((f.hd.map markT).map PyData.str))) = retS (marksT f.hd) := by rw [joinS_eq, strsOf_map]; dsimp only; rw [if_pos j1]; rfl
  have J2 : joinS ", " (.d (.list ((f.tg.map useT).map PyData.str))) = retS (usesT f.tg) := by rw [joinS_eq, strsOf_map]; dsimp only; rw [if_pos j2]; rfl
  have J3 : joinS "; " (.d (.list ((pieces f).map PyData.str))) = retS (line f) := by rw [joinS_eq, strsOf_map]; dsimp only; rw [if_pos j3]; rfl
  have six : (6 : Nat) ≤ sizeLine := by decide
  rw [List.nil_append] at m1 m2 m3
  have J3' := J3
  simp only [pieces, List.map_cons, List.map_nil] at J3' m3
  rw [show f.D = .tuple [.int f.b, .tuple (f.hd.map mkD), .str f.wd, .int f.mo, .tuple (f.tg.map tgD), .str f.ot] from rfl] at m1 m2 m3 ⊢
  simp [F_format_text, fnS_eq, gT, gsCons, gsNil, m1, m2, f1, s1, s2, J1, J2, -List.map_map, -joinS_eq, -strW_int, six, zipD, m3, J3']
end K50
set_option Elab.async false
set_option linter.all false
set_option maxRecDepth 100000
set_option maxHeartbeats 1000000
namespace K50
open PySem L2 TL Bq
variable {S : Sto}
/-! ### what is read back -/
theorem n600 {n : Nat} (h : n < 10 ^ 9) : n < 10 ^ 600 := Nat.lt_of_lt_of_le h (Nat.pow_le_pow_right (by decide) (by decide))
theorem num_ne_any (n : Nat) : ¬ num n = "*" := fun e => by
  have h := numL_digits n 42 (by rw [← tl_numS, e]; decide)
  omega
theorem e_mark_in {m : Option Nat} (h : ∀ n, m = some n → n < 10 ^ 9) : F_mark_in [.d (.str (markT m))] S = some (.ok (.d (mkD m)), S) := by
  cases m with
  | none => simp [F_mark_in, fnS_eq, mkD, markT]
  | some n => simp [F_mark_in, fnS_eq, mkD, markT, num_ne_any, e_number_in (n600 (h n rfl)), e_is_integer]
theorem part_use {t : Nat × Str} : Txt.partition (useT t) " " = (num t.1, (" " : Str), t.2) := partition_app (y := " ") (s := 32) (S := []) (a := num t.1) (b := t.2) (by rfl) (by rw [tl_numS]; exact numL_free (by omega))
theorem e_tag_in {b : Nat} {t : Nat × Str} (hb : b ≤ 256) (h : t.1 < b ∧ t.2 ∈ usesL) : F_tag_in [.d (.str (useT t))] S = some (.ok (.d (tgD t)), S) := by
  have hl := useT_len hb h
  have z : (useT t).length ≤ sizeLine := by rw [sz]; omega
  have two : (2 : Nat) ≤ sizeLine := by decide
  have z1 : (Str.length " " == 0) = false := by decide
  have z2 : ¬ Str.length " " = 0 := by decide
  simp [F_tag_in, fnS_eq, gT, gsCons, gsNil, tgD, part_use, z, z1, z2, two, e_number_in (S := S) (n := t.1) (n600 (by omega))]
/-! ### what pieces are free of -/
theorem joinL_free {s : Nat} {S : List Nat} (hS : s ∉ S) : ∀ {ps : List (List Nat)}, (∀ p ∈ ps, s ∉ p) → s ∉ joinL S ps
  | [], _ => by simp [joinL]
  | [p], h => h p List.mem_cons_self
  | p :: q :: r, h => by
    show s ∉ p ++ (S ++ joinL S (q :: r))
    have h2 := joinL_free hS (ps := q :: r) fun z hz => h z (List.mem_cons_of_mem _ hz)
    have h1 := h p List.mem_cons_self
    simp only [List.mem_append]
    rintro (z | z | z)
    · exact h1 z
    · exact hS z
    · exact h2 z
theorem join_free {s : Nat} {y : Str} {ps : List Str} (hS : s ∉ tl y) (h : ∀ p ∈ ps, s ∉ tl p) : s ∉ tl (Txt.join y ps) := by
  rw [join_eq, tl_join]
  exact joinL_free hS fun p hp => by
    obtain ⟨q, hq, rfl⟩ := List.mem_map.mp hp
    exact h q hq
theorem num_free {n s : Nat} (h : s < 48 ∨ 57 < s) : s ∉ tl (num n) := by rw [tl_numS]; exact numL_free h
theorem markT_free {m : Option Nat} {s : Nat} (h : s < 48 ∨ 57 < s) (h2 : s ≠ 42) : s ∉ tl (markT m) := by
  cases m with
  | none =>
    show s ∉ [42]
    simpa using h2
  | some n => exact num_free h
theorem uses_free : ∀ u ∈ usesL, 44 ∉ tl u ∧ 59 ∉ tl u := by decide +kernel
theorem widths_free : ∀ u ∈ widthsL, 59 ∉ tl u := by decide +kernel
theorem others_free : ∀ u ∈ othersL, 59 ∉ tl u := by decide +kernel
theorem useT_free {t : Nat × Str} (h : t.2 ∈ usesL) : 44 ∉ tl (useT t) ∧ 59 ∉ tl (useT t) := by
  have u := uses_free _ h
  have e : tl (useT t) = tl (num t.1) ++ tl " " ++ tl t.2 := by
    show tl (num t.1 ++ " " ++ t.2) = _
    rw [tl_append, tl_append]
  have n1 := num_free (n := t.1) (s := 44) (by omega)
  have n2 := num_free (n := t.1) (s := 59) (by omega)
  rw [e]
  simp only [List.mem_append, not_or]
  exact ⟨⟨⟨n1, by decide⟩, u.1⟩, ⟨⟨n2, by decide⟩, u.2⟩⟩
theorem partT_free {w v : Str} (hw : 59 ∉ tl w) (hv : 59 ∉ tl v) : 59 ∉ tl (partT w v) := by
  unfold partT
  split
  · exact hw
  · rw [tl_append, tl_append]
    simp only [List.mem_append, not_or]
    exact ⟨⟨hw, by decide⟩, hv⟩
theorem piece_free {f : Fm} (h : f.ok) : ∀ p ∈ pieces f, 59 ∉ tl p := by
  intro p hp
  simp only [pieces, List.mem_cons, List.not_mem_nil, or_false] at hp
  rcases hp with rfl | rfl | rfl | rfl | rfl | rfl
  · exact partT_free (by decide) (num_free (by omega))
  · exact partT_free (by decide) (join_free (by decide) fun p hp => by
      obtain ⟨m, hm, rfl⟩ := List.mem_map.mp hp
      exact markT_free (by omega) (by omega))
  · exact partT_free (by decide) (widths_free _ h.wd)
  · exact partT_free (by decide) (num_free (by omega))
  · exact partT_free (by decide) (join_free (by decide) fun p hp => by
      obtain ⟨t, ht, rfl⟩ := List.mem_map.mp hp
      exact (useT_free (h.tg t ht).2).2)
  · exact partT_free (by decide) (others_free _ h.ot)
theorem split_line {f : Fm} (h : f.ok) : Txt.split (line f) "; " = pieces f := split_join (y := "; ") (s := 59) (S := [32]) (by rfl) (by decide +kernel) (by simp [pieces]) (piece_free h)
theorem split_marks {hd : List (Option Nat)} (hne : hd ≠ []) : Txt.split (marksT hd) " " = hd.map markT := split_join (y := " ") (s := 32) (S := []) (by rfl) (by decide +kernel) (by simpa using hne) fun p hp => by
  obtain ⟨m, hm, rfl⟩ := List.mem_map.mp hp
  exact markT_free (by omega) (by omega)
theorem split_uses {f : Fm} (h : f.ok) (hne : f.tg ≠ []) : Txt.split (usesT f.tg) ", " = f.tg.map useT := split_join (y := ", ") (s := 44) (S := [32]) (by rfl) (by decide +kernel) (by simpa using hne) fun p hp => by
  obtain ⟨t, ht, rfl⟩ := List.mem_map.mp hp
  exact (useT_free (h.tg t ht).2).1
theorem join_ne {y : Str} {ps : List Str} (hne : ps ≠ []) (h : ∀ p ∈ ps, p ≠ "") : Txt.join y ps ≠ "" := fun e => by
  cases ps with
  | nil => exact hne rfl
  | cons p r =>
    have e2 : tl (Txt.join y (p :: r)) = [] := by rw [e]; rfl
    rw [join_eq, tl_join] at e2
    cases r with
    | nil => exact h p List.mem_cons_self (ext_tl (show tl p = tl "" from e2))
    | cons q r =>
      have e3 : tl p ++ (tl y ++ joinL (tl y) ((q :: r).map tl)) = [] := e2
      exact h p List.mem_cons_self (ext_tl (by rw [(List.append_eq_nil_iff.mp e3).1]; rfl))
theorem num_ne (n : Nat) : num n ≠ "" := fun e => numL_ne n (by rw [← tl_numS, e]; rfl)
theorem markT_ne (m : Option Nat) : markT m ≠ "" := by
  cases m with
  | none => show ("*" : Str) ≠ ""; decide
  | some n => exact num_ne n
theorem useT_ne (t : Nat × Str) : useT t ≠ "" := fun e => by
  have h : tl (useT t) = [] := by rw [e]; rfl
  have e2 : tl (useT t) = tl (num t.1) ++ tl " " ++ tl t.2 := by
    show tl (num t.1 ++ " " ++ t.2) = _
    rw [tl_append, tl_append]
  rw [e2] at h
  have := congrArg List.length h
  simp [tl_ofString] at this
theorem marks_ne {hd : List (Option Nat)} : marksT hd = "" ↔ hd = [] := by
  constructor
  · intro e
    by_cases h : hd = []
    · exact h
    · exact absurd e (join_ne (by simpa using h) fun p hp => by
        obtain ⟨m, _, rfl⟩ := List.mem_map.mp hp
        exact markT_ne m)
  · rintro rfl; exact ext_tl (by rw [marksT, join_eq, tl_join]; rfl)
theorem usesT_ne {tg : List (Nat × Str)} : usesT tg = "" ↔ tg = [] := by
  constructor
  · intro e
    by_cases h : tg = []
    · exact h
    · exact absurd e (join_ne (by simpa using h) fun p hp => by
        obtain ⟨m, _, rfl⟩ := List.mem_map.mp hp
        exact useT_ne m)
  · rintro rfl; exact ext_tl (by rw [usesT, join_eq, tl_join]; rfl)
/-! ### format_in -/
theorem e_format_in {f : Fm} (h : f.ok) : F_format_in [.d (.str (line f))] S = some (.ok (.d f.D), S) := by
  have ll := (line_len h).1
  have l2 : (line f).length + 2 ≤ sizeLine := by rw [sz]; omega
  have z1 : (Str.length "; " == 0) = false := by decide
  have z2 : ¬ Str.length "; " = 0 := by decide
  have y1 : (Str.length " " == 0) = false := by decide
  have y2 : ¬ Str.length " " = 0 := by decide
  have x1 : (Str.length ", " == 0) = false := by decide
  have x2 : ¬ Str.length ", " = 0 := by decide
  obtain ⟨v1, v2, v3, v4, v5, v6⟩ := val_len h
  have sp := split_line h
  have m1 := lcGo_map (S := S) (env := [some (.d (.str (line f))), some (.d (.list ((pieces f).map PyData.str))), none, none, none, none, none, none, none, none, none, none, none, none, none])
    (g := gT 2 (gsCons (gN 3) (gsCons (gN 4) (gsNil)))) (f := eCall F_value_in (aCons (eVar 3) (aCons (eVar 4) (aNil)))) (h := fun x => .str (match x with | .tuple [.str s, .str u] => if s = u then "" else cutS s (some ((u.length : Int) + 1)) none | _ => ""))
    (items := [.tuple [.str (partT "base" (num f.b)), .str "base"], .tuple [.str (partT "head" (marksT f.hd)), .str "head"], .tuple [.str (partT "width" f.wd), .str "width"], .tuple [.str (partT "most" (num f.mo)), .str "most"], .tuple [.str (partT "tags" (usesT f.tg)), .str "tags"], .tuple [.str (partT "others" f.ot), .str "others"]]) (acc := [])
    (fun x hx => by
      have key : ∃ w v : Str, x = .tuple [.str (partT w v), .str w] ∧ w.length ≤ 6 ∧ v.length ≤ 3300 := by
        simp only [List.mem_cons, List.not_mem_nil, or_false] at hx
        rcases hx with rfl | rfl | rfl | rfl | rfl | rfl
        · exact ⟨_, _, rfl, by decide, v1⟩
        · exact ⟨_, _, rfl, by decide, v2⟩
        · exact ⟨_, _, rfl, by decide, v3⟩
        · exact ⟨_, _, rfl, by decide, v4⟩
        · exact ⟨_, _, rfl, by decide, v5⟩
        · exact ⟨_, _, rfl, by decide, v6⟩
      obtain ⟨w, v, rfl, hw, hv⟩ := key
      refine ⟨_, rfl, ?_⟩
      have e := e_value_in (S := S) (w := w) (v := v) (by have := (wordv_len hw hv).2; rw [sz]; omega)
      have q : (if partT w v = w then ("" : Str) else cutS (partT w v) (some ((w.length : Int) + 1)) none) = v := by
        unfold partT
        by_cases k : v = ""
        · simp [k]
        · have e1 : (w ++ " " : Str).length = w.length + 1 := app_len _ _
          have e2 : (w ++ " " ++ v : Str).length = w.length + 1 + v.length := by rw [app_len, e1]
          have ne : ¬ (w ++ " " ++ v) = w := fun e => by
            have := congrArg Str.length e
            omega
          have c := cutS_drop (w ++ " ") v
          rw [e1] at c
          rw [if_neg k, if_neg ne]
          exact c
      simp [e, q]) (by simp [sz])
  have q : ∀ w v : Str, w.length ≤ 6 → v.length ≤ 3300 → (if partT w v = w then ("" : Str) else cutS (partT w v) (some ((w.length : Int) + 1)) none) = v := fun w v hw hv => by
    unfold partT
    by_cases k : v = ""
    · simp [k]
    · have e1 : (w ++ " " : Str).length = w.length + 1 := app_len _ _
      have e2 : (w ++ " " ++ v : Str).length = w.length + 1 + v.length := by rw [app_len, e1]
      have ne : ¬ (w ++ " " ++ v) = w := fun e => by
        have := congrArg Str.length e
        omega
      have c := cutS_drop (w ++ " ") v
      rw [e1] at c
      rw [if_neg k, if_neg ne]
      exact c
  simp only [List.nil_append, List.map_cons, List.map_nil, q _ _ (show Str.length "base" ≤ 6 by decide) v1, q _ _ (show Str.length "head" ≤ 6 by decide) v2, q _ _ (show Str.length "width" ≤ 6 by decide) v3, q _ _ (show Str.length "most" ≤ 6 by decide) v4, q _ _ (show Str.length "tags" ≤ 6 by decide) v5, q _ _ (show Str.length "others" ≤ 6 by decide) v6, pieces] at m1
  have m2 : ∀ vs : List Wv, lcGo (gN 5) cYes (eIsi "str" (eVar 5)) [some (.d (.str (line f))), some (.d (.list ((pieces f).map PyData.str))), some (.d (.list [.str (num f.b), .str (marksT f.hd), .str f.wd, .str (num f.mo), .str (usesT f.tg), .str f.ot])), none, none, none, none, none, none, none, none, none, none, none, none]
      [.str (num f.b), .str (marksT f.hd), .str f.wd, .str (num f.mo), .str (usesT f.tg), .str f.ot] [] S = some (.ok [.bool true, .bool true, .bool true, .bool true, .bool true, .bool true], S) := fun _ => by
    rw [lcGo_map (h := fun _ => .bool true) (fun x hx => by
      simp only [List.mem_cons, List.not_mem_nil, or_false] at hx
      rcases hx with rfl | rfl | rfl | rfl | rfl | rfl <;> exact ⟨_, rfl, by simp⟩) (by simp [sz])]
    rfl
  have a2 := allW_true (S := S) (ds := [PyData.bool true, .bool true, .bool true, .bool true, .bool true, .bool true]) (by simp)
  have six : (6 : Nat) ≤ sizeLine := by decide
  have n1 := e_number_in (S := S) (n := f.b) (n600 (by have := h.b256; omega))
  have n2 := e_number_in (S := S) (n := f.mo) (n600 h.mo)
  have m2' := m2 []
  have m3 := lcGo_maps (S := S) (env := [some (.d (.str (line f))), some (.d (.list ((pieces f).map PyData.str))), some (.d (.list [.str (num f.b), .str (marksT f.hd), .str f.wd, .str (num f.mo), .str (usesT f.tg), .str f.ot])), none, none, none, some (.d (.str (num f.b))), some (.d (.str (marksT f.hd))), some (.d (.str f.wd)), some (.d (.str (num f.mo))), some (.d (.str (usesT f.tg))), some (.d (.str f.ot)), none, none, none])
    (g := gN 4) (f := eCall F_mark_in (aCons (eVar 4) (aNil))) (a := fun m => .str (markT m)) (b := mkD) (l := f.hd) (acc := []) (fun m hm => by
      have e := e_mark_in (S := S) (m := m) fun n e => by have := h.hd n (e ▸ hm); have := h.b256; omega
      exact ⟨_, rfl, by simp [e]⟩) (by rw [sz]; have := h.hl; simp; omega)
  have m4 := lcGo_maps (S := S) (env := [some (.d (.str (line f))), some (.d (.list ((pieces f).map PyData.str))), some (.d (.list [.str (num f.b), .str (marksT f.hd), .str f.wd, .str (num f.mo), .str (usesT f.tg), .str f.ot])), none, none, none, some (.d (.str (num f.b))), some (.d (.str (marksT f.hd))), some (.d (.str f.wd)), some (.d (.str (num f.mo))), some (.d (.str (usesT f.tg))), some (.d (.str f.ot)), some (.d (.tuple (f.hd.map mkD))), none, none])
    (g := gN 14) (f := eCall F_tag_in (aCons (eVar 14) (aNil))) (a := fun t => .str (useT t)) (b := tgD) (l := f.tg) (acc := []) (fun t ht => by
      have e := e_tag_in (S := S) h.b256 (h.tg t ht)
      exact ⟨_, rfl, by simp [e]⟩) (by rw [sz]; have := h.tl; simp; omega)
  simp only [pieces, List.map_cons, List.map_nil, List.nil_append] at m2' m3 m4
  have k1 : (PyData.list []) = PyData.list [] := rfl
  have r1 : f.hd.map (fun m => PyData.str (markT m)) = (f.hd.map markT).map PyData.str := by rw [List.map_map]; rfl
  have r2 : f.tg.map (fun m => PyData.str (useT m)) = (f.tg.map useT).map PyData.str := by rw [List.map_map]; rfl
  rw [r1] at m3
  rw [r2] at m4
  have w1 : (marksT f.hd).length + 2 ≤ sizeLine := by rw [sz]; omega
  have w2 : (usesT f.tg).length + 2 ≤ sizeLine := by rw [sz]; omega
  have common := True
  by_cases c1 : f.hd = []
  · have d1 := eq_true (marks_ne.mpr c1)
    have hd0 : f.hd.map mkD = [] := by rw [c1]; rfl
    rw [hd0] at m4
    by_cases c2 : f.tg = []
    · have d2 := eq_true (usesT_ne.mpr c2)
      have tg0 : f.tg.map tgD = [] := by rw [c2]; rfl
      simp [F_format_in, fnS_eq, gT, gsCons, gsNil, f1, l2, z1, z2, sp, pieces, six, zipD, m1, m2', a2, -List.map_map, d1, d2, n1, n2, Fm.D, hd0, tg0, -List.map_eq_nil_iff]
    · have d2 : ¬ usesT f.tg = "" := fun z => c2 (usesT_ne.mp z)
      have sp2 := split_uses h c2
      simp [F_format_in, fnS_eq, gT, gsCons, gsNil, f1, l2, z1, z2, x1, x2, w2, sp, sp2, pieces, six, zipD, m1, m2', m4, a2, -List.map_map, d1, d2, n1, n2, Fm.D, hd0, -List.map_eq_nil_iff]
  · have d1 : ¬ marksT f.hd = "" := fun z => c1 (marks_ne.mp z)
    have sp1 := split_marks c1
    by_cases c2 : f.tg = []
    · have d2 := eq_true (usesT_ne.mpr c2)
      have tg0 : f.tg.map tgD = [] := by rw [c2]; rfl
      simp [F_format_in, fnS_eq, gT, gsCons, gsNil, f1, l2, z1, z2, y1, y2, w1, sp, sp1, pieces, six, zipD, m1, m2', m3, a2, -List.map_map, d1, d2, n1, n2, Fm.D, tg0, -List.map_eq_nil_iff]
    · have d2 : ¬ usesT f.tg = "" := fun z => c2 (usesT_ne.mp z)
      have sp2 := split_uses h c2
      simp [F_format_in, fnS_eq, gT, gsCons, gsNil, f1, l2, z1, z2, x1, x2, y1, y2, w1, w2, sp, sp1, sp2, pieces, six, zipD, m1, m2', m3, m4, a2, -List.map_map, d1, d2, n1, n2, Fm.D]
end K50
set_option Elab.async false
set_option linter.all false
set_option maxRecDepth 100000
set_option maxHeartbeats 1000000
namespace K50
open PySem L2 TL Bq
variable {S : Sto}
/-! ### show and parse -/
theorem e_check_format {f : Fm} (h : f.ok) : F_check_format [.d f.D] S = some (.ok (.d .none), S) := by
  simp [F_check_format, fnS_eq, e_is_format h]
theorem e_show_format {f : Fm} (h : f.ok) : F_show_format [.d f.D] S = some (.ok (.d (.str (line f))), S) := by
  simp [F_show_format, fnS_eq, e_check_format h, e_format_text h]
theorem e_parse_format {f : Fm} (h : f.ok) : F_parse_format [.d (.str (line f))] S = some (.ok (.d f.D), S) := by
  simp [F_parse_format, fnS_eq, e_format_in h, e_format_text h, e_is_format h]
def fileD (xs : List Nat) : D := .tuple (xs.map fun n => .int (n : Nat))
def sgT (xs : List Nat) : Str := if xs = [] then "empty" else Txt.join " " (xs.map num)
theorem nums_len {b : Nat} {xs : List Nat} (hb : b ≤ 256) (hx : ∀ n ∈ xs, n < b) (hl : xs.length ≤ 300) : (Txt.join " " (xs.map num)).length ≤ 1200 ∧ ((xs.map num).map (·.length)).sum + (xs.map num).length * Str.length " " ≤ 1200 :=
  join_le (m := 3) (n := 300) (fun p hp => by
    obtain ⟨n, hn, rfl⟩ := List.mem_map.mp hp
    exact num_len (by decide) (by have := hx n hn; omega)) (by rw [List.length_map]; exact hl) (by decide)
theorem shaped_ints (xs : List Int) : SeqAt.shaped (.tuple (xs.map PyData.int)) = true := by
  have h1 : PyData.canLayAll0 (xs.map PyData.int) = true := by
    induction xs with
    | nil => simp [PyData.canLayAll0]
    | cons x xs ih => simp [PyData.canLayAll0, PyData.canLay0, ih]
  have h2 : PyData.depthAll (xs.map PyData.int) = 0 := by
    clear h1
    induction xs with
    | nil => simp [PyData.depthAll]
    | cons x xs ih => simp only [List.map_cons, PyData.depthAll, PyData.depth, ih, Nat.max_self]
  simp [SeqAt.shaped, PyData.canLay0, PyData.depth, h1, h2]
theorem fileD_int (xs : List Nat) : fileD xs = .tuple ((xs.map fun n => ((n : Nat) : Int)).map PyData.int) := by
  show PyData.tuple _ = _
  rw [List.map_map]
  rfl
theorem tup_ne (xs : List Nat) : (PyData.eqv (fileD xs) (.tuple []) = true) ↔ xs = [] := by
  cases xs with
  | nil => simp [fileD, PyData.eqv, PyData.eqvAll]
  | cons x xs => simp [fileD, PyData.eqv, PyData.eqvAll]
theorem okEq_file (xs : List Nat) : okEq (fileD xs) (.tuple []) = true := by
  have h := shaped_ints (xs.map fun n => ((n : Nat) : Int))
  rw [← fileD_int] at h
  show (SeqAt.shaped (fileD xs) && SeqAt.shaped (.tuple [])) = true
  rw [h]
  decide
theorem lc_nums {env : Sl} {b : Nat} {xs : List Nat} {g : SG} {i : Nat} (hb : b ≤ 256) (hx : ∀ n ∈ xs, n < b) (hl : xs.length ≤ 300) (hg : ∀ n : Nat, ∃ e1, g (.d (.int n)) env = some e1 ∧ e1[i]? = some (some (.d (.int n)))) :
    lcGo g cYes (eCall (f1 strW) (aCons (eVar i) (aNil))) env (xs.map fun n => PyData.int (n : Nat)) [] S = some (.ok ((xs.map num).map PyData.str), S) := by
  have e := lcGo_maps (S := S) (env := env) (g := g) (f := eCall (f1 strW) (aCons (eVar i) (aNil))) (a := fun n : Nat => PyData.int n) (b := fun n : Nat => PyData.str (num n)) (l := xs) (acc := [])
    (fun n hn => by
      obtain ⟨e1, h1, h2⟩ := hg n
      refine ⟨e1, h1, ?_⟩
      have s := strW_num (n := n) (by have := hx n hn; omega)
      simp [f1, h2, s, -strW_int]) (by rw [sz]; simp; omega)
  rw [e, List.map_map]
  rfl
theorem e_signs_text {b : Nat} {xs : List Nat} (hb : b ≤ 256) (hx : ∀ n ∈ xs, n < b) (hl : xs.length ≤ 300) : F_signs_text [.d (fileD xs)] S = some (.ok (.d (.str (sgT xs))), S) := by
  have e := lc_nums (S := S) (env := [some (.d (fileD xs)), none]) (g := gN 1) (i := 1) hb hx hl fun n => ⟨_, rfl, rfl⟩
  have j := Nat.le_trans (nums_len hb hx hl).2 (show 1200 ≤ 16777216 by decide)
  have J : joinS " " (.d (.list ((xs.map num).map PyData.str))) = retS (Txt.join " " (xs.map num)) := by rw [joinS_eq, strsOf_map]; dsimp only; rw [if_pos j]
  have z : (0 : Nat) ≤ sizeLine := by decide
  have k := okEq_file xs
  by_cases c : xs = []
  · subst c
    simp [F_signs_text, fnS_eq, f1, sgT, fileD, z, okEq, PyData.eqv, PyData.eqvAll, show SeqAt.shaped (.tuple []) = true from by decide]
  · have c2 : PyData.eqv (fileD xs) (.tuple []) = false := by
      cases q : PyData.eqv (fileD xs) (.tuple []) with
      | false => rfl
      | true => exact absurd ((tup_ne xs).mp q) c
    have u : fileD xs = .tuple (xs.map fun n => .int (n : Nat)) := rfl
    rw [u] at k c2 e
    simp [F_signs_text, fnS_eq, f1, sgT, u, z, k, c, c2, e, J, -List.map_map, -joinS_eq]
theorem e_file_line {b : Nat} {xs : List Nat} (hb : b ≤ 256) (hx : ∀ n ∈ xs, n < b) (hl : xs.length ≤ 300) : F__law_file_line [.d (fileD xs)] S = some (.ok (.d (.str (sgT xs))), S) := by
  have e := lc_nums (S := S) (env := [some (.d (fileD xs)), none]) (g := gN 1) (i := 1) hb hx hl fun n => ⟨_, rfl, rfl⟩
  have j := Nat.le_trans (nums_len hb hx hl).2 (show 1200 ≤ 16777216 by decide)
  have J : joinS " " (.d (.list ((xs.map num).map PyData.str))) = retS (Txt.join " " (xs.map num)) := by rw [joinS_eq, strsOf_map]; dsimp only; rw [if_pos j]
  have z : (0 : Nat) ≤ sizeLine := by decide
  have k := okEq_file xs
  by_cases c : xs = []
  · subst c
    simp [F__law_file_line, fnS_eq, f1, sgT, fileD, z, okEq, PyData.eqv, PyData.eqvAll, show SeqAt.shaped (.tuple []) = true from by decide]
  · have c2 : PyData.eqv (fileD xs) (.tuple []) = false := by
      cases q : PyData.eqv (fileD xs) (.tuple []) with
      | false => rfl
      | true => exact absurd ((tup_ne xs).mp q) c
    have u : fileD xs = .tuple (xs.map fun n => .int (n : Nat)) := rfl
    rw [u] at k c2 e
    simp [F__law_file_line, fnS_eq, f1, sgT, u, z, k, c, c2, e, J, -List.map_map, -joinS_eq]
theorem sgT_ne {xs : List Nat} (h : xs ≠ []) : Txt.join " " (xs.map num) ≠ "empty" := fun e => by
  have f : 101 ∉ tl (Txt.join " " (xs.map num)) := join_free (by decide) fun p hp => by
    obtain ⟨n, _, rfl⟩ := List.mem_map.mp hp
    exact num_free (by omega)
  rw [e] at f
  exact f (by decide)
theorem e_signs_in {b : Nat} {xs : List Nat} (hb : b ≤ 256) (hx : ∀ n ∈ xs, n < b) (hl : xs.length ≤ 300) : F_signs_in [.d (.str (sgT xs))] S = some (.ok (.d (fileD xs)), S) := by
  have z : (0 : Nat) ≤ sizeLine := by decide
  by_cases c : xs = []
  · subst c
    simp [F_signs_in, fnS_eq, f1, sgT, fileD, z]
  · have sp : Txt.split (Txt.join " " (xs.map num)) " " = xs.map num := split_join (y := " ") (s := 32) (S := []) (by rfl) (by decide +kernel) (by simpa using c) fun p hp => by
      obtain ⟨n, _, rfl⟩ := List.mem_map.mp hp
      exact num_free (by omega)
    have y2 : ¬ Str.length " " = 0 := by decide
    have w1 : (Txt.join " " (xs.map num)).length + 2 ≤ sizeLine := by rw [sz]; have := (nums_len hb hx hl).1; omega
    have e := lcGo_maps (S := S) (env := [some (.d (.str (Txt.join " " (xs.map num)))), none]) (g := gN 1) (f := eCall F_number_in (aCons (eVar 1) (aNil))) (a := fun n : Nat => PyData.str (num n)) (b := fun n : Nat => PyData.int n) (l := xs) (acc := [])
      (fun n hn => ⟨_, rfl, by simp [e_number_in (n600 (show n < 10 ^ 9 by have := hx n hn; omega))]⟩) (by rw [sz]; simp; omega)
    have r : xs.map (fun n => PyData.str (num n)) = (xs.map num).map PyData.str := by rw [List.map_map]; rfl
    rw [r, List.nil_append] at e
    simp [F_signs_in, fnS_eq, f1, sgT, fileD, c, sgT_ne c, sp, y2, w1, e, -List.map_map]
theorem e_is_file_of {f : Fm} {xs : List Nat} (hx : ∀ n ∈ xs, n < f.b) (hl : xs.length ≤ 300) : F_is_file_of [.d f.D, .d (fileD xs)] S = some (.ok (.d (.bool true)), S) := by
  have e := e_is_signs (S := S) (b := f.b) (xs := xs.map fun n => ((n : Nat) : Int)) (fun i hi => by
    obtain ⟨n, hn, rfl⟩ := List.mem_map.mp hi
    have := hx n hn
    omega) (by rw [sz]; simp; omega)
  rw [← fileD_int] at e
  simp [F_is_file_of, fnS_eq, Fm.D, atI, ixN, e]
theorem e_check_file {f : Fm} {xs : List Nat} (hx : ∀ n ∈ xs, n < f.b) (hl : xs.length ≤ 300) : F_check_file [.d f.D, .d (fileD xs)] S = some (.ok (.d .none), S) := by
  simp [F_check_file, fnS_eq, e_is_file_of hx hl]
theorem e_show_file {f : Fm} (h : f.ok) {xs : List Nat} (hx : ∀ n ∈ xs, n < f.b) (hl : xs.length ≤ 300) : F_show_file [.d f.D, .d (fileD xs)] S = some (.ok (.d (.str (sgT xs))), S) := by
  simp [F_show_file, fnS_eq, e_check_format h, e_check_file hx hl, e_signs_text h.b256 hx hl]
theorem e_parse_file {f : Fm} (h : f.ok) {xs : List Nat} (hx : ∀ n ∈ xs, n < f.b) (hl : xs.length ≤ 300) : F_parse_file [.d f.D, .d (.str (sgT xs))] S = some (.ok (.d (fileD xs)), S) := by
  simp [F_parse_file, fnS_eq, e_check_format h, e_signs_in h.b256 hx hl, e_is_file_of hx hl]
end K50
set_option Elab.async false
set_option linter.all false
set_option maxRecDepth 100000
set_option maxHeartbeats 1000000
namespace K50
open PySem L2 TL Bq
variable {S : Sto}
/-! ### draws -/
theorem sSetIx_eq (o k f : SE) (env : Sl) : sSetIx o k f env S = sE f (fun w => sE o fun x => sE k fun y => fun env S => match x with
  | .loc n => (match S[n]?, y, w with
    | some (.lst xs), .d (.int i), .d z => (match ixN xs.length i with
      | some j => some (.nx, env, S.set n (.lst (xs.set j z)))
      | none => none)
    | _, _, _ => none)
  | _ => none) env S := rfl
structure Bg (n C : Nat) (S : Sto) : Prop where
  ex : ∃ a b c : Int, S[n]? = some (.lst [.int a, .int b, .int c]) ∧ 0 ≤ a ∧ 0 ≤ b ∧ b < 10 ^ 41 ∧ 0 ≤ c ∧ c ≤ C
structure Up (n C : Nat) (S S' : Sto) : Prop where
  len : S'.length = S.length
  old : ∀ m, m ≠ n → S'[m]? = S[m]?
  bag : Bg n C S'
theorem Up.trans {n C C' : Nat} {S S1 S2 : Sto} (a : Up n C S S1) (b : Up n C' S1 S2) : Up n C' S S2 := ⟨b.len.trans a.len, fun m hm => (b.old m hm).trans (a.old m hm), b.bag⟩
theorem Bg.mono {n C C' : Nat} {S : Sto} (a : Bg n C S) (h : C ≤ C') : Bg n C' S := by
  obtain ⟨x, y, z, h1, h2, h3, h4, h5, h6⟩ := a.ex
  exact ⟨x, y, z, h1, h2, h3, h4, h5, by omega⟩
theorem Up.mono {n C C' : Nat} {S S' : Sto} (a : Up n C S S') (h : C ≤ C') : Up n C' S S' := ⟨a.len, a.old, a.bag.mono h⟩
theorem Up.refl {n C : Nat} {S : Sto} (a : Bg n C S) : Up n C S S := ⟨rfl, fun _ _ => rfl, a⟩
theorem up_set {n C : Nat} {S : Sto} {a b c : Int} (hn : n < S.length) (h : 0 ≤ a ∧ 0 ≤ b ∧ b < 10 ^ 41 ∧ 0 ≤ c ∧ c ≤ C) : Up n C S (S.set n (.lst [.int a, .int b, .int c])) :=
  ⟨List.length_set .., fun m hm => List.getElem?_set_ne (Ne.symm hm), ⟨a, b, c, by simp [hn], h⟩⟩
theorem log_le {i : Int} {k : Nat} (h0 : 0 ≤ i) (h : i < 2 ^ k) (hk : 0 < k) : i.natAbs.log2 < k := by
  refine log_lt ?_ hk
  have : (i.natAbs : Int) = i := Int.natAbs_of_nonneg h0
  have e : ((2 : Int) ^ k) = ((2 ^ k : Nat) : Int) := by simp
  rw [e] at h
  omega
theorem bits_le {i : Int} {k : Nat} (h0 : 0 ≤ i) (h : i < 2 ^ k) (hk : 0 < k) : Builtin.Int.intBits i ≤ k := by
  have l := log_le h0 h hk
  show (if (i == 0) = true then 0 else i.natAbs.log2 + 1) ≤ k
  split <;> omega
theorem pow_ok {i : Int} {j : Nat} (h0 : 0 ≤ i) (h : i < 2 ^ 1000) (hj : j ≤ 100) : ((0 : Int) ≤ (j : Int) ∧ (Builtin.Int.intBits i : Int) * (j : Int) ≤ 2 ^ 27) := by
  have b := bits_le h0 h (by decide)
  refine ⟨by omega, ?_⟩
  have m : Builtin.Int.intBits i * j ≤ 1000 * 100 := Nat.mul_le_mul b hj
  have e : ((Builtin.Int.intBits i * j : Nat) : Int) = (Builtin.Int.intBits i : Int) * (j : Int) := by simp
  rw [← e]
  omega
theorem opPow_ok {i : Int} {j : Nat} (h0 : 0 ≤ i) (h : i < 2 ^ 1000) (hj : j ≤ 100) : opPow (.d (.int i)) (.d (.int (j : Nat))) S = some (.ok (.d (.int (i ^ j))), S) := by
  have p := pow_ok h0 h hj
  show (if decide (0 ≤ ((j : Nat) : Int) ∧ (Builtin.Int.intBits i : Int) * ((j : Nat) : Int) ≤ 2 ^ 27) = true then M.ret (Wv.d (.int (i ^ ((j : Nat) : Int).toNat))) else M.no) S = _
  rw [if_pos (decide_eq_true p), Int.toNat_natCast]
theorem opMul_ok {i j : Int} (h0 : 0 ≤ i) (h : i < 2 ^ 1000) (h1 : 0 ≤ j) (h2 : j < 2 ^ 1000) : opMul (.d (.int i)) (.d (.int j)) S = some (.ok (.d (.int (i * j))), S) := by
  have p := log_le h0 h (by decide)
  have q := log_le h1 h2 (by decide)
  show (if decide (i.natAbs.log2 + j.natAbs.log2 < 1000000) = true then M.ret (Wv.d (.int (i * j))) else M.no) S = _
  rw [if_pos (decide_eq_true (by omega))]
theorem opMod_ok {i j : Int} (h : 0 < j) : opMod (.d (.int i)) (.d (.int j)) S = some (.ok (.d (.int (i % j))), S) := by
  show (if decide (0 < j) = true then M.ret (Wv.d (.int (i % j))) else M.no) S = _
  rw [if_pos (decide_eq_true h)]
theorem opFdiv_ok {i j : Int} (h : 0 < j) (h2 : j < 2 ^ 1000) : opFdiv (.d (.int i)) (.d (.int j)) S = some (.ok (.d (.int (i / j))), S) := by
  have q := log_le (by omega) h2 (by decide)
  show (if decide (0 < j ∧ j.natAbs.log2 < 9000) = true then M.ret (Wv.d (.int (i / j))) else M.no) S = _
  rw [if_pos (decide_eq_true ⟨h, by omega⟩)]
theorem p1000 {i : Int} {k : Nat} (h : i < 10 ^ k) (hk : k ≤ 100) : i < 2 ^ 1000 := by
  have e : (10 : Int) ^ k ≤ 10 ^ 100 := by
    have : (10 : Nat) ^ k ≤ 10 ^ 100 := Nat.pow_le_pow_right (by decide) hk
    exact_mod_cast this
  have e2 : (10 : Int) ^ 100 ≤ 2 ^ 1000 := by decide +kernel
  omega
theorem e_grab {n C below : Nat} (hb : Bg n C S) (hn : n < S.length) (h0 : 0 < below) (h1 : below ≤ 10 ^ 10) (hC : C ≤ 10 ^ 6) :
    ∃ (r : Nat) (S' : Sto), F__law_grab [.loc n, .d (.int below)] S = some (.ok (.d (.int r)), S') ∧ r < below ∧ Up n (C + 1) S S' := by
  obtain ⟨a, b, c, e, ha, hb0, hb1, hc0, hc1⟩ := hb.ex
  have pb : (0 : Int) < (below : Int) := by omega
  have lb : (below : Int) < 2 ^ 1000 := p1000 (k := 11) (by omega) (by decide)
  have take : ∀ x : Ob, (S.set n x).take S.length = S.set n x := fun x => List.take_of_length_le (by rw [List.length_set]; exact Nat.le_refl _)
  by_cases c0 : 0 < a
  · have f := opFdiv_ok (S := S) (i := a) pb lb
    have m := opMod_ok (S := S) (i := a) pb
    have r0 := Int.emod_nonneg a (show (below : Int) ≠ 0 by omega)
    have r1 := Int.emod_lt_of_pos a pb
    refine ⟨(a % below).toNat, S.set n (.lst [.int (a / below), .int b, .int c]), ?_, by omega, up_set hn ⟨Int.ediv_nonneg ha (by omega), hb0, hb1, hc0, by omega⟩⟩
    rw [Int.toNat_of_nonneg r0]
    have g : opGt (.d (.int a)) (.d (.int 0)) S = some (.ok (.d (.bool true)), S) := by
      show (if decide True = true then M.ret (Wv.d (.bool (decide (0 < a)))) else M.no) S = _
      simp [c0]
    simp [F__law_grab, fnS_eq, e, atI, ixN, f1, g, f, m, sSetIx_eq, take]
  · have hb' := up_set (C := C + 1) hn (a := a) (b := b) (c := c + 1) ⟨ha, hb0, hb1, by omega, by omega⟩
    have e1 : (S.set n (.lst [.int a, .int b, .int (c + 1)]))[n]? = some (.lst [.int a, .int b, .int (c + 1)]) := by simp [hn]
    have g : opGt (.d (.int a)) (.d (.int 0)) S = some (.ok (.d (.bool false)), S) := by
      show (if decide True = true then M.ret (Wv.d (.bool (decide (0 < a)))) else M.no) S = _
      simp [c0]
    obtain ⟨S1, hS1⟩ : ∃ S1, S.set n (.lst [.int a, .int b, .int (c + 1)]) = S1 := ⟨_, rfl⟩
    have cc : c + 1 < 10 ^ 7 := by omega
    have big : (10 : Int) ^ 41 = 100000000000000000000000000000000000000000 := by decide +kernel
    have m1 := opMul_ok (S := S1) (i := 90019) (j := c + 1) (by omega) (p1000 (k := 10) (by omega) (by decide)) (by omega) (p1000 (k := 7) cc (by decide))
    have m2 := opMul_ok (S := S1) (i := 1900037) (j := c + 1) (by omega) (p1000 (k := 10) (by omega) (by decide)) (by omega) (p1000 (k := 7) cc (by decide))
    have q1 := opPow_ok (S := S1) (i := b + 90019 * (c + 1)) (j := 2) (by omega) (p1000 (k := 42) (by rw [show (10 : Int) ^ 42 = 1000000000000000000000000000000000000000000 by decide +kernel]; omega) (by decide)) (by decide)
    have q38 := opPow_ok (S := S1) (i := 10) (j := 38) (by decide) (p1000 (k := 2) (by decide) (by decide)) (by decide)
    have q39 := opPow_ok (S := S1) (i := 10) (j := 39) (by decide) (p1000 (k := 2) (by decide) (by decide)) (by decide)
    have pp : (0 : Int) < 10 ^ 38 + 271 := by decide +kernel
    have pq : (0 : Int) < 10 ^ 39 + 331 := by decide +kernel
    obtain ⟨x, hx⟩ : ∃ x, (b + 90019 * (c + 1)) ^ 2 % (10 ^ 38 + 271) = x := ⟨_, rfl⟩
    have x0 : 0 ≤ x := by rw [← hx]; exact Int.emod_nonneg _ (by omega)
    have x1 : x < 10 ^ 38 + 271 := by rw [← hx]; exact Int.emod_lt_of_pos _ pp
    have o1 := opMod_ok (S := S1) (i := (b + 90019 * (c + 1)) ^ 2) pp
    rw [hx] at o1
    have q2 := opPow_ok (S := S1) (i := x + 1900037 * (c + 1)) (j := 3) (by omega) (p1000 (k := 42) (by
      have : (10 : Int) ^ 42 = 1000000000000000000000000000000000000000000 := by decide +kernel
      have : (10 : Int) ^ 38 = 100000000000000000000000000000000000000 := by decide +kernel
      omega) (by decide)) (by decide)
    obtain ⟨y, hy⟩ : ∃ y, (x + 1900037 * (c + 1)) ^ 3 % (10 ^ 39 + 331) = y := ⟨_, rfl⟩
    have y0 : 0 ≤ y := by rw [← hy]; exact Int.emod_nonneg _ (by omega)
    have o2 := opMod_ok (S := S1) (i := (x + 1900037 * (c + 1)) ^ 3) pq
    rw [hy] at o2
    have f := opFdiv_ok (S := S1) (i := y) (j := 8192) (by decide) (p1000 (k := 5) (by decide) (by decide))
    have m := opMod_ok (S := S1) (i := y / 8192) pb
    have r0 := Int.emod_nonneg (y / 8192) (show (below : Int) ≠ 0 by omega)
    have r1 := Int.emod_lt_of_pos (y / 8192) pb
    have tk := take (.lst [.int a, .int b, .int (c + 1)])
    rw [hS1] at e1 hb' tk
    refine ⟨(y / 8192 % below).toNat, S1, ?_, by omega, hb'⟩
    rw [Int.toNat_of_nonneg r0]
    rw [show ((2 : Nat) : Int) = 2 from rfl] at q1
    rw [show ((3 : Nat) : Int) = 3 from rfl] at q2
    rw [show ((38 : Nat) : Int) = 38 from rfl] at q38
    rw [show ((39 : Nat) : Int) = 39 from rfl] at q39
    clear hx hy
    generalize (10 : Int) ^ 38 = z38 at *
    generalize (10 : Int) ^ 39 = z39 at *
    generalize (b + 90019 * (c + 1)) ^ 2 = w2 at *
    generalize (x + 1900037 * (c + 1)) ^ 3 = w3 at *
    simp [F__law_grab, fnS_eq, e, e1, hS1, atI, ixN, f1, g, sSetIx_eq, m1, m2, q1, q38, o1, q2, q39, o2, f, m, tk]
end K50
set_option Elab.async false
set_option linter.all false
set_option maxRecDepth 100000
set_option maxHeartbeats 1000000
namespace K50
open PySem L2 TL Bq
variable {S : Sto}
theorem atI_mem {xs : List D} {r : Nat} (h : r < xs.length) : ∃ d, atI xs (r : Int) = some d ∧ d ∈ xs := by
  refine ⟨xs[r], ?_, List.getElem_mem h⟩
  unfold atI ixN
  rw [if_pos (by omega), if_pos (by omega)]
  simp [h]
theorem sPut_eq (o k f : SE) (env : Sl) : sPut o k f env S = sE f (fun w => sE o fun x => sE k fun y => fun env S => match x with
  | .loc n => (match S[n]?, keyOf y, w with
    | some (.dK kvs), some kk, .d z => if kvs.length < sizeLine then some (.nx, env, S.set n (.dK (putKD kvs kk z))) else none
    | _, _, _ => none)
  | _ => none) env S := rfl
theorem eApp_eq (o a : SE) (env : Sl) : eApp o a env = M.bnd (o env) fun x => M.bnd (isLst x) fun x => M.bnd (a env) fun y => appW x y := rfl
theorem sFor_eq (fi : SI) (g : SG) (b : SS) (env : Sl) : sFor fi g b env S = sE fi (fun items => forD g b items) env S := rfl
theorem rangeD_eq (n : Nat) : rangeD 0 n = (List.range' 0 n).map fun k : Nat => PyData.int k := by
  show (List.range n).map _ = _
  rw [List.range_eq_range']
  refine List.map_congr_left fun k _ => ?_
  simp
theorem iRange_ok {a : Sl → M (List Wv)} {env : Sl} {S S' : Sto} {b : Nat} (h : a env S = some (.ok [.d (.int b)], S')) (hb : b ≤ 1000000) : iRange1 a env S = some (.ok ((List.range' 0 b).map fun k : Nat => PyData.int k), S') := by
  have c : -(2 ^ 62) ≤ (b : Int) ∧ (b : Int) < 2 ^ 62 := by omega
  show M.bnd (a env) (fun ws => match ws with | [.d (.int j)] => if -(2 ^ 62) ≤ j ∧ j < 2 ^ 62 then M.ret (rangeD 0 j.toNat) else M.no | _ => M.no) S = _
  rw [M.bnd_ok h]
  show (if -(2 ^ 62) ≤ (b : Int) ∧ (b : Int) < 2 ^ 62 then M.ret (rangeD 0 (b : Int).toNat) else M.no) S' = _
  rw [if_pos c, Int.toNat_natCast, rangeD_eq]
theorem seq_ok {s u : SS} {env e1 : Sl} {S S1 : Sto} {r : Option (Out × Sl × Sto)} (h1 : s env S = some (.nx, e1, S1)) (h2 : u e1 S1 = r) : sSeq s u env S = r := by
  show (match s env S with | some (.nx, e1, S1) => u e1 S1 | r => r) = r
  rw [h1]
  exact h2
theorem sFor_ok {fi : SI} {g : SG} {b : SS} {env : Sl} {S S1 : Sto} {items : List D} {r : Option (Out × Sl × Sto)} (h1 : fi env S = some (.ok items, S1)) (h2 : forD g b items env S1 = r) : sFor fi g b env S = r := by
  rw [sFor_eq, sE_eq, h1]
  exact h2
theorem sSet_ok {i : Nat} {f : SE} {env : Sl} {S S1 : Sto} {w : Wv} (h1 : f env S = some (.ok w, S1)) : sSet i f env S = some (.nx, env.set i (some w), S1) := by
  rw [sSet_eq, sE_eq, h1]
theorem sRet_ok {f : SE} {env : Sl} {S S1 : Sto} {w : Wv} (h1 : f env S = some (.ok w, S1)) : sRet f env S = some (.rt w, env, S1) := by
  rw [sRet_eq, sE_eq, h1]
theorem sIf_ok {c : Sl → M Bool} {s u : SS} {env : Sl} {S S1 : Sto} {k : Bool} {r : Option (Out × Sl × Sto)} (h1 : c env S = some (.ok k, S1)) (h2 : (if k = true then s else u) env S1 = r) : sIf c s u env S = r := by
  rw [sIf_eq, sE_eq, h1]
  exact h2
theorem eCall_ok {g : List Wv → M Wv} {a : Sl → M (List Wv)} {env : Sl} {S S1 : Sto} {ws : List Wv} {r : Option (Rs Wv × Sto)} (h1 : a env S = some (.ok ws, S1)) (h2 : g ws S1 = r) : eCall g a env S = r := (M.bnd_ok h1).trans h2
theorem aCons_ok {a : SE} {b : Sl → M (List Wv)} {env : Sl} {S S1 S2 : Sto} {w : Wv} {ws : List Wv} (h1 : a env S = some (.ok w, S1)) (h2 : b env S1 = some (.ok ws, S2)) : aCons a b env S = some (.ok (w :: ws), S2) := (M.bnd_ok h1).trans (M.bnd_ok h2)
theorem eBin_ok {g : Wv → Wv → M Wv} {a b : SE} {env : Sl} {S S1 S2 : Sto} {x y : Wv} {r : Option (Rs Wv × Sto)} (h1 : a env S = some (.ok x, S1)) (h2 : b env S1 = some (.ok y, S2)) (h3 : g x y S2 = r) : eBin g a b env S = r := (M.bnd_ok h1).trans ((M.bnd_ok h2).trans h3)
theorem cVal_ok {a : SE} {env : Sl} {S S1 : Sto} {b : Bool} (h : a env S = some (.ok (.d (.bool b)), S1)) : cVal a env S = some (.ok b, S1) := M.bnd_ok h
/-- a for over numbers -/
theorem forD_nat {g : SG} {b : SS} (I : Nat → Sl → Sto → Prop) : ∀ {j k : Nat} {env : Sl} {S : Sto}, (∀ i env S, i < k + j → k ≤ i → I i env S → ∃ e1, g (.d (.int (i : Nat))) env = some e1 ∧ ∃ e2 S2, b e1 S = some (.nx, e2, S2) ∧ I (i + 1) e2 S2) →
    I k env S → ∃ env' S', forD g b ((List.range' k j).map fun i : Nat => PyData.int i) env S = some (.nx, env', S') ∧ I (k + j) env' S'
  | 0, k, env, S, _, hi => ⟨env, S, rfl, hi⟩
  | j + 1, k, env, S, hx, hi => by
    obtain ⟨e1, h1, e2, S2, h2, h3⟩ := hx k env S (by omega) (Nat.le_refl _) hi
    obtain ⟨e', S', h4, h5⟩ := forD_nat I (j := j) (k := k + 1) (fun i env S hi hk => hx i env S (by omega) (by omega)) h3
    refine ⟨e', S', ?_, by rw [show k + (j + 1) = k + 1 + j by omega]; exact h5⟩
    show forD g b (PyData.int k :: (List.range' (k + 1) j).map fun i : Nat => PyData.int i) env S = _
    show (match g (.d (.int (k : Nat))) env with
      | none => none
      | some e1 => match b e1 S with
        | some (.nx, e2, S2) => forD g b _ e2 S2
        | some (.ct, e2, S2) => forD g b _ e2 S2
        | some (.bk, e2, S2) => some (.nx, e2, S2)
        | some (.rt w, e2, S2) => some (.rt w, e2, S2)
        | some (.ex z, e2, S2) => some (.ex z, e2, S2)
        | none => none) = _
    rw [h1]
    dsimp only
    rw [h2]
    exact h4
theorem Up.lt {n C : Nat} {S S' : Sto} (u : Up n C S S') (h : n < S.length) : n < S'.length := by rw [u.len]; exact h
/-! ### the tags -/
theorem e_drawn_tags {n C b many : Nat} (hb : Bg n C S) (hn : n < S.length) (b2 : 2 ≤ b) (b256 : b ≤ 256) (hm : many ≤ 1000) (hC : C + 512 ≤ 10 ^ 6) :
    ∃ (tg : List (Nat × Str)) (S' : Sto), F__law_drawn_tags [.loc n, .d (.int b), .d (.int many)] S = some (.ok (.d (.tuple (tg.map tgD))), S') ∧ Up n (C + 512) S S' ∧
      (∀ t ∈ tg, t.1 < b ∧ t.2 ∈ usesL) ∧ tg.Pairwise (fun s t => s.1 < t.1) ∧ tg.length ≤ 256 := by
  obtain ⟨kinds, hk⟩ : ∃ k : D, k = .list [.str "keep", .str "check", .str "skip", .str "end", .str "stop", .str "keep", .str "skip"] := ⟨_, rfl⟩
  have hnl : (S ++ [Ob.lst []])[n]? = S[n]? := List.getElem?_append_left hn
  obtain ⟨env1, S1, h1, z, tg, e1, l1, o1, hb1, f1', t1, t2, t3⟩ := forD_nat (S := S ++ [.lst []]) (j := b) (k := 0) (env := [some (.loc n), some (.d (.int b)), some (.d (.int many)), some (.d kinds), some (.loc S.length), none]) (g := gN 5)
    (b := sIf (cAnd (cVal (eBin opLt (eCall (f1 lenW) (aCons (eVar 4) (aNil))) (eVar 2))) (cVal (eBin opLt (eCall F__law_grab (aCons (eVar 0) (aCons (eVar 1) (aNil)))) (eVar 2)))) (sDrop (eApp (eVar 4) (eCall mkT (aCons (eVar 5) (aCons (eBin ixW (eVar 3) (eCall F__law_grab (aCons (eVar 0) (aCons (eC (.int 7)) (aNil))))) (aNil)))))) (sNil))
    (fun i env S' => ∃ (z : Option Wv) (tg : List (Nat × Str)), env = [some (.loc n), some (.d (.int b)), some (.d (.int many)), some (.d kinds), some (.loc S.length), z] ∧ S'.length = S.length + 1 ∧ (∀ m, m ≠ n → m < S.length → S'[m]? = S[m]?) ∧ Bg n (C + 2 * i) S' ∧ S'[S.length]? = some (.lst (tg.map tgD)) ∧
      (∀ t ∈ tg, t.1 < i ∧ t.2 ∈ usesL) ∧ tg.Pairwise (fun s t => s.1 < t.1) ∧ tg.length ≤ i)
    (fun i env S' hi _ ⟨z, tg, he, hl, ho, hb', hf, ht1, ht2, ht3⟩ => by
      subst he
      refine ⟨_, rfl, ?_⟩
      have hsz : tg.length < sizeLine := by rw [sz]; omega
      have hlen : lenW (.loc S.length) S' = some (.ok (.d (.int tg.length)), S') := by rw [lenW_loc, hf]; simp
      by_cases c : tg.length < many
      · obtain ⟨r, S2, g1, g2, g3⟩ := e_grab hb' (by omega) (by omega : 0 < b) (by omega) (by omega)
        have hf2 : S2[S.length]? = some (.lst (tg.map tgD)) := by rw [g3.old _ (by omega)]; exact hf
        by_cases c2 : r < many
        · obtain ⟨r', S3, q1, q2, q3⟩ := e_grab (below := 7) g3.bag (g3.lt (by omega)) (by decide) (by decide) (by omega)
          obtain ⟨d, d1, d2⟩ := atI_mem (xs := [.str "keep", .str "check", .str "skip", .str "end", .str "stop", .str "keep", .str "skip"]) (r := r') q2
          obtain ⟨u, hu, rfl⟩ : ∃ u, u ∈ usesL ∧ d = .str u := by
            simp only [List.mem_cons, List.not_mem_nil, or_false] at d2
            rcases d2 with rfl | rfl | rfl | rfl | rfl | rfl | rfl <;> exact ⟨_, by decide, rfl⟩
          have hf3 : S3[S.length]? = some (.lst (tg.map tgD)) := by rw [q3.old _ (by omega)]; exact hf2
          have q1' : F__law_grab [.loc n, .d (.int 7)] S2 = some (.ok (.d (.int r')), S3) := q1
          have two : (2 : Nat) ≤ sizeLine := by decide
          refine ⟨[some (.loc n), some (.d (.int b)), some (.d (.int many)), some (.d kinds), some (.loc S.length), some (.d (.int i))], S3.set S.length (.lst (tg.map tgD ++ [.tuple [.int i, .str u]])), ?_, _, tg ++ [(i, u)], rfl, ?_, ?_, ?_, ?_, ?_, ?_, ?_⟩
          · simp [f1, hlen, opLt, op2I, c, g1, c2, eApp_eq, isLst, hf2, hk, q1', d1, two, appW, hf3, hsz]
          · rw [List.length_set, q3.len, g3.len]; exact hl
          · intro m hm hm2
            rw [List.getElem?_set_ne (by omega), q3.old m hm, g3.old m hm]
            exact ho m hm hm2
          · obtain ⟨x, y, w, k1, k2⟩ := (q3.bag.mono (show C + 2 * i + 1 + 1 ≤ C + 2 * (i + 1) by omega)).ex
            exact ⟨x, y, w, by rw [List.getElem?_set_ne (by omega)]; exact k1, k2⟩
          · rw [List.getElem?_set_self (by rw [q3.len, g3.len, hl]; omega)]
            simp [tgD]
          · intro t ht
            rcases List.mem_append.mp ht with ht | ht
            · have := ht1 t ht
              exact ⟨by omega, this.2⟩
            · rw [List.mem_singleton.mp ht]
              exact ⟨by show i < i + 1; omega, hu⟩
          · rw [List.pairwise_append]
            refine ⟨ht2, List.pairwise_singleton _ _, fun s hs t ht => ?_⟩
            rw [List.mem_singleton.mp ht]
            exact (ht1 s hs).1
          · rw [List.length_append]; simp; exact ht3
        · refine ⟨[some (.loc n), some (.d (.int b)), some (.d (.int many)), some (.d kinds), some (.loc S.length), some (.d (.int i))], S2, ?_, _, tg, rfl, ?_, ?_, ?_, hf2, fun t ht => ⟨by have := (ht1 t ht).1; omega, (ht1 t ht).2⟩, ht2, by omega⟩
          · simp [f1, hlen, opLt, op2I, c, g1, c2]
          · rw [g3.len]; exact hl
          · intro m hm hm2
            rw [g3.old m hm]
            exact ho m hm hm2
          · exact g3.bag.mono (by omega)
      · refine ⟨[some (.loc n), some (.d (.int b)), some (.d (.int many)), some (.d kinds), some (.loc S.length), some (.d (.int i))], S', ?_, _, tg, rfl, hl, ho, hb'.mono (by omega), hf, fun t ht => ⟨by have := (ht1 t ht).1; omega, (ht1 t ht).2⟩, ht2, by omega⟩
        simp [f1, hlen, opLt, op2I, c])
    ⟨none, [], rfl, by simp, fun m hm hm2 => List.getElem?_append_left hm2, by
      obtain ⟨x, y, w, k1, k2⟩ := hb.ex
      exact ⟨x, y, w, by rw [hnl]; exact k1, by simpa using k2⟩, by simp, by simp, List.Pairwise.nil, Nat.le_refl _⟩
  rw [Nat.zero_add] at hb1 t1 t3
  have seven : (7 : Nat) ≤ sizeLine := by decide
  have zero : (0 : Nat) ≤ sizeLine := by decide
  have r1 := iRange_ok (S := S ++ [.lst []]) (S' := S ++ [.lst []]) (env := [some (.loc n), some (.d (.int b)), some (.d (.int many)), some (.d kinds), some (.loc S.length), none]) (a := aCons (eVar 1) aNil) (b := b) (by simp) (by omega)
  rw [hk] at h1 r1
  subst e1
  refine ⟨tg, S1.take S.length, ?_, ⟨by rw [List.length_take, l1]; omega, fun m hm => ?_, ?_⟩, t1, t2, by omega⟩
  · exact fnS_ret' rfl (seq_ok (by simp [seven, zero]) (seq_ok (sFor_ok r1 h1) (sRet_ok (by simp [f1, f1']))))
  · rw [List.getElem?_take]
    split
    · exact o1 m hm (by assumption)
    · rw [List.getElem?_eq_none (by omega)]
  · obtain ⟨x, y, w, k1, k2⟩ := (hb1.mono (show C + 2 * b ≤ C + 512 by omega)).ex
    exact ⟨x, y, w, by rw [List.getElem?_take, if_pos hn]; exact k1, k2⟩
end K50
set_option Elab.async false
set_option linter.all false
set_option maxRecDepth 100000
set_option maxHeartbeats 1000000
namespace K50
open PySem L2 TL Bq
variable {S : Sto}
theorem lcGo_nat {g : SG} {f : SE} {env : Sl} (I : Nat → List D → Sto → Prop) : ∀ {j k : Nat} {acc : List D} {S : Sto}, (∀ i acc S, i < k + j → I i acc S → ∃ e1, g (.d (.int (i : Nat))) env = some e1 ∧ ∃ y S2, f e1 S = some (.ok (.d y), S2) ∧ I (i + 1) (acc ++ [y]) S2) →
    I k acc S → acc.length + j ≤ sizeLine → ∃ ys S', lcGo g cYes f env ((List.range' k j).map fun i : Nat => PyData.int i) acc S = some (.ok ys, S') ∧ I (k + j) ys S'
  | 0, k, acc, S, _, hi, _ => ⟨acc, S, rfl, hi⟩
  | j + 1, k, acc, S, hx, hi, hl => by
    obtain ⟨e1, h1, y, S2, h2, h3⟩ := hx k acc S (by omega) hi
    obtain ⟨ys, S', h4, h5⟩ := lcGo_nat I (j := j) (k := k + 1) (fun i acc S hi => hx i acc S (by omega)) h3 (by rw [List.length_append]; simp; omega)
    refine ⟨ys, S', ?_, by rw [show k + (j + 1) = k + 1 + j by omega]; exact h5⟩
    have step : lcGo g cYes f env (PyData.int k :: (List.range' (k + 1) j).map fun i : Nat => PyData.int i) acc S = lcGo g cYes f env ((List.range' (k + 1) j).map fun i : Nat => PyData.int i) (acc ++ [y]) S2 := by
      generalize (List.range' (k + 1) j).map (fun i : Nat => PyData.int i) = xs
      show (match g (.d (.int (k : Nat))) env with | none => none | some e1 => match cYes e1 S with
        | some (.ok true, S1) => (match f e1 S1 with
          | some (.ok (.d y), S2) => if acc.length < sizeLine then lcGo g cYes f env xs (acc ++ [y]) S2 else none
          | _ => none)
        | some (.ok false, S1) => lcGo g cYes f env xs acc S1
        | _ => none) = _
      rw [h1]
      show (match f e1 S with
          | some (.ok (.d y), S2) => if acc.length < sizeLine then lcGo g cYes f env xs (acc ++ [y]) S2 else none
          | _ => none) = _
      rw [h2]
      show (if acc.length < sizeLine then lcGo g cYes f env xs (acc ++ [y]) S2 else none) = _
      rw [if_pos (by omega)]
    exact step.trans h4
theorem eLc_ok {fi : SI} {g : SG} {f : SE} {own : List Nat} {env : Sl} {S S1 S2 : Sto} {items ys : List D} (h1 : fi env S = some (.ok items, S1)) (h2 : lcGo g cYes f (wipeS env own) items [] S1 = some (.ok ys, S2)) : eLc fi g cYes f own env S = some (.ok (.d (.list ys)), S2) := (M.bnd_ok h1).trans (M.bnd_ok h2)
/-- one of a written list, drawn -/
theorem e_pick {n C : Nat} {env : Sl} {ls : List D} {l : SE} {i : Nat} (hb : Bg n C S) (hn : n < S.length) (h0 : 0 < ls.length) (h1 : ls.length ≤ 300) (hC : C ≤ 10 ^ 6) (hv : env[i]? = some (some (.loc n))) (hl : l env S = some (.ok (.d (.list ls)), S)) {e : SE} (he : ∀ S', e env S' = some (.ok (.d (.int (ls.length : Nat))), S')) :
    ∃ (d : D) (S' : Sto), eBin ixW l (eCall F__law_grab (aCons (eVar i) (aCons e (aNil)))) env S = some (.ok (.d d), S') ∧ d ∈ ls ∧ Up n (C + 1) S S' := by
  obtain ⟨r, S1, g1, g2, g3⟩ := e_grab hb hn h0 (by omega) hC
  obtain ⟨d, d1, d2⟩ := atI_mem (xs := ls) (r := r) g2
  refine ⟨d, S1, eBin_ok hl (eCall_ok (aCons_ok (S1 := S) (w := .loc n) (by simp [hv]) (aCons_ok (he S) rfl)) g1) ?_, d2, g3⟩
  rw [ixW_lst, d1]
theorem sPar_ok {i j : Nat} {a : Sl → M (List Wv)} {env : Sl} {S S1 : Sto} {x y : Wv} (h1 : a env S = some (.ok [x, y], S1)) : sPar i j a env S = some (.nx, (env.set i (some x)).set j (some y), S1) := by
  rw [sPar_eq, sE_eq, h1]
theorem eIf_ok {c : Sl → M Bool} {a b : SE} {env : Sl} {S S1 : Sto} {k : Bool} {r : Option (Rs Wv × Sto)} (h1 : c env S = some (.ok k, S1)) (h2 : (if k = true then a env else b env) S1 = r) : eIf c a b env S = r := (M.bnd_ok h1).trans h2
theorem e_drawn_form {n C b mk most many : Nat} (hb : Bg n C S) (hn : n < S.length) (b2 : 2 ≤ b) (b256 : b ≤ 256) (h1 : mk ≤ 100) (h2 : most ≤ 65535) (h3 : many ≤ 100) (hC : C + 1000 ≤ 10 ^ 6) :
    ∃ (f : Fm) (S' : Sto), F__law_drawn_form [.loc n, .d (.int b), .d (.int mk), .d (.int most), .d (.int many)] S = some (.ok (.d f.D), S') ∧ Up n (C + 1000) S S' ∧ f.ok ∧ f.b = b := by
  obtain ⟨mm, S1, g1, g2, g3⟩ := e_grab (below := mk + 1) hb hn (by omega) (by omega) (by omega)
  have g1' : F__law_grab [.loc n, .d (.int ((mk : Int) + 1))] S = some (.ok (.d (.int mm)), S1) := g1
  obtain ⟨ys, S2, l1, u2, hd, l2, l3, l4⟩ := lcGo_nat (S := S1) (j := mm) (k := 0) (acc := []) (env := [some (.loc n), some (.d (.int b)), some (.d (.int mk)), some (.d (.int most)), some (.d (.int many)), some (.d (.int mm)), none, none, none, none, none]) (g := gN 7)
    (f := eIf (cVal (eBin opEq (eCall F__law_grab (aCons (eVar 0) (aCons (eC (.int 3)) (aNil)))) (eC (.int 0)))) (eC .none) (eCall F__law_grab (aCons (eVar 0) (aCons (eVar 1) (aNil)))))
    (fun i acc S' => Up n (C + 1 + 2 * i) S S' ∧ ∃ hd : List (Option Nat), acc = hd.map mkD ∧ (∀ n, some n ∈ hd → n < b) ∧ hd.length = i)
    (fun i acc S' hi ⟨u, hd, k1, k2, k3⟩ => by
      refine ⟨_, rfl, ?_⟩
      obtain ⟨r, S3, q1, q2, q3⟩ := e_grab (below := 3) u.bag (u.lt hn) (by decide) (by decide) (by omega)
      have q1' : F__law_grab [.loc n, .d (.int 3)] S' = some (.ok (.d (.int r)), S3) := q1
      have t1 : cVal (eBin opEq (eCall F__law_grab (aCons (eVar 0) (aCons (eC (.int 3)) (aNil)))) (eC (.int 0))) [some (.loc n), some (.d (.int b)), some (.d (.int mk)), some (.d (.int most)), some (.d (.int many)), some (.d (.int mm)), none, some (.d (.int i)), none, none, none] S' = some (.ok ((r : Int) == 0), S3) := by
        simp [q1']
      by_cases c : r = 0
      · refine ⟨.none, S3, eIf_ok t1 (by simp [c]), (u.trans q3).mono (by omega), hd ++ [none], by simp [k1, mkD], fun m hm => ?_, by simp [k3]⟩
        rcases List.mem_append.mp hm with hm | hm
        · exact k2 m hm
        · simp at hm
      · obtain ⟨v, S4, v1, v2, v3⟩ := e_grab (below := b) q3.bag (q3.lt (u.lt hn)) (by omega) (by omega) (by omega)
        have v1' : F__law_grab [.loc n, .d (.int b)] S3 = some (.ok (.d (.int v)), S4) := v1
        refine ⟨.int v, S4, eIf_ok t1 (by simp [c, v1']), ((u.trans q3).trans v3).mono (by omega), hd ++ [some v], by simp [k1, mkD], fun m hm => ?_, by simp [k3]⟩
        rcases List.mem_append.mp hm with hm | hm
        · exact k2 m hm
        · simp at hm
          omega)
    ⟨g3.mono (by omega), [], rfl, by simp, rfl⟩ (by rw [sz]; simp; omega)
  have r1 := iRange_ok (S := S1) (S' := S1) (env := [some (.loc n), some (.d (.int b)), some (.d (.int mk)), some (.d (.int most)), some (.d (.int many)), some (.d (.int mm)), none, none, none, none, none]) (a := aCons (eVar 5) aNil) (b := mm) (by simp) (by omega)
  have two : (2 : Nat) ≤ sizeLine := by decide
  have four : (4 : Nat) ≤ sizeLine := by decide
  obtain ⟨d, S3, p1, p2, p3⟩ := e_pick (S := S2) (n := n) (env := [some (.loc n), some (.d (.int b)), some (.d (.int mk)), some (.d (.int most)), some (.d (.int many)), some (.d (.int mm)), some (.d (.list ys)), none, none, none, none]) (l := eCall mkL (aCons (eC (.str "one")) (aCons (eC (.str "one")) (aCons (eC (.str "high")) (aCons (eC (.str "low")) (aNil)))))) (e := eC (.int 4)) (i := 0)
    (ls := [.str "one", .str "one", .str "high", .str "low"]) u2.bag (u2.lt hn) (by decide) (by decide) (by omega) rfl (by simp [four]) (fun _ => rfl)
  obtain ⟨w, hw, rfl⟩ : ∃ w, w ∈ widthsL ∧ d = .str w := by
    simp only [List.mem_cons, List.not_mem_nil, or_false] at p2
    rcases p2 with rfl | rfl | rfl | rfl <;> exact ⟨_, by decide, rfl⟩
  have u3 := u2.trans p3
  obtain ⟨tp, S4, t1, t2, t3⟩ := e_grab (below := most + 1) u3.bag (u3.lt hn) (by omega) (by omega) (by omega)
  have t1' : F__law_grab [.loc n, .d (.int ((most : Int) + 1))] S3 = some (.ok (.d (.int tp)), S4) := t1
  have u4 := u3.trans t3
  obtain ⟨mn, S5, m1, m2, m3⟩ := e_grab (below := many + 1) u4.bag (u4.lt hn) (by omega) (by omega) (by omega)
  have m1' : F__law_grab [.loc n, .d (.int ((many : Int) + 1))] S4 = some (.ok (.d (.int mn)), S5) := m1
  have u5 := u4.trans m3
  obtain ⟨tg, S6, x1, x2, x3, x4, x5⟩ := e_drawn_tags (many := mn) u5.bag (u5.lt hn) b2 b256 (by omega) (by omega)
  have u6 := u5.trans x2
  obtain ⟨d, S7, o1, o2, o3⟩ := e_pick (S := S6) (n := n) (env := [some (.loc n), some (.d (.int b)), some (.d (.int mk)), some (.d (.int most)), some (.d (.int many)), some (.d (.int mm)), some (.d (.list ys)), none, some (.d (.str w)), some (.d (.int tp)), some (.d (.tuple (tg.map tgD)))]) (l := eCall mkL (aCons (eC (.str "skip")) (aCons (eC (.str "refuse")) (aNil)))) (e := eC (.int 2)) (i := 0)
    (ls := [.str "skip", .str "refuse"]) u6.bag (u6.lt hn) (by decide) (by decide) (by omega) rfl (by simp [two]) (fun _ => rfl)
  obtain ⟨o, ho, rfl⟩ : ∃ w, w ∈ othersL ∧ d = .str w := by
    simp only [List.mem_cons, List.not_mem_nil, or_false] at o2
    rcases o2 with rfl | rfl <;> exact ⟨_, by decide, rfl⟩
  have u7 := u6.trans o3
  have tk : S7.take S.length = S7 := List.take_of_length_le (by rw [u7.len]; exact Nat.le_refl _)
  have six : (6 : Nat) ≤ sizeLine := by decide
  refine ⟨⟨b, hd, w, tp, tg, o⟩, S7, ?_, u7.mono (by omega), ⟨b2, b256, l3, hw, by show tp < 10 ^ 9; omega, x3, x4, ho, by show hd.length ≤ 300; omega, by show tg.length ≤ 300; omega⟩, rfl⟩
  have q := fnS_ret' (kp := false) (N := 11) (n := 5) (ws := [.loc n, .d (.int b), .d (.int mk), .d (.int most), .d (.int many)]) (S := S) rfl
    (seq_ok (e1 := [some (.loc n), some (.d (.int b)), some (.d (.int mk)), some (.d (.int most)), some (.d (.int many)), some (.d (.int mm)), none, none, none, none, none]) (S1 := S1) (sSet_ok (i := 5) (f := eCall F__law_grab (aCons (eVar 0) (aCons (eBin opAdd (eVar 2) (eC (.int 1))) (aNil)))) (by simp [g1']))
    (seq_ok (sSet_ok (i := 6) (eLc_ok (own := [7]) r1 l1))
    (seq_ok (sSet_ok (i := 8) p1)
    (seq_ok (S1 := S4) (sSet_ok (i := 9) (f := eCall F__law_grab (aCons (eVar 0) (aCons (eBin opAdd (eVar 3) (eC (.int 1))) (aNil)))) (w := .d (.int tp)) (by simp [t1']))
    (seq_ok (S1 := S6) (sSet_ok (i := 10) (f := eCall F__law_drawn_tags (aCons (eVar 0) (aCons (eVar 1) (aCons (eCall F__law_grab (aCons (eVar 0) (aCons (eBin opAdd (eVar 4) (eC (.int 1))) (aNil)))) (aNil))))) (w := .d (.tuple (tg.map tgD))) (by simp [m1', x1]))
    (sRet_ok (f := eCall mkT (aCons (eVar 1) (aCons (eCall (f1 tupW) (aCons (eVar 6) (aNil))) (aCons (eVar 8) (aCons (eVar 9) (aCons (eVar 10) (aCons (eBin ixW (eCall mkL (aCons (eC (.str "skip")) (aCons (eC (.str "refuse")) (aNil)))) (eCall F__law_grab (aCons (eVar 0) (aCons (eC (.int 2)) (aNil))))) (aNil)))))))) (w := .d (Fm.D ⟨b, hd, w, tp, tg, o⟩)) (S1 := S7)
      (eCall_ok (aCons_ok (S1 := S6) (w := .d (.int b)) (by simp) (aCons_ok (S1 := S6) (w := .d (.tuple ys)) (by simp [f1]) (aCons_ok (S1 := S6) (w := .d (.str w)) (by simp) (aCons_ok (S1 := S6) (w := .d (.int tp)) (by simp) (aCons_ok (S1 := S6) (w := .d (.tuple (tg.map tgD))) (by simp) (aCons_ok o1 rfl)))))) (by simp [six, Fm.D, l2]))))))))
  rw [tk] at q
  exact q
theorem e_any_form {n C b : Nat} (hb : Bg n C S) (hn : n < S.length) (b2 : 2 ≤ b) (b256 : b ≤ 256) (hC : C + 1003 ≤ 10 ^ 6) :
    ∃ (f : Fm) (S' : Sto), F__law_any_form [.loc n, .d (.int b), .d (.int 20)] S = some (.ok (.d f.D), S') ∧ Up n (C + 1003) S S' ∧ f.ok ∧ f.b = b := by
  have two : (2 : Nat) ≤ sizeLine := by decide
  have three : (3 : Nat) ≤ sizeLine := by decide
  obtain ⟨d1, S1, a1, a2, a3⟩ := e_pick (S := S) (n := n) (env := [some (.loc n), some (.d (.int b)), some (.d (.int 20)), none, none, none]) (l := eCall mkL (aCons (eC (.int 3)) (aCons (eVar 2) (aNil)))) (e := eC (.int 2)) (i := 0)
    (ls := [.int 3, .int 20]) hb hn (by decide) (by decide) (by omega) rfl (by simp [two]) (fun _ => rfl)
  obtain ⟨v1, hv1, rfl⟩ : ∃ v : Nat, v ≤ 100 ∧ d1 = .int v := by
    simp only [List.mem_cons, List.not_mem_nil, or_false] at a2
    rcases a2 with rfl | rfl
    · exact ⟨3, by decide, rfl⟩
    · exact ⟨20, by decide, rfl⟩
  obtain ⟨d2, S2, c1, c2, c3⟩ := e_pick (S := S1) (n := n) (env := [some (.loc n), some (.d (.int b)), some (.d (.int 20)), none, none, none]) (l := eCall mkL (aCons (eC (.int 4)) (aCons (eVar 2) (aNil)))) (e := eC (.int 2)) (i := 0)
    (ls := [.int 4, .int 20]) a3.bag (a3.lt hn) (by decide) (by decide) (by omega) rfl (by simp [two]) (fun _ => rfl)
  obtain ⟨v2, hv2, rfl⟩ : ∃ v : Nat, v ≤ 100 ∧ d2 = .int v := by
    simp only [List.mem_cons, List.not_mem_nil, or_false] at c2
    rcases c2 with rfl | rfl
    · exact ⟨4, by decide, rfl⟩
    · exact ⟨20, by decide, rfl⟩
  have u2 := a3.trans c3
  obtain ⟨d3, S3, k1, k2, k3⟩ := e_pick (S := S2) (n := n) (env := [some (.loc n), some (.d (.int b)), some (.d (.int 20)), some (.d (.int v1)), some (.d (.int v2)), none]) (l := eCall mkL (aCons (eC (.int 5)) (aCons (eC (.int 40)) (aCons (eC (.int 65535)) (aNil))))) (e := eC (.int 3)) (i := 0)
    (ls := [.int 5, .int 40, .int 65535]) u2.bag (u2.lt hn) (by decide) (by decide) (by omega) rfl (by simp [three]) (fun _ => rfl)
  obtain ⟨v3, hv3, rfl⟩ : ∃ v : Nat, v ≤ 65535 ∧ d3 = .int v := by
    simp only [List.mem_cons, List.not_mem_nil, or_false] at k2
    rcases k2 with rfl | rfl | rfl
    · exact ⟨5, by decide, rfl⟩
    · exact ⟨40, by decide, rfl⟩
    · exact ⟨65535, by decide, rfl⟩
  have u3 := u2.trans k3
  obtain ⟨f, S4, f1', f2, f3, f4⟩ := e_drawn_form (mk := v1) (most := v3) (many := v2) u3.bag (u3.lt hn) b2 b256 hv1 hv3 hv2 (by omega)
  have u4 := u3.trans f2
  have tk : S4.take S.length = S4 := List.take_of_length_le (by rw [u4.len]; exact Nat.le_refl _)
  refine ⟨f, S4, ?_, u4.mono (by omega), f3, f4⟩
  have q := fnS_ret' (kp := false) (N := 6) (n := 3) (ws := [.loc n, .d (.int b), .d (.int 20)]) (S := S) rfl
    (seq_ok (s := sPar 3 4 (aCons (eBin ixW (eCall mkL (aCons (eC (.int 3)) (aCons (eVar 2) (aNil)))) (eCall F__law_grab (aCons (eVar 0) (aCons (eC (.int 2)) (aNil))))) (aCons (eBin ixW (eCall mkL (aCons (eC (.int 4)) (aCons (eVar 2) (aNil)))) (eCall F__law_grab (aCons (eVar 0) (aCons (eC (.int 2)) (aNil))))) (aNil))))
      (e1 := [some (.loc n), some (.d (.int b)), some (.d (.int 20)), some (.d (.int v1)), some (.d (.int v2)), none]) (S1 := S2) (sPar_ok (aCons_ok a1 (aCons_ok c1 rfl)))
    (seq_ok (sSet_ok (i := 5) k1)
    (sRet_ok (f := eCall F__law_drawn_form (aCons (eVar 0) (aCons (eVar 1) (aCons (eVar 3) (aCons (eVar 5) (aCons (eVar 4) (aNil))))))) (w := .d f.D) (S1 := S4) (by simp [f1']))))
  rw [tk] at q
  exact q
end K50
set_option Elab.async false
set_option linter.all false
set_option maxRecDepth 100000
set_option maxHeartbeats 1000000
namespace K50
open PySem L2 TL Bq
variable {S : Sto}
theorem fnS_loc {N n : Nat} {s : SS} {ws : List Wv} {xs : List D} {env' : Sl} (hl : ws.length = n) (h : s (ws.map some ++ List.replicate (N - n) none) S = some (.rt (.loc S.length), env', S ++ [.lst xs])) : fnS true N n s ws S = some (.ok (.loc S.length), S ++ [.lst xs]) := by
  unfold fnS
  rw [if_pos hl, h]
  show (if S.length < S.length then _ else retNew true S.length (S ++ [.lst xs]) (S ++ [.lst xs])[S.length]?) = _
  rw [if_neg (Nat.lt_irrefl _)]
  simp [retNew]
/-! ### the bag -/
theorem e_bag {ns : List Int} {k : Nat} (hk : k < 100) :
    ∃ a b : Int, F__law_bag [.scr (ns.map PyData.int), .d (.int k)] S = some (.ok (.loc S.length), S ++ [.lst [.int a, .int b, .int 0]]) ∧ 0 ≤ a ∧ 0 ≤ b ∧ b < 10 ^ 41 := by
  obtain ⟨cell, hc⟩ : ∃ cell : Int, eIf (cVal (eBin opLt (eVar 1) (eCall (f1 lenW) (aCons (eVar 0) (aNil))))) (eBin ixW (eVar 0) (eVar 1)) (eC (.int 0)) [some (.scr (ns.map PyData.int)), some (.d (.int k)), none] S = some (.ok (.d (.int cell)), S) := by
    by_cases c : k < ns.length
    · refine ⟨ns[k], eIf_ok (k := true) (S1 := S) (by simp [f1, opLt, op2I, c]) ?_⟩
      have e : atI (ns.map PyData.int) (k : Int) = some (.int ns[k]) := by
        unfold atI ixN
        rw [if_pos (by omega), if_pos (by simp; exact c)]
        simp [c]
      simp [e]
    · exact ⟨0, eIf_ok (k := false) (S1 := S) (by simp [f1, opLt, op2I, c]) (by simp)⟩
  have q18 := opPow_ok (S := S) (i := 10) (j := 18) (by decide) (p1000 (k := 2) (by decide) (by decide)) (by decide)
  have q37 := opPow_ok (S := S) (i := 10) (j := 37) (by decide) (p1000 (k := 2) (by decide) (by decide)) (by decide)
  rw [show ((18 : Nat) : Int) = 18 from rfl] at q18
  rw [show ((37 : Nat) : Int) = 37 from rfl] at q37
  have pp : (0 : Int) < 10 ^ 37 + 163 := by decide +kernel
  have o1 := opMod_ok (S := S) (i := cell) pp
  obtain ⟨x, hx⟩ : ∃ x, cell % (10 ^ 37 + 163) = x := ⟨_, rfl⟩
  have x0 : 0 ≤ x := by rw [← hx]; exact Int.emod_nonneg _ (by omega)
  have x1 : x < 10 ^ 37 + 163 := by rw [← hx]; exact Int.emod_lt_of_pos _ pp
  rw [hx] at o1
  have big : (10 : Int) ^ 37 = 10000000000000000000000000000000000000 := by decide +kernel
  have big2 : (10 : Int) ^ 41 = 100000000000000000000000000000000000000000 := by decide +kernel
  have m1 := opMul_ok (S := S) (i := x) (j := 89) x0 (p1000 (k := 38) (by rw [show (10 : Int) ^ 38 = 100000000000000000000000000000000000000 by decide +kernel]; omega) (by decide)) (by decide) (p1000 (k := 2) (by decide) (by decide))
  have m2 := opMul_ok (S := S) (i := 71) (j := (k : Int)) (by decide) (p1000 (k := 2) (by decide) (by decide)) (by omega) (p1000 (k := 3) (by omega) (by decide))
  have three : (3 : Nat) ≤ sizeLine := by decide
  refine ⟨if 0 < (if cell < 0 then -cell else cell) - 10 ^ 18 then (if cell < 0 then -cell else cell) - 10 ^ 18 else 0, x * 89 + 71 * k + 53, ?_, by split <;> omega, by omega, by omega⟩
  exact fnS_loc rfl (seq_ok (sSet_ok (i := 2) hc) (sRet_ok (S1 := S ++ [.lst [.int (if 0 < (if cell < 0 then -cell else cell) - 10 ^ 18 then (if cell < 0 then -cell else cell) - 10 ^ 18 else 0), .int (x * 89 + 71 * k + 53), .int 0]]) (w := .loc S.length)
      (f := eCall mkM (aCons (eCall (max2F) (aCons (eC (.int 0)) (aCons (eBin opSub (eCall (absF) (aCons (eVar 2) (aNil))) (eBin opPow (eC (.int 10)) (eC (.int 18)))) (aNil)))) (aCons (eBin opAdd (eBin opAdd (eBin opMul (eBin opMod (eCall (f1 intW) (aCons (eVar 2) (aNil))) (eBin opAdd (eBin opPow (eC (.int 10)) (eC (.int 37))) (eC (.int 163)))) (eC (.int 89))) (eBin opMul (eC (.int 71)) (eVar 1))) (eC (.int 53))) (aCons (eC (.int 0)) (aNil)))))
      (eCall_ok (S1 := S) (ws := [.d (.int (if 0 < (if cell < 0 then -cell else cell) - 10 ^ 18 then (if cell < 0 then -cell else cell) - 10 ^ 18 else 0)), .d (.int (x * 89 + 71 * k + 53)), .d (.int 0)])
        (aCons_ok (S1 := S) (by
          generalize (10 : Int) ^ 18 = z18 at *
          simp [max2F, f2I, absF, f1I, opSub, op2I, q18]) (aCons_ok (S1 := S) (by
          generalize (10 : Int) ^ 37 = z37 at *
          simp [f1, q37, o1, m1, m2]) rfl)) (by simp [three]))))
end K50
set_option Elab.async false
set_option linter.all false
set_option maxRecDepth 100000
set_option maxHeartbeats 1000000
namespace K50
open PySem L2 TL Bq
variable {S : Sto}
/-! ### the law's own line -/
theorem strOk_of {x : Str} (h : ∀ c ∈ tl x, c < 1000) : PyData.strOk x = true := by
  show x.cps.all (fun c => decide (c < 0x110000)) = true
  rw [Array.all_eq_true_iff_forall_mem]
  intro c hc
  have := h c (Array.mem_toList_iff.mpr hc)
  exact decide_eq_true (by omega)
theorem shaped_strs {ls : List Str} (h : ∀ x ∈ ls, PyData.strOk x = true) : SeqAt.shaped (.list (ls.map PyData.str)) = true := by
  have h1 : PyData.canLayAll0 (ls.map PyData.str) = true := by
    induction ls with
    | nil => simp [PyData.canLayAll0]
    | cons x xs ih => simp [PyData.canLayAll0, PyData.canLay0, h x List.mem_cons_self, ih fun y hy => h y (List.mem_cons_of_mem _ hy)]
  have h2 : PyData.depthAll (ls.map PyData.str) = 0 := by
    clear h1 h
    induction ls with
    | nil => simp [PyData.depthAll]
    | cons x xs ih => simp only [List.map_cons, PyData.depthAll, PyData.depth, ih, Nat.max_self]
  simp [SeqAt.shaped, PyData.canLay0, PyData.depth, h1, h2]
theorem num_ok (n : Nat) : ∀ c ∈ tl (num n), c < 1000 := fun c hc => by
  rw [tl_numS] at hc
  have := numL_digits n c hc
  omega
theorem markT_ok (m : Option Nat) : PyData.strOk (markT m) = true := by
  cases m with
  | none => show PyData.strOk "*" = true; decide +kernel
  | some n => exact strOk_of (num_ok n)
theorem uses_ok : ∀ u ∈ usesL, ∀ c ∈ tl u, c < 1000 := by decide +kernel
theorem useT_ok {t : Nat × Str} (h : t.2 ∈ usesL) : PyData.strOk (useT t) = true := strOk_of fun c hc => by
  have e : tl (useT t) = tl (num t.1) ++ tl " " ++ tl t.2 := by
    show tl (num t.1 ++ " " ++ t.2) = _
    rw [tl_append, tl_append]
  rw [e] at hc
  simp only [List.mem_append] at hc
  rcases hc with (hc | hc) | hc
  · exact num_ok _ c hc
  · have : c ∈ [32] := hc
    simp at this; omega
  · exact uses_ok _ h c hc
theorem eqv_nil {ls : List D} : (PyData.eqv (.list ls) (.list []) = true) ↔ ls = [] := by
  cases ls with
  | nil => simp [PyData.eqv, PyData.eqvAll]
  | cons x xs => simp [PyData.eqv, PyData.eqvAll]
theorem lit_base : ("base " : Str) = "base" ++ " " := by decide +kernel
theorem lit_head : ("head " : Str) = "head" ++ " " := by decide +kernel
theorem lit_width : ("width " : Str) = "width" ++ " " := by decide +kernel
theorem lit_most : ("most " : Str) = "most" ++ " " := by decide +kernel
theorem lit_tags : ("tags " : Str) = "tags" ++ " " := by decide +kernel
theorem lit_others : ("others " : Str) = "others" ++ " " := by decide +kernel
theorem wd_ne {u : Str} (h : u ∈ widthsL) : u ≠ "" := by
  have : ∀ u ∈ widthsL, u ≠ "" := by decide +kernel
  exact this u h
theorem ot_ne {u : Str} (h : u ∈ othersL) : u ≠ "" := by
  have : ∀ u ∈ othersL, u ≠ "" := by decide +kernel
  exact this u h
theorem part_ne {w v : Str} (h : v ≠ "") : partT w v = w ++ " " ++ v := if_neg h
theorem e_form_line {f : Fm} (h : f.ok) : F__law_form_line [.d f.D] S = some (.ok (.d (.str (line f))), S) := by
  have m1 := lcGo_maps (S := S) (env := [some (.d f.D), some (.d (.int f.b)), some (.d (.tuple (f.hd.map mkD))), some (.d (.str f.wd)), some (.d (.int f.mo)), some (.d (.tuple (f.tg.map tgD))), some (.d (.str f.ot)), none, none, none, none, none]) (g := gN 8)
    (f := eIf (cVal (eBin opIs (eVar 8) (eC .none))) (eC (.str "*")) (eCall (f1 strW) (aCons (eVar 8) (aNil)))) (a := mkD) (b := fun m => .str (markT m)) (l := f.hd) (acc := [])
    (fun m hm => by
      refine ⟨_, rfl, ?_⟩
      cases m with
      | none => simp [mkD, markT]
      | some n =>
        have s := strW_num (n := n) (by have := h.hd n hm; have := h.b256; omega)
        simp [mkD, markT, f1, s, -strW_int]) (by rw [sz]; have := h.hl; simp; omega)
  have m2 := lcGo_maps (S := S) (env := [some (.d f.D), some (.d (.int f.b)), some (.d (.tuple (f.hd.map mkD))), some (.d (.str f.wd)), some (.d (.int f.mo)), some (.d (.tuple (f.tg.map tgD))), some (.d (.str f.ot)), some (.d (.list (f.hd.map fun m => .str (markT m)))), none, none, none, none]) (g := gN 10)
    (f := eBin opAdd (eBin opAdd (eCall (f1 strW) (aCons (eBin ixW (eVar 10) (eC (.int 0))) (aNil))) (eC (.str " "))) (eBin ixW (eVar 10) (eC (.int 1)))) (a := tgD) (b := fun t => .str (useT t)) (l := f.tg) (acc := [])
    (fun t ht => by
      refine ⟨_, rfl, ?_⟩
      obtain ⟨p, q⟩ := h.tg t ht
      have b := h.b256
      have hu := uses_len _ q
      have l1 : (num t.1).length ≤ 3 := num_len (by decide) (by omega)
      have e1 : (num t.1 ++ " " : Str).length = (num t.1).length + 1 := app_len _ _
      have z1 : (num t.1).length + Str.length " " ≤ sizeLine := by rw [sz, show Str.length " " = 1 from rfl]; omega
      have z2 : (num t.1 ++ " " : Str).length + t.2.length ≤ sizeLine := by rw [sz, e1]; omega
      have s := strW_num (n := t.1) (by omega)
      simp [tgD, f1, s, -strW_int, atI, ixN, z1, z2]
      rfl) (by rw [sz]; have := h.tl; simp; omega)
  obtain ⟨v1, v2, v3, v4, v5, v6⟩ := val_len h
  have s1 := strW_num (n := f.b) (by have := h.b256; omega)
  have s2 := strW_num (n := f.mo) h.mo
  have j1 := Nat.le_trans (marks_len h).2 (show 1200 ≤ 16777216 by decide)
  have j2 := Nat.le_trans (usesT_len h).2 (show 3300 ≤ 16777216 by decide)
  have j3 := Nat.le_trans (line_len h).2 (show 20000 ≤ 16777216 by decide)
  have r1 : f.hd.map (fun m => PyData.str (markT m)) = (f.hd.map markT).map PyData.str := by rw [List.map_map]; rfl
  have r2 : f.tg.map (fun m => PyData.str (useT m)) = (f.tg.map useT).map PyData.str := by rw [List.map_map]; rfl
  rw [List.nil_append] at m1 m2
  rw [r1] at m1 m2
  rw [r2] at m2
  have J1 : joinS " " (.d (.list ((f.hd.map markT).map PyData.str))) = retS (marksT f.hd) := by rw [joinS_eq, strsOf_map]; dsimp only; rw [if_pos j1]; rfl
  have J2 : joinS ", " (.d (.list ((f.tg.map useT).map PyData.str))) = retS (usesT f.tg) := by rw [joinS_eq, strsOf_map]; dsimp only; rw [if_pos j2]; rfl
  have J3 : joinS "; " (.d (.list ((pieces f).map PyData.str))) = retS (line f) := by rw [joinS_eq, strsOf_map]; dsimp only; rw [if_pos j3]; rfl
  have k1 : SeqAt.shaped (.list ((f.hd.map markT).map PyData.str)) = true := shaped_strs fun x hx => by
    obtain ⟨m, _, rfl⟩ := List.mem_map.mp hx
    exact markT_ok m
  have k2 : SeqAt.shaped (.list ((f.tg.map useT).map PyData.str)) = true := shaped_strs fun x hx => by
    obtain ⟨t, ht, rfl⟩ := List.mem_map.mp hx
    exact useT_ok (h.tg t ht).2
  have k0 : SeqAt.shaped (.list []) = true := by decide +kernel
  have o1 : okEq (.list ((f.hd.map markT).map PyData.str)) (.list []) = true := by show (SeqAt.shaped _ && SeqAt.shaped _) = true; rw [k1, k0]; rfl
  have o2 : okEq (.list ((f.tg.map useT).map PyData.str)) (.list []) = true := by show (SeqAt.shaped _ && SeqAt.shaped _) = true; rw [k2, k0]; rfl
  have n6 : ∀ k : Nat, k ≤ 6 → k ≤ sizeLine := fun k hk => by rw [sz]; omega
  have z : ∀ a b : Nat, a ≤ 10 → b ≤ 3300 → a + b ≤ sizeLine := fun a b ha hb => by rw [sz]; omega
  -- the two choices
  have t1 : eIf (cVal (eBin opNe (eVar 7) (eCall mkL (aNil)))) (eBin opAdd (eC (.str "head ")) (eM1 joinS (eC (.str " ")) (eVar 7))) (eC (.str "head"))
      [some (.d f.D), some (.d (.int f.b)), some (.d (.tuple (f.hd.map mkD))), some (.d (.str f.wd)), some (.d (.int f.mo)), some (.d (.tuple (f.tg.map tgD))), some (.d (.str f.ot)), some (.d (.list ((f.hd.map markT).map PyData.str))), none, some (.d (.list ((f.tg.map useT).map PyData.str))), none, none] S = some (.ok (.d (.str (partT "head" (marksT f.hd)))), S) := by
    by_cases c : f.hd = []
    · have d : partT "head" (marksT f.hd) = "head" := by rw [marks_ne.mpr c]; rfl
      have e : PyData.eqv (.list ((f.hd.map markT).map PyData.str)) (.list []) = true := eqv_nil.mpr (by rw [c]; rfl)
      rw [d]
      refine eIf_ok (k := false) (S1 := S) (cVal_ok ?_) (by simp)
      simp [o1, e, n6, -List.map_map]
    · have d := part_ne (w := "head") (v := marksT f.hd) fun z => c (marks_ne.mp z)
      have e : PyData.eqv (.list ((f.hd.map markT).map PyData.str)) (.list []) = false := by
        cases q : PyData.eqv (.list ((f.hd.map markT).map PyData.str)) (.list []) with
        | false => rfl
        | true => exact absurd (List.map_eq_nil_iff.mp (List.map_eq_nil_iff.mp (eqv_nil.mp q))) c
      rw [d, ← lit_head]
      refine eIf_ok (k := true) (S1 := S) (cVal_ok ?_) ?_
      · simp [o1, e, n6, -List.map_map]
      · have zz := z (Str.length "head ") (marksT f.hd).length (by decide) v2
        simp [J1, zz, -List.map_map, -joinS_eq]
  have t2 : ∀ x : Option Wv, eIf (cVal (eBin opNe (eVar 9) (eCall mkL (aNil)))) (eBin opAdd (eC (.str "tags ")) (eM1 joinS (eC (.str ", ")) (eVar 9))) (eC (.str "tags"))
      [some (.d f.D), some (.d (.int f.b)), some (.d (.tuple (f.hd.map mkD))), some (.d (.str f.wd)), some (.d (.int f.mo)), some (.d (.tuple (f.tg.map tgD))), some (.d (.str f.ot)), some (.d (.list ((f.hd.map markT).map PyData.str))), none, some (.d (.list ((f.tg.map useT).map PyData.str))), none, x] S = some (.ok (.d (.str (partT "tags" (usesT f.tg)))), S) := fun x => by
    by_cases c : f.tg = []
    · have d : partT "tags" (usesT f.tg) = "tags" := by rw [usesT_ne.mpr c]; rfl
      have e : PyData.eqv (.list ((f.tg.map useT).map PyData.str)) (.list []) = true := eqv_nil.mpr (by rw [c]; rfl)
      rw [d]
      refine eIf_ok (k := false) (S1 := S) (cVal_ok ?_) (by simp)
      simp [o2, e, n6, -List.map_map]
    · have d := part_ne (w := "tags") (v := usesT f.tg) fun z => c (usesT_ne.mp z)
      have e : PyData.eqv (.list ((f.tg.map useT).map PyData.str)) (.list []) = false := by
        cases q : PyData.eqv (.list ((f.tg.map useT).map PyData.str)) (.list []) with
        | false => rfl
        | true => exact absurd (List.map_eq_nil_iff.mp (List.map_eq_nil_iff.mp (eqv_nil.mp q))) c
      rw [d, ← lit_tags]
      refine eIf_ok (k := true) (S1 := S) (cVal_ok ?_) ?_
      · simp [o2, e, n6, -List.map_map]
      · have zz := z (Str.length "tags ") (usesT f.tg).length (by decide) v5
        simp [J2, zz, -List.map_map, -joinS_eq]
  have p1 := part_ne (w := "base") (num_ne f.b)
  have p3 := part_ne (w := "width") (wd_ne h.wd)
  have p4 := part_ne (w := "most") (num_ne f.mo)
  have p6 := part_ne (w := "others") (ot_ne h.ot)
  rw [← lit_base] at p1
  rw [← lit_width] at p3
  rw [← lit_most] at p4
  rw [← lit_others] at p6
  have z1 := z (Str.length "base ") (num f.b).length (by decide) v1
  have z3 := z (Str.length "width ") f.wd.length (by decide) v3
  have z4 := z (Str.length "most ") (num f.mo).length (by decide) v4
  have z6 := z (Str.length "others ") f.ot.length (by decide) v6
  exact fnS_ret rfl
    (seq_ok (s := sAsg (gT 6 (gsCons (gN 1) (gsCons (gN 2) (gsCons (gN 3) (gsCons (gN 4) (gsCons (gN 5) (gsCons (gN 6) (gsNil)))))))) (eVar 0)) (S1 := S) (e1 := [some (.d f.D), some (.d (.int f.b)), some (.d (.tuple (f.hd.map mkD))), some (.d (.str f.wd)), some (.d (.int f.mo)), some (.d (.tuple (f.tg.map tgD))), some (.d (.str f.ot)), none, none, none, none, none]) (by simp [gT, gsCons, gsNil, Fm.D])
    (seq_ok (sSet_ok (i := 7) (eLc_ok (fi := iTupl (eVar 2)) (own := [8]) (S1 := S) (by simp) m1))
    (seq_ok (sSet_ok (i := 9) (eLc_ok (fi := iTupl (eVar 5)) (own := [10]) (S1 := S) (by simp) m2))
    (seq_ok (sSet_ok (i := 11) (S1 := S) (w := .d (.list [.str (partT "base" (num f.b)), .str (partT "head" (marksT f.hd)), .str (partT "width" f.wd)])) (eCall_ok (aCons_ok (S1 := S) (a := eBin opAdd (eC (.str "base ")) (eCall (f1 strW) (aCons (eVar 1) (aNil)))) (w := .d (.str (partT "base" (num f.b)))) (by simp [f1, s1, -strW_int, z1, p1]) (aCons_ok t1 (aCons_ok (S1 := S) (a := eBin opAdd (eC (.str "width ")) (eVar 3)) (w := .d (.str (partT "width" f.wd))) (by simp [z3, p3]) rfl))) (by simp [n6])))
    (seq_ok (sSet_ok (i := 11) (S1 := S) (w := .d (.list [.str (partT "base" (num f.b)), .str (partT "head" (marksT f.hd)), .str (partT "width" f.wd), .str (partT "most" (num f.mo)), .str (partT "tags" (usesT f.tg))]))
      (eBin_ok (a := eVar 11) (S1 := S) (x := .d (.list [.str (partT "base" (num f.b)), .str (partT "head" (marksT f.hd)), .str (partT "width" f.wd)])) rfl (eCall_ok (S1 := S) (r := some (.ok (.d (.list [.str (partT "most" (num f.mo)), .str (partT "tags" (usesT f.tg))])), S)) (aCons_ok (S1 := S) (a := eBin opAdd (eC (.str "most ")) (eCall (f1 strW) (aCons (eVar 4) (aNil)))) (w := .d (.str (partT "most" (num f.mo)))) (by simp [f1, s2, -strW_int, z4, p4]) (aCons_ok (t2 _) rfl)) (by simp [n6])) (by simp [n6])))
    (sRet_ok (f := eM1 joinS (eC (.str "; ")) (eBin opAdd (eVar 11) (eCall mkL (aCons (eBin opAdd (eC (.str "others ")) (eVar 6)) (aNil))))) (S1 := S) (by
      have J3' := J3
      simp only [pieces, List.map_cons, List.map_nil] at J3'
      simp [z6, n6, ← p6, J3', -joinS_eq])))))))
end K50
set_option Elab.async false
set_option linter.all false
set_option maxRecDepth 100000
set_option maxHeartbeats 1000000
namespace K50
open PySem L2 TL Bq
variable {S : Sto}
/-! ### deep equality -/
def Pl : Nat → D → Prop
  | 0, _ => False
  | n + 1, .list xs => xs.length ≤ 1000 ∧ ∀ x ∈ xs, Pl n x
  | n + 1, .tuple xs => xs.length ≤ 1000 ∧ ∀ x ∈ xs, Pl n x
  | _ + 1, .dict _ => False
  | _ + 1, _ => True
theorem lcGo_none {g : SG} {c : Sl → M Bool} {f : SE} {env : Sl} : ∀ {items acc : List D}, (∀ x ∈ items, ∃ e1, g (.d x) env = some e1 ∧ c e1 S = some (.ok false, S)) → lcGo g c f env items acc S = some (.ok acc, S)
  | [], acc, _ => rfl
  | x :: xs, acc, hx => by
    obtain ⟨e1, h1, h2⟩ := hx x List.mem_cons_self
    have step : lcGo g c f env (x :: xs) acc S = lcGo g c f env xs acc S := by
      show (match g (.d x) env with | none => none | some e1 => match c e1 S with
        | some (.ok true, S1) => (match f e1 S1 with
          | some (.ok (.d y), S2) => if acc.length < sizeLine then lcGo g c f env xs (acc ++ [y]) S2 else none
          | _ => none)
        | some (.ok false, S1) => lcGo g c f env xs acc S1
        | _ => none) = _
      rw [h1]
      dsimp only
      rw [h2]
    rw [step]
    exact lcGo_none fun y hy => hx y (List.mem_cons_of_mem _ hy)
theorem eIsi2_eq (T U : String) (a : SE) (env : Sl) : eIsi2 T U a env = M.bnd (a env) fun w S => match tyName S w with
  | some t => some (.ok (.d (.bool (isiB t T || isiB t U))), S)
  | none => none := rfl
theorem e_all {n : Nat} {xs : List D} {env : Sl} {x : D} (hx : x = .list xs ∨ x = .tuple xs) (hl : xs.length ≤ 1000) (ih : ∀ y ∈ xs, F__law_equal n [.d y, .d y] S = some (.ok (.d (.bool true)), S)) (h0 : env[0]? = some (some (.d x))) (h1 : env[1]? = some (some (.d x))) (h2 : env.length = 3) :
    eBin opEq (eLc (iRange1 (aCons (eCall (f1 lenW) (aCons (eVar 1) (aNil))) (aNil))) (gN 2) (cNot (cVal (eCall (F__law_equal n) (aCons (eBin ixW (eVar 0) (eVar 2)) (aCons (eBin ixW (eVar 1) (eVar 2)) (aNil)))))) (eVar 2) [2]) (eCall mkL (aNil)) env S = some (.ok (.d (.bool true)), S) := by
  obtain ⟨a, b, c, rfl⟩ : ∃ a b c, env = [a, b, c] := by
    match env, h2 with
    | [a, b, c], _ => exact ⟨a, b, c, rfl⟩
  simp at h0 h1
  subst h0 h1
  have r1 := iRange_ok (S := S) (S' := S) (env := [some (.d x), some (.d x), c]) (a := aCons (eCall (f1 lenW) (aCons (eVar 1) (aNil))) (aNil)) (b := xs.length) (by rcases hx with rfl | rfl <;> simp [f1]) (by omega)
  have l := lcGo_none (S := S) (env := [some (.d x), some (.d x), none]) (g := gN 2) (c := cNot (cVal (eCall (F__law_equal n) (aCons (eBin ixW (eVar 0) (eVar 2)) (aCons (eBin ixW (eVar 1) (eVar 2)) (aNil)))))) (f := eVar 2) (items := (List.range' 0 xs.length).map fun k : Nat => PyData.int k) (acc := []) (fun y hy => by
    obtain ⟨k, hk, rfl⟩ := List.mem_map.mp hy
    have hk : k < xs.length := by simp [List.mem_range'] at hk; omega
    have e : atI xs (k : Int) = some xs[k] := by
      unfold atI ixN
      rw [if_pos (by omega), if_pos (by omega)]
      simp [hk]
    refine ⟨_, rfl, ?_⟩
    have q := ih xs[k] (List.getElem_mem hk)
    rcases hx with rfl | rfl <;> simp [e, q])
  refine eBin_ok (S1 := S) (S2 := S) (x := .d (.list [])) (y := .d (.list [])) ?_ ?_ ?_
  · show M.bnd (iRange1 _ _) _ S = _
    rw [M.bnd_ok r1]
    show M.bnd (lcGo _ _ _ _ _ _) _ S = _
    have l' := M.bnd_ok (k := fun ys => M.ret (Wv.d (.list ys))) l
    exact l'
  · have z : (0 : Nat) ≤ sizeLine := by decide
    simp [z]
  · rw [opEq_eq]
    have k0 : okEq (.list []) (.list []) = true := by decide +kernel
    rw [if_pos k0]
    simp [PyData.eqv, PyData.eqvAll]
theorem e_equal : ∀ (n : Nat) (x : D), Pl n x → F__law_equal n [.d x, .d x] S = some (.ok (.d (.bool true)), S)
  | 0, _, h => by cases h
  | n + 1, .none, _ => by
    have k0 : okEq .none .none = true := by decide +kernel
    show G__law_equal (F__law_equal n) _ S = _
    simp [G__law_equal, fnS_eq, eIsi2_eq, k0, PyData.eqv]
  | n + 1, .bool b, _ => by
    show G__law_equal (F__law_equal n) _ S = _
    simp [G__law_equal, fnS_eq, eIsi2_eq]
  | n + 1, .int i, _ => by
    show G__law_equal (F__law_equal n) _ S = _
    simp [G__law_equal, fnS_eq, eIsi2_eq]
  | n + 1, .str i, _ => by
    show G__law_equal (F__law_equal n) _ S = _
    simp [G__law_equal, fnS_eq, eIsi2_eq]
  | n + 1, .dict _, h => by cases h
  | n + 1, .list xs, h => by
    have e := e_all (S := S) (n := n) (xs := xs) (x := .list xs) (env := [some (.d (.list xs)), some (.d (.list xs)), none]) (.inl rfl) h.1 (fun y hy => e_equal n y (h.2 y hy)) rfl rfl rfl
    show G__law_equal (F__law_equal n) _ S = _
    refine fnS_ret (env' := [some (.d (.list xs)), some (.d (.list xs)), none]) rfl (seq_ok (S1 := S) (e1 := [some (.d (.list xs)), some (.d (.list xs)), none]) (by simp) (seq_ok (S1 := S) (e1 := [some (.d (.list xs)), some (.d (.list xs)), none]) (by simp) (seq_ok (S1 := S) (e1 := [some (.d (.list xs)), some (.d (.list xs)), none]) (by simp) (?_))))
    have st : sIf (cVal (eIsi2 "list" "tuple" (eVar 1))) (sSeq (sIf (cVal (eBin opNe (eCall (f1 lenW) (aCons (eVar 0) (aNil))) (eCall (f1 lenW) (aCons (eVar 1) (aNil))))) (sRet (eC (.bool false))) (sNil)) (sRet (eBin opEq (eLc (iRange1 (aCons (eCall (f1 lenW) (aCons (eVar 1) (aNil))) (aNil))) (gN 2) (cNot (cVal (eCall (F__law_equal n) (aCons (eBin ixW (eVar 0) (eVar 2)) (aCons (eBin ixW (eVar 1) (eVar 2)) (aNil)))))) (eVar 2) [2]) (eCall mkL (aNil))))) (sNil) [some (.d (.list xs)), some (.d (.list xs)), none] S = some (.rt (.d (.bool true)), [some (.d (.list xs)), some (.d (.list xs)), none], S) :=
      sIf_ok (k := true) (S1 := S) (by simp [eIsi2_eq]) (seq_ok (S1 := S) (e1 := [some (.d (.list xs)), some (.d (.list xs)), none]) (by simp [f1]) (sRet_ok e))
    rw [sSeq_eq, st]
  | n + 1, .tuple xs, h => by
    have e := e_all (S := S) (n := n) (xs := xs) (x := .tuple xs) (env := [some (.d (.tuple xs)), some (.d (.tuple xs)), none]) (.inr rfl) h.1 (fun y hy => e_equal n y (h.2 y hy)) rfl rfl rfl
    show G__law_equal (F__law_equal n) _ S = _
    refine fnS_ret (env' := [some (.d (.tuple xs)), some (.d (.tuple xs)), none]) rfl (seq_ok (S1 := S) (e1 := [some (.d (.tuple xs)), some (.d (.tuple xs)), none]) (by simp) (seq_ok (S1 := S) (e1 := [some (.d (.tuple xs)), some (.d (.tuple xs)), none]) (by simp) (seq_ok (S1 := S) (e1 := [some (.d (.tuple xs)), some (.d (.tuple xs)), none]) (by simp) (?_))))
    have st : sIf (cVal (eIsi2 "list" "tuple" (eVar 1))) (sSeq (sIf (cVal (eBin opNe (eCall (f1 lenW) (aCons (eVar 0) (aNil))) (eCall (f1 lenW) (aCons (eVar 1) (aNil))))) (sRet (eC (.bool false))) (sNil)) (sRet (eBin opEq (eLc (iRange1 (aCons (eCall (f1 lenW) (aCons (eVar 1) (aNil))) (aNil))) (gN 2) (cNot (cVal (eCall (F__law_equal n) (aCons (eBin ixW (eVar 0) (eVar 2)) (aCons (eBin ixW (eVar 1) (eVar 2)) (aNil)))))) (eVar 2) [2]) (eCall mkL (aNil))))) (sNil) [some (.d (.tuple xs)), some (.d (.tuple xs)), none] S = some (.rt (.d (.bool true)), [some (.d (.tuple xs)), some (.d (.tuple xs)), none], S) :=
      sIf_ok (k := true) (S1 := S) (by simp [eIsi2_eq]) (seq_ok (S1 := S) (e1 := [some (.d (.tuple xs)), some (.d (.tuple xs)), none]) (by simp [f1]) (sRet_ok e))
    rw [sSeq_eq, st]
theorem Pl_form {f : Fm} (h : f.ok) : Pl 5 f.D := by
  refine ⟨by simp, fun x hx => ?_⟩
  simp only [List.mem_cons, List.not_mem_nil, or_false] at hx
  rcases hx with rfl | rfl | rfl | rfl | rfl | rfl
  · trivial
  · refine ⟨by have := h.hl; simp; omega, fun x hx => ?_⟩
    obtain ⟨m, _, rfl⟩ := List.mem_map.mp hx
    cases m <;> trivial
  · trivial
  · trivial
  · refine ⟨by have := h.tl; simp; omega, fun x hx => ?_⟩
    obtain ⟨t, _, rfl⟩ := List.mem_map.mp hx
    refine ⟨by simp, fun x hx => ?_⟩
    simp only [List.mem_cons, List.not_mem_nil, or_false] at hx
    rcases hx with rfl | rfl <;> trivial
  · trivial
theorem Pl_file {xs : List Nat} (h : xs.length ≤ 300) : Pl 5 (fileD xs) := by
  refine ⟨by simp; omega, fun x hx => ?_⟩
  obtain ⟨m, _, rfl⟩ := List.mem_map.mp hx
  trivial
end K50
set_option Elab.async false
set_option linter.all false
set_option maxRecDepth 100000
set_option maxHeartbeats 2000000
namespace K50
open PySem L2 TL Bq
variable {S : Sto}
/-! ### forms as data -/
theorem layAll {xs : List D} (h : ∀ x ∈ xs, PyData.canLay0 x = true) : PyData.canLayAll0 xs = true := by
  induction xs with
  | nil => simp [PyData.canLayAll0]
  | cons x xs ih => simp [PyData.canLayAll0, h x List.mem_cons_self, ih fun y hy => h y (List.mem_cons_of_mem _ hy)]
theorem depAll {xs : List D} {k : Nat} (h : ∀ x ∈ xs, PyData.depth x ≤ k) : PyData.depthAll xs ≤ k := by
  induction xs with
  | nil => simp [PyData.depthAll]
  | cons x xs ih =>
    have h1 := h x List.mem_cons_self
    have h2 := ih fun y hy => h y (List.mem_cons_of_mem _ hy)
    simp only [PyData.depthAll]
    omega
theorem lay_str {u : Str} (h : PyData.strOk u = true) : PyData.canLay0 (.str u) = true := by simpa [PyData.canLay0] using h
theorem lay_tup {xs : List D} (h : ∀ x ∈ xs, PyData.canLay0 x = true) : PyData.canLay0 (.tuple xs) = true := by simpa [PyData.canLay0] using layAll h
theorem dep_tup {xs : List D} {k : Nat} (h : ∀ x ∈ xs, PyData.depth x ≤ k) : PyData.depth (.tuple xs) ≤ k + 1 := by
  have := depAll h
  simp only [PyData.depth]
  omega
theorem form_lay {f : Fm} (h : f.ok) : PyData.canLay0 f.D = true := by
  have w : ∀ u ∈ widthsL, PyData.strOk u = true := by decide +kernel
  have o : ∀ u ∈ othersL, PyData.strOk u = true := by decide +kernel
  refine lay_tup fun x hx => ?_
  simp only [List.mem_cons, List.not_mem_nil, or_false] at hx
  rcases hx with rfl | rfl | rfl | rfl | rfl | rfl
  · simp [PyData.canLay0]
  · refine lay_tup fun x hx => ?_
    obtain ⟨m, _, rfl⟩ := List.mem_map.mp hx
    cases m <;> simp [mkD, PyData.canLay0]
  · exact lay_str (w _ h.wd)
  · simp [PyData.canLay0]
  · refine lay_tup fun x hx => ?_
    obtain ⟨t, ht, rfl⟩ := List.mem_map.mp hx
    refine lay_tup fun x hx => ?_
    simp only [List.mem_cons, List.not_mem_nil, or_false] at hx
    rcases hx with rfl | rfl
    · simp [PyData.canLay0]
    · exact lay_str (strOk_of (uses_ok _ (h.tg t ht).2))
  · exact lay_str (o _ h.ot)
theorem form_dep (f : Fm) : PyData.depth f.D ≤ 64 := by
  refine Nat.le_trans (dep_tup (k := 3) fun x hx => ?_) (by decide)
  simp only [List.mem_cons, List.not_mem_nil, or_false] at hx
  rcases hx with rfl | rfl | rfl | rfl | rfl | rfl
  · simp [PyData.depth]
  · refine Nat.le_trans (dep_tup (k := 0) fun x hx => ?_) (by decide)
    obtain ⟨m, _, rfl⟩ := List.mem_map.mp hx
    cases m <;> simp [mkD, PyData.depth]
  · simp [PyData.depth]
  · simp [PyData.depth]
  · refine Nat.le_trans (dep_tup (k := 1) fun x hx => ?_) (by decide)
    obtain ⟨t, ht, rfl⟩ := List.mem_map.mp hx
    refine dep_tup (k := 0) fun x hx => ?_
    simp only [List.mem_cons, List.not_mem_nil, or_false] at hx
    rcases hx with rfl | rfl <;> simp [PyData.depth]
  · simp [PyData.depth]
theorem form_shaped {f : Fm} (h : f.ok) : SeqAt.shaped f.D = true := by
  unfold SeqAt.shaped
  rw [form_lay h, decide_eq_true (form_dep f)]
  rfl
theorem form_eqv {f : Fm} (h : f.ok) : PyData.eqv f.D f.D = true := PySem.SeqAt.eqv_refl _ (form_lay h)
theorem form_okEq {f : Fm} (h : f.ok) : okEq f.D f.D = true := by
  show (SeqAt.shaped f.D && SeqAt.shaped f.D) = true
  rw [form_shaped h]
  rfl
theorem line_inj {f g : Fm} (hf : f.ok) (hg : g.ok) (e : line f = line g) : f.D = g.D := by
  have h1 := e_parse_format (S := []) hf
  have h2 := e_parse_format (S := []) hg
  rw [e, h2] at h1
  injection h1 with h1
  injection h1 with h1 _
  injection h1 with h1
  injection h1 with h1
  exact h1.symm
/-! ### what is known -/
def Kn (kvs : List (Key × D)) : Prop := ∀ kv ∈ kvs, ∃ f : Fm, f.ok ∧ kv = (.inr (line f), f.D)
theorem Kn.look {kvs : List (Key × D)} {f : Fm} (h : Kn kvs) (hf : f.ok) : (lookK kvs (.inr (line f))).getD f.D = f.D := by
  unfold lookK
  cases e : kvs.find? fun kv => decide (kv.1 = .inr (line f)) with
  | none => rfl
  | some kv =>
    have h1 := List.find?_some e
    obtain ⟨g, hg, rfl⟩ := h kv (List.mem_of_find?_eq_some e)
    have h2 : (Sum.inr (line g) : Key) = .inr (line f) := of_decide_eq_true h1
    injection h2 with h2
    exact line_inj hg hf h2
theorem Kn.put {kvs : List (Key × D)} {f : Fm} (h : Kn kvs) (hf : f.ok) : Kn (putKD kvs (.inr (line f)) f.D) := by
  unfold putKD
  split
  · intro kv hkv
    obtain ⟨kv0, h1, h2⟩ := List.mem_map.mp hkv
    split at h2
    · rename_i h3
      exact ⟨f, hf, by rw [← h2, h3]⟩
    · exact h2 ▸ h kv0 h1
  · intro kv hkv
    rcases List.mem_append.mp hkv with hkv | hkv
    · exact h kv hkv
    · exact ⟨f, hf, List.mem_singleton.mp hkv⟩
theorem put_len (kvs : List (Key × D)) (k : Key) (v : D) : (putKD kvs k v).length ≤ kvs.length + 1 := by
  unfold putKD
  split <;> simp
theorem e_pickS {n C : Nat} {env : Sl} {ls : List D} {l : SE} {i : Nat} {S S0 : Sto} (hb : Bg n C S0) (hn : n < S0.length) (h0 : 0 < ls.length) (h1 : ls.length ≤ 300) (hC : C ≤ 10 ^ 6) (hv : env[i]? = some (some (.loc n))) (hl : l env S = some (.ok (.d (.list ls)), S0)) {e : SE} (he : ∀ S', e env S' = some (.ok (.d (.int (ls.length : Nat))), S')) :
    ∃ (d : D) (S' : Sto), eBin ixW l (eCall F__law_grab (aCons (eVar i) (aCons e (aNil)))) env S = some (.ok (.d d), S') ∧ d ∈ ls ∧ Up n (C + 1) S0 S' := by
  obtain ⟨r, S1, g1, g2, g3⟩ := e_grab hb hn h0 (by omega) hC
  obtain ⟨d, d1, d2⟩ := atI_mem (xs := ls) (r := r) g2
  refine ⟨d, S1, eBin_ok hl (eCall_ok (aCons_ok (S1 := S0) (w := .loc n) (by simp [hv]) (aCons_ok (he S0) rfl)) g1) ?_, d2, g3⟩
  rw [ixW_lst, d1]
/-- a base, a form, perhaps with another length -/
theorem e_base {n C : Nat} {env : Sl} (hb : Bg n C S) (hn : n < S.length) (hC : C + 10 ≤ 10 ^ 6) (hv : env[2]? = some (some (.loc n))) :
    ∃ (b : Nat) (S' : Sto), eBin ixW (eCall mkL (aCons (eC (.int 2)) (aCons (eC (.int 3)) (aCons (eC (.int 4)) (aCons (eC (.int 16)) (aCons (eC (.int 256)) (aCons (eBin opAdd (eC (.int 2)) (eCall F__law_grab (aCons (eVar 2) (aCons (eC (.int 255)) (aNil))))) (aNil)))))))) (eCall F__law_grab (aCons (eVar 2) (aCons (eC (.int 6)) (aNil)))) env S = some (.ok (.d (.int b)), S') ∧ 2 ≤ b ∧ b ≤ 256 ∧ Up n (C + 2) S S' := by
  obtain ⟨r, S1, g1, g2, g3⟩ := e_grab (below := 255) hb hn (by decide) (by decide) (by omega)
  have g1' : F__law_grab [.loc n, .d (.int 255)] S = some (.ok (.d (.int r)), S1) := g1
  have six : (6 : Nat) ≤ sizeLine := by decide
  obtain ⟨d, S2, p1, p2, p3⟩ := e_pickS (S := S) (n := n) (env := env) (l := eCall mkL (aCons (eC (.int 2)) (aCons (eC (.int 3)) (aCons (eC (.int 4)) (aCons (eC (.int 16)) (aCons (eC (.int 256)) (aCons (eBin opAdd (eC (.int 2)) (eCall F__law_grab (aCons (eVar 2) (aCons (eC (.int 255)) (aNil))))) (aNil)))))))) (e := eC (.int 6)) (i := 2)
    (ls := [.int 2, .int 3, .int 4, .int 16, .int 256, .int (2 + (r : Int))]) g3.bag (g3.lt hn) (by simp) (by simp) (by omega) hv (by simp [hv, g1', six]) (fun _ => rfl)
  have : ∃ b : Nat, d = .int b ∧ 2 ≤ b ∧ b ≤ 256 := by
    simp only [List.mem_cons, List.not_mem_nil, or_false] at p2
    rcases p2 with rfl | rfl | rfl | rfl | rfl | rfl
    · exact ⟨2, rfl, by omega⟩
    · exact ⟨3, rfl, by omega⟩
    · exact ⟨4, rfl, by omega⟩
    · exact ⟨16, rfl, by omega⟩
    · exact ⟨256, rfl, by omega⟩
    · exact ⟨2 + r, by simp, by omega⟩
  obtain ⟨b, rfl, b1, b2⟩ := this
  exact ⟨b, S2, p1, b1, b2, (g3.trans p3).mono (by omega)⟩
theorem cut03 (a b c d e f : D) : cutD [a, b, c, d, e, f] none (some 3) = [a, b, c] := rfl
theorem cut4 (a b c d e f : D) : cutD [a, b, c, d, e, f] (some 4) none = [e, f] := rfl
theorem e_top {n C : Nat} {f : Fm} {env : Sl} (hf : f.ok) (hb : Bg n C S) (hn : n < S.length) (hC : C + 10 ≤ 10 ^ 6) (hv : env[2]? = some (some (.loc n))) (h6 : env[6]? = some (some (.d f.D))) (h7 : 12 < env.length) :
    ∃ (g : Fm) (z : Option Wv) (S' : Sto), sIf (cVal (eBin opEq (eCall F__law_grab (aCons (eVar 2) (aCons (eC (.int 4)) (aNil)))) (eC (.int 0)))) (sSeq (sSet 7 (eCall F__law_grab (aCons (eVar 2) (aCons (eBin ixW (eCall mkL (aCons (eC (.int 65536)) (aCons (eBin opPow (eC (.int 10)) (eC (.int 9))) (aNil)))) (eCall F__law_grab (aCons (eVar 2) (aCons (eC (.int 2)) (aNil))))) (aNil))))) (
      sSet 6 (eBin opAdd (eBin opAdd (eSl (eVar 6) (oNone) (oSome (eC (.int 3)))) (eCall mkT (aCons (eVar 7) (aNil)))) (eSl (eVar 6) (oSome (eC (.int 4))) (oNone))))) (sNil) env S = some (.nx, (env.set 7 z).set 6 (some (.d g.D)), S') ∧ g.ok ∧ g.b = f.b ∧ Up n (C + 3) S S' := by
  obtain ⟨r, S1, g1, g2, g3⟩ := e_grab (below := 4) hb hn (by decide) (by decide) (by omega)
  have g1' : F__law_grab [.loc n, .d (.int 4)] S = some (.ok (.d (.int r)), S1) := g1
  have t1 : cVal (eBin opEq (eCall F__law_grab (aCons (eVar 2) (aCons (eC (.int 4)) (aNil)))) (eC (.int 0))) env S = some (.ok ((r : Int) == 0), S1) := cVal_ok (by simp [hv, g1'])
  by_cases c : r = 0
  · have two : (2 : Nat) ≤ sizeLine := by decide
    have one : (1 : Nat) ≤ sizeLine := by decide
    have q9 := opPow_ok (S := S1) (i := 10) (j := 9) (by decide) (p1000 (k := 2) (by decide) (by decide)) (by decide)
    rw [show ((9 : Nat) : Int) = 9 from rfl] at q9
    obtain ⟨d, S2, p1, p2, p3⟩ := e_pickS (S := S1) (n := n) (env := env) (l := eCall mkL (aCons (eC (.int 65536)) (aCons (eBin opPow (eC (.int 10)) (eC (.int 9))) (aNil)))) (e := eC (.int 2)) (i := 2)
      (ls := [.int 65536, .int (10 ^ 9)]) g3.bag (g3.lt hn) (by simp) (by simp) (by omega) hv (by simp [q9, two]) (fun _ => rfl)
    obtain ⟨v, rfl, v1, v2⟩ : ∃ v : Nat, d = .int v ∧ 0 < v ∧ v ≤ 10 ^ 9 := by
      simp only [List.mem_cons, List.not_mem_nil, or_false] at p2
      rcases p2 with rfl | rfl
      · exact ⟨65536, rfl, by decide, by decide⟩
      · exact ⟨10 ^ 9, rfl, by decide, by decide⟩
    obtain ⟨tp, S3, x1, x2, x3⟩ := e_grab (below := v) p3.bag (p3.lt (g3.lt hn)) v1 (by omega) (by omega)
    refine ⟨{ f with mo := tp }, some (.d (.int tp)), S3, ?_, ⟨hf.b2, hf.b256, hf.hd, hf.wd, by show tp < 10 ^ 9; omega, hf.tg, hf.asc, hf.ot, hf.hl, hf.tl⟩, rfl, ((g3.trans p3).trans x3).mono (by omega)⟩
    refine sIf_ok t1 ?_
    rw [c]
    refine seq_ok (s := sSet 7 _) (sSet_ok (i := 7) (w := .d (.int tp)) (S1 := S3) (eCall_ok (aCons_ok (S1 := S1) (a := eVar 2) (w := .loc n) (by simp [hv]) (aCons_ok p1 rfl)) x1)) ?_
    have h6' : (env.set 7 (some (.d (.int tp))))[6]? = some (some (.d f.D)) := by rw [List.getElem?_set_ne (by decide)]; exact h6
    have h7' : (env.set 7 (some (.d (.int tp))))[7]? = some (some (.d (.int tp))) := by rw [List.getElem?_set_self (by omega)]
    have s3 : (3 : Nat) + 1 ≤ sizeLine := by decide
    have s4 : (4 : Nat) + 2 ≤ sizeLine := by decide
    refine sSet_ok (i := 6) (w := .d (Fm.D { f with mo := tp })) (S1 := S3) ?_
    have e1 : eSl (eVar 6) (oNone) (oSome (eC (.int 3))) (env.set 7 (some (.d (.int tp)))) S3 = some (.ok (.d (.tuple [.int f.b, .tuple (f.hd.map mkD), .str f.wd])), S3) := by
      simp only [eSl_eq, bnd_eq, eVar_eq, h6', ret_ap, oNone_eq, oSome_eq, eC_eq]
      show slW (.d f.D) none (some 3) S3 = _
      rw [show f.D = .tuple [.int f.b, .tuple (f.hd.map mkD), .str f.wd, .int f.mo, .tuple (f.tg.map tgD), .str f.ot] from rfl, slW_tup, cut03]
    have e2 : eSl (eVar 6) (oSome (eC (.int 4))) (oNone) (env.set 7 (some (.d (.int tp)))) S3 = some (.ok (.d (.tuple [.tuple (f.tg.map tgD), .str f.ot])), S3) := by
      simp only [eSl_eq, bnd_eq, eVar_eq, h6', ret_ap, oNone_eq, oSome_eq, eC_eq]
      show slW (.d f.D) (some 4) none S3 = _
      rw [show f.D = .tuple [.int f.b, .tuple (f.hd.map mkD), .str f.wd, .int f.mo, .tuple (f.tg.map tgD), .str f.ot] from rfl, slW_tup, cut4]
    have e3 : eCall mkT (aCons (eVar 7) (aNil)) (env.set 7 (some (.d (.int tp)))) S3 = some (.ok (.d (.tuple [.int tp])), S3) := by
      refine eCall_ok (aCons_ok (S1 := S3) (w := .d (.int tp)) (by simp only [eVar_eq, h7', ret_ap]) rfl) (by simp [one])
    exact eBin_ok (eBin_ok (r := some (.ok (.d (.tuple [.int f.b, .tuple (f.hd.map mkD), .str f.wd, .int tp])), S3)) e1 e3 (by simp [s3])) e2 (by simp [s4, Fm.D])
  · refine ⟨f, (env[7]?).getD none, S1, sIf_ok t1 ?_, hf, rfl, g3.mono (by omega)⟩
    have e6 : (env.set 7 ((env[7]?).getD none)).set 6 (some (.d f.D)) = env := by
      have a7 : env[7]? = some env[7] := List.getElem?_eq_getElem (by omega)
      have a6 : some (Wv.d f.D) = env[6] := by
        rw [List.getElem?_eq_getElem (by omega)] at h6
        injection h6 with h6
        exact h6.symm
      rw [a7, Option.getD_some, List.set_getElem_self, a6, List.set_getElem_self]
    rw [e6]
    simp [c]
end K50
set_option Elab.async false
set_option linter.all false
set_option maxRecDepth 100000
set_option maxHeartbeats 2000000
namespace K50
open PySem L2 TL Bq
variable {S : Sto}
def turnB : SS := (sSeq (sSet 5 (eBin ixW (eCall mkL (aCons (eC (.int 2)) (aCons (eC (.int 3)) (aCons (eC (.int 4)) (aCons (eC (.int 16)) (aCons (eC (.int 256)) (aCons (eBin opAdd (eC (.int 2)) (eCall F__law_grab (aCons (eVar 2) (aCons (eC (.int 255)) (aNil))))) (aNil)))))))) (eCall F__law_grab (aCons (eVar 2) (aCons (eC (.int 6)) (aNil)))))) ( sSeq (sSet 6 (eCall F__law_any_form (aCons (eVar 2) (aCons (eVar 5) (aCons (eC (.int 20)) (aNil)))))) ( sSeq (sIf (cVal (eBin opEq (eCall F__law_grab (aCons (eVar 2) (aCons (eC (.int 4)) (aNil)))) (eC (.int 0)))) (sSeq (sSet 7 (eCall F__law_grab (aCons (eVar 2) (aCons (eBin ixW (eCall mkL (aCons (eC (.int 65536)) (aCons (eBin opPow (eC (.int 10)) (eC (.int 9))) (aNil)))) (eCall F__law_grab (aCons (eVar 2) (aCons (eC (.int 2)) (aNil))))) (aNil))))) ( sSet 6 (eBin opAdd (eBin opAdd (eSl (eVar 6) (oNone) (oSome (eC (.int 3)))) (eCall mkT (aCons (eVar 7) (aNil)))) (eSl (eVar 6) (oSome (eC (.int 4))) (oNone))))) (sNil)) ( sSeq (sSet 8 (eCall F__law_form_line (aCons (eVar 6) (aNil)))) ( sSeq (sIf (cVal (eBin opIsNot (eCall F_is_format (aCons (eVar 6) (aNil))) (eC (.bool true)))) (sRet (eC (.bool false))) (sNil)) ( sSeq (sSet 9 (eCall mkL (aCons (eCall F_show_format (aCons (eVar 6) (aNil))) (aCons (eCallK F_show_format kg_kw_show_format_form aNil (aCons (eVar 6) (aNil))) (aCons (eCall F_parse_format (aCons (eVar 8) (aNil))) (aNil)))))) ( sSeq (sSet 9 (eBin opAdd (eVar 9) (eCall mkL (aCons (eCallK F_parse_format kg_kw_parse_format_text aNil (aCons (eVar 8) (aNil))) (aNil))))) ( sSeq (sIf (cOr (cNot (cVal (eCall (F__law_equal 6) (aCons (eVar 9) (aCons (eCall mkL (aCons (eVar 8) (aCons (eVar 8) (aCons (eVar 6) (aCons (eVar 6) (aNil)))))) (aNil)))))) (cVal (eBin opNe (eGet2 (eVar 3) (eVar 8) (eVar 6)) (eVar 6)))) (sRet (eC (.bool false))) (sNil)) ( sSeq (sPut (eVar 3) (eVar 8) (eVar 6)) ( sSeq (sSet 10 (eCall (f1 tupW) (aCons (eLc (iRange1 (aCons (eCall F__law_grab (aCons (eVar 2) (aCons (eBin ixW (eCall mkL (aCons (eC (.int 9)) (aCons (eC (.int 201)) (aNil)))) (eCall F__law_grab (aCons (eVar 2) (aCons (eC (.int 2)) (aNil))))) (aNil)))) (aNil))) (gN 11) (cYes) (eCall F__law_grab (aCons (eVar 2) (aCons (eVar 5) (aNil)))) [11]) (aNil)))) ( sSeq (sSet 12 (eCall F__law_file_line (aCons (eVar 10) (aNil)))) ( sSeq (sSet 9 (eCall mkL (aCons (eCall F_show_file (aCons (eVar 6) (aCons (eVar 10) (aNil)))) (aCons (eCallK F_show_file kg_kw_show_file_file_form aNil (aCons (eVar 10) (aCons (eVar 6) (aNil)))) (aNil))))) ( sSeq (sSet 9 (eBin opAdd (eVar 9) (eCall mkL (aCons (eCall F_parse_file (aCons (eVar 6) (aCons (eVar 12) (aNil)))) (aCons (eCallK F_parse_file kg_kw_parse_file_text_form aNil (aCons (eVar 12) (aCons (eVar 6) (aNil)))) (aNil)))))) ( sIf (cNot (cVal (eCall (F__law_equal 6) (aCons (eVar 9) (aCons (eCall mkL (aCons (eVar 12) (aCons (eVar 12) (aCons (eVar 10) (aCons (eVar 10) (aNil)))))) (aNil)))))) (sRet (eC (.bool false))) (sNil)))))))))))))))
theorem Kn.nil : Kn [] := fun kv h => by cases h
/-- what stays through a turn -/
structure Tn (n m C K : Nat) (S : Sto) : Prop where
  bag : Bg n C S
  nl : n < S.length
  ml : m < S.length
  nm : n ≠ m
  kn : ∃ kvs, S[m]? = some (.dK kvs) ∧ Kn kvs ∧ kvs.length ≤ K
theorem Tn.up {n m C C' K : Nat} {S S' : Sto} (t : Tn n m C K S) (u : Up n C' S S') : Tn n m C' K S' := by
  obtain ⟨kvs, h1, h2, h3⟩ := t.kn
  exact ⟨u.bag, by rw [u.len]; exact t.nl, by rw [u.len]; exact t.ml, t.nm, kvs, by rw [u.old m (Ne.symm t.nm)]; exact h1, h2, h3⟩
theorem e_known {n m C K : Nat} {f : Fm} {env : Sl} (t : Tn n m C K S) (hf : f.ok) (h3 : env[3]? = some (some (.loc m))) (h8 : env[8]? = some (some (.d (.str (line f))))) (h6 : env[6]? = some (some (.d f.D))) :
    eGet2 (eVar 3) (eVar 8) (eVar 6) env S = some (.ok (.d f.D), S) := by
  obtain ⟨kvs, k1, k2, _⟩ := t.kn
  have l := k2.look hf
  show M.bnd (eVar 3 env) (fun x => M.bnd (isDk x) fun x => M.bnd (eVar 8 env) fun k => M.bnd (eVar 6 env) fun y => get2W x k y) S = _
  rw [M.bnd_ok (a := .loc m) (S1 := S) (by simp [h3]), M.bnd_ok (a := .loc m) (S1 := S) (by simp [isDk, k1]), M.bnd_ok (a := .d (.str (line f))) (S1 := S) (by simp [h8]), M.bnd_ok (a := .d f.D) (S1 := S) (by simp [h6])]
  simp [get2W, k1, keyOf, l]
theorem e_put {n m C K : Nat} {f : Fm} {env : Sl} (t : Tn n m C K S) (hK : K ≤ 1000) (hf : f.ok) (h3 : env[3]? = some (some (.loc m))) (h8 : env[8]? = some (some (.d (.str (line f))))) (h6 : env[6]? = some (some (.d f.D))) :
    ∃ S', sPut (eVar 3) (eVar 8) (eVar 6) env S = some (.nx, env, S') ∧ Tn n m C (K + 1) S' ∧ S'.length = S.length := by
  obtain ⟨kvs, k1, k2, k3⟩ := t.kn
  have hz : kvs.length < sizeLine := by rw [sz]; omega
  refine ⟨S.set m (.dK (putKD kvs (.inr (line f)) f.D)), ?_, ⟨?_, by rw [List.length_set]; exact t.nl, by rw [List.length_set]; exact t.ml, t.nm, _, List.getElem?_set_self t.ml, k2.put hf, ?_⟩, List.length_set ..⟩
  · rw [sPut_eq]
    simp [h3, h6, h8, k1, keyOf, hz]
  · obtain ⟨a, b, c, q1, q2⟩ := t.bag.ex
    exact ⟨a, b, c, by rw [List.getElem?_set_ne (Ne.symm t.nm)]; exact q1, q2⟩
  · have := put_len kvs (.inr (line f)) f.D
    omega
/-- a drawn file -/
theorem e_draw_file {n C b : Nat} {env : Sl} (hb : Bg n C S) (hn : n < S.length) (b2 : 2 ≤ b) (b256 : b ≤ 256) (hC : C + 300 ≤ 10 ^ 6) (hl : env.length = 13) (hv : env[2]? = some (some (.loc n))) (h5 : env[5]? = some (some (.d (.int b)))) :
    ∃ (xs : List Nat) (S' : Sto), eCall (f1 tupW) (aCons (eLc (iRange1 (aCons (eCall F__law_grab (aCons (eVar 2) (aCons (eBin ixW (eCall mkL (aCons (eC (.int 9)) (aCons (eC (.int 201)) (aNil)))) (eCall F__law_grab (aCons (eVar 2) (aCons (eC (.int 2)) (aNil))))) (aNil)))) (aNil))) (gN 11) (cYes) (eCall F__law_grab (aCons (eVar 2) (aCons (eVar 5) (aNil)))) [11]) (aNil)) env S = some (.ok (.d (fileD xs)), S') ∧
      (∀ k ∈ xs, k < b) ∧ xs.length ≤ 300 ∧ Up n (C + 300) S S' := by
  have two : (2 : Nat) ≤ sizeLine := by decide
  obtain ⟨d, S1, p1, p2, p3⟩ := e_pickS (S := S) (n := n) (env := env) (l := eCall mkL (aCons (eC (.int 9)) (aCons (eC (.int 201)) (aNil)))) (e := eC (.int 2)) (i := 2)
    (ls := [.int 9, .int 201]) hb hn (by simp) (by simp) (by omega) hv (by simp [two]) (fun _ => rfl)
  obtain ⟨v, rfl, v1, v2⟩ : ∃ v : Nat, d = .int v ∧ 0 < v ∧ v ≤ 201 := by
    simp only [List.mem_cons, List.not_mem_nil, or_false] at p2
    rcases p2 with rfl | rfl
    · exact ⟨9, rfl, by decide, by decide⟩
    · exact ⟨201, rfl, by decide, by decide⟩
  obtain ⟨mm, S2, x1, x2, x3⟩ := e_grab (below := v) p3.bag (p3.lt hn) v1 (by omega) (by omega)
  have u2 := p3.trans x3
  have r1 := iRange_ok (S := S) (S' := S2) (env := env) (a := aCons (eCall F__law_grab (aCons (eVar 2) (aCons (eBin ixW (eCall mkL (aCons (eC (.int 9)) (aCons (eC (.int 201)) (aNil)))) (eCall F__law_grab (aCons (eVar 2) (aCons (eC (.int 2)) (aNil))))) (aNil)))) (aNil)) (b := mm)
    (aCons_ok (eCall_ok (aCons_ok (S1 := S) (a := eVar 2) (w := .loc n) (by simp [hv]) (aCons_ok p1 rfl)) x1) rfl) (by omega)
  have w2 : (env.set 11 none)[2]? = some (some (.loc n)) := by rw [List.getElem?_set_ne (by decide)]; exact hv
  have w5 : (env.set 11 none)[5]? = some (some (.d (.int b))) := by rw [List.getElem?_set_ne (by decide)]; exact h5
  obtain ⟨ys, S3, l1, u3, xs, l2, l3, l4⟩ := lcGo_nat (S := S2) (j := mm) (k := 0) (acc := []) (env := env.set 11 none) (g := gN 11) (f := eCall F__law_grab (aCons (eVar 2) (aCons (eVar 5) (aNil))))
    (fun i acc S' => Up n (C + 2 + i) S S' ∧ ∃ xs : List Nat, acc = xs.map (fun k => .int (k : Nat)) ∧ (∀ k ∈ xs, k < b) ∧ xs.length = i)
    (fun i acc S' hi ⟨u, xs, k1, k2, k3⟩ => by
      obtain ⟨r, S4, q1, q2, q3⟩ := e_grab (below := b) u.bag (u.lt hn) (by omega) (by omega) (by omega)
      have q1' : F__law_grab [.loc n, .d (.int b)] S' = some (.ok (.d (.int r)), S4) := q1
      have y2 : ((env.set 11 none).set 11 (some (.d (.int (i : Nat)))))[2]? = some (some (.loc n)) := by rw [List.getElem?_set_ne (by decide)]; exact w2
      have y5 : ((env.set 11 none).set 11 (some (.d (.int (i : Nat)))))[5]? = some (some (.d (.int b))) := by rw [List.getElem?_set_ne (by decide)]; exact w5
      refine ⟨_, rfl, .int r, S4, eCall_ok (aCons_ok (S1 := S') (w := .loc n) ?_ (aCons_ok (S1 := S') (w := .d (.int b)) ?_ rfl)) q1', (u.trans q3).mono (by omega), xs ++ [r], by simp [k1], fun k hk => ?_, by simp [k3]⟩
      · simp only [eVar_eq, y2, ret_ap]
      · simp only [eVar_eq, y5, ret_ap]
      · rcases List.mem_append.mp hk with hk | hk
        · exact k2 k hk
        · rw [List.mem_singleton.mp hk]; exact q2)
    ⟨u2.mono (by omega), [], rfl, by simp, rfl⟩ (by rw [sz]; simp; omega)
  refine ⟨xs, S3, eCall_ok (aCons_ok (S1 := S3) (w := .d (.list ys)) (eLc_ok (own := [11]) r1 l1) rfl) ?_, l3, by omega, u3.mono (by omega)⟩
  rw [l2]
  simp [f1, fileD]
theorem e_opIsNot (a b : Bool) : opIsNot (.d (.bool a)) (.d (.bool b)) S = some (.ok (.d (.bool (!decide (a = b)))), S) := rfl
end K50
set_option Elab.async false
set_option linter.all false
set_option maxRecDepth 100000
set_option maxHeartbeats 2000000
namespace K50
open PySem L2 TL Bq
variable {S : Sto}
abbrev ev (z0 z1 : Option Wv) (n m : Nat) (z4 z5 z6 z7 z8 z9 z10 z11 z12 : Option Wv) : Sl := [z0, z1, some (.loc n), some (.loc m), z4, z5, z6, z7, z8, z9, z10, z11, z12]
theorem cOr_ok {c d : Sl → M Bool} {env : Sl} {S S1 : Sto} {k : Bool} {r : Option (Rs Bool × Sto)} (h1 : c env S = some (.ok k, S1)) (h2 : (if k = true then M.ret true else d env) S1 = r) : cOr c d env S = r := (M.bnd_ok h1).trans h2
theorem cNot_ok {c : Sl → M Bool} {env : Sl} {S S1 : Sto} {k : Bool} (h1 : c env S = some (.ok k, S1)) : cNot c env S = some (.ok (!k), S1) := M.bnd_ok h1
theorem e_turn {n m C K : Nat} (t : Tn n m C K S) (hC : C + 3000 ≤ 10 ^ 6) (hK : K ≤ 1000) (z0 z1 z4 z5 z6 z7 z8 z9 z10 z11 z12 : Option Wv) :
    ∃ (S' : Sto) (y5 y6 y7 y8 y9 y10 y11 y12 : Option Wv), turnB (ev z0 z1 n m z4 z5 z6 z7 z8 z9 z10 z11 z12) S = some (.nx, ev z0 z1 n m z4 y5 y6 y7 y8 y9 y10 y11 y12, S') ∧ Tn n m (C + 3000) (K + 1) S' ∧ S'.length = S.length := by
  have two : (2 : Nat) ≤ sizeLine := by decide
  have three : (3 : Nat) ≤ sizeLine := by decide
  have one : (1 : Nat) ≤ sizeLine := by decide
  have four : (4 : Nat) ≤ sizeLine := by decide
  have f31 : (3 : Nat) + 1 ≤ sizeLine := by decide
  have f22 : (2 : Nat) + 2 ≤ sizeLine := by decide
  have f21 : (2 : Nat) + 1 ≤ sizeLine := by decide
  obtain ⟨b, S1, a1, b2, b256, u1⟩ := e_base (S := S) (n := n) (env := ev z0 z1 n m z4 z5 z6 z7 z8 z9 z10 z11 z12) t.bag t.nl (by omega) rfl
  obtain ⟨f0, S2, c1, u2, c2, c3⟩ := e_any_form (b := b) u1.bag (u1.lt t.nl) b2 b256 (by omega)
  have u2' := u1.trans u2
  obtain ⟨f, z7', S3, d1, hf, d2, u3⟩ := e_top (f := f0) (env := ev z0 z1 n m z4 (some (.d (.int b))) (some (.d f0.D)) z7 z8 z9 z10 z11 z12) c2 u2'.bag (u2'.lt t.nl) (by omega) rfl rfl (by simp)
  have u3' := u2'.trans u3
  have t3 := t.up u3'
  have hfb : f.b = b := d2.trans c3
  have Pf := Pl_form hf
  have eq1 := e_equal (S := S3) 6 (.list [.str (line f), .str (line f), f.D, f.D]) ⟨by simp, fun x hx => by
    simp only [List.mem_cons, List.not_mem_nil, or_false] at hx
    rcases hx with rfl | rfl | rfl | rfl
    · trivial
    · trivial
    · exact Pf
    · exact Pf⟩
  have kn := e_known (S := S3) (env := ev z0 z1 n m z4 (some (.d (.int b))) (some (.d f.D)) z7' (some (.d (.str (line f)))) (some (.d (.list [.str (line f), .str (line f), f.D, f.D]))) z10 z11 z12) t3 hf rfl rfl rfl
  obtain ⟨S4, p1, t4, l4⟩ := e_put (S := S3) (env := ev z0 z1 n m z4 (some (.d (.int b))) (some (.d f.D)) z7' (some (.d (.str (line f)))) (some (.d (.list [.str (line f), .str (line f), f.D, f.D]))) z10 z11 z12) t3 hK hf rfl rfl rfl
  obtain ⟨xs, S5, x1, x2, x3, u5⟩ := e_draw_file (S := S4) (b := b) (env := ev z0 z1 n m z4 (some (.d (.int b))) (some (.d f.D)) z7' (some (.d (.str (line f)))) (some (.d (.list [.str (line f), .str (line f), f.D, f.D]))) z10 z11 z12) t4.bag t4.nl b2 b256 (by omega) rfl rfl rfl
  have t5 := t4.up u5
  have x2' : ∀ k ∈ xs, k < f.b := by rw [hfb]; exact x2
  have Px := Pl_file x3
  have eq2 := e_equal (S := S5) 6 (.list [.str (sgT xs), .str (sgT xs), fileD xs, fileD xs]) ⟨by simp, fun x hx => by
    simp only [List.mem_cons, List.not_mem_nil, or_false] at hx
    rcases hx with rfl | rfl | rfl | rfl
    · trivial
    · trivial
    · exact Px
    · exact Px⟩
  have k1 : kg_kw_show_format_form ([] : List Wv) [.d f.D] = [.d f.D] := rfl
  have k2 : kg_kw_parse_format_text ([] : List Wv) [.d (.str (line f))] = [.d (.str (line f))] := rfl
  have k3 : kg_kw_show_file_file_form ([] : List Wv) [.d (fileD xs), .d f.D] = [.d f.D, .d (fileD xs)] := rfl
  have k4 : kg_kw_parse_file_text_form ([] : List Wv) [.d (.str (sgT xs)), .d f.D] = [.d f.D, .d (.str (sgT xs))] := rfl
  have fm := e_is_format (S := S3) hf
  have sf := e_show_format (S := S3) hf
  have pf := e_parse_format (S := S3) hf
  have fl := e_form_line (S := S3) hf
  have shf := e_show_file (S := S5) hf x2' x3
  have paf := e_parse_file (S := S5) hf x2' x3
  have fil := e_file_line (S := S5) b256 x2 x3
  have ok := form_okEq hf
  have ev' := form_eqv hf
  refine ⟨S5, some (.d (.int b)), some (.d f.D), z7', some (.d (.str (line f))), some (.d (.list [.str (sgT xs), .str (sgT xs), fileD xs, fileD xs])), some (.d (fileD xs)), z11, some (.d (.str (sgT xs))), ?_, ?_, by rw [u5.len, l4, u3'.len]⟩
  · unfold turnB
    refine seq_ok (S1 := S1) (e1 := ev z0 z1 n m z4 (some (.d (.int b))) z6 z7 z8 z9 z10 z11 z12) (sSet_ok a1) ?_
    refine seq_ok (S1 := S2) (e1 := ev z0 z1 n m z4 (some (.d (.int b))) (some (.d f0.D)) z7 z8 z9 z10 z11 z12) (sSet_ok (w := .d f0.D) (by simp [c1])) ?_
    refine seq_ok (S1 := S3) (e1 := ev z0 z1 n m z4 (some (.d (.int b))) (some (.d f.D)) z7' z8 z9 z10 z11 z12) d1 ?_
    refine seq_ok (S1 := S3) (e1 := ev z0 z1 n m z4 (some (.d (.int b))) (some (.d f.D)) z7' (some (.d (.str (line f)))) z9 z10 z11 z12) (sSet_ok (w := .d (.str (line f))) (by simp [fl])) ?_
    refine seq_ok (S1 := S3) (e1 := ev z0 z1 n m z4 (some (.d (.int b))) (some (.d f.D)) z7' (some (.d (.str (line f)))) z9 z10 z11 z12) (sIf_ok (k := false) (S1 := S3) (cVal_ok (eBin_ok (x := .d (.bool true)) (y := .d (.bool true)) (S1 := S3) (S2 := S3) (by simp [fm]) rfl (by rfl))) (by simp)) ?_
    refine seq_ok (S1 := S3) (e1 := ev z0 z1 n m z4 (some (.d (.int b))) (some (.d f.D)) z7' (some (.d (.str (line f)))) (some (.d (.list [.str (line f), .str (line f), f.D]))) z10 z11 z12) (sSet_ok (w := .d (.list [.str (line f), .str (line f), f.D])) (by simp [sf, pf, k1, three])) ?_
    refine seq_ok (S1 := S3) (e1 := ev z0 z1 n m z4 (some (.d (.int b))) (some (.d f.D)) z7' (some (.d (.str (line f)))) (some (.d (.list [.str (line f), .str (line f), f.D, f.D]))) z10 z11 z12) (sSet_ok (w := .d (.list [.str (line f), .str (line f), f.D, f.D])) (by simp [pf, k2, one, f31])) ?_
    refine seq_ok (S1 := S3) (e1 := ev z0 z1 n m z4 (some (.d (.int b))) (some (.d f.D)) z7' (some (.d (.str (line f)))) (some (.d (.list [.str (line f), .str (line f), f.D, f.D]))) z10 z11 z12) (sIf_ok (k := false) (S1 := S3) (cOr_ok (k := false) (S1 := S3) (cNot_ok (k := true) (cVal_ok (by simp [four, eq1]))) (cVal_ok (eBin_ok kn (S2 := S3) (y := .d f.D) rfl (by rw [opNe_eq, if_pos ok, ev']; rfl)))) (by simp)) ?_
    refine seq_ok p1 ?_
    refine seq_ok (S1 := S5) (e1 := ev z0 z1 n m z4 (some (.d (.int b))) (some (.d f.D)) z7' (some (.d (.str (line f)))) (some (.d (.list [.str (line f), .str (line f), f.D, f.D]))) (some (.d (fileD xs))) z11 z12) (sSet_ok x1) ?_
    refine seq_ok (S1 := S5) (e1 := ev z0 z1 n m z4 (some (.d (.int b))) (some (.d f.D)) z7' (some (.d (.str (line f)))) (some (.d (.list [.str (line f), .str (line f), f.D, f.D]))) (some (.d (fileD xs))) z11 (some (.d (.str (sgT xs))))) (sSet_ok (w := .d (.str (sgT xs))) (by simp [fil])) ?_
    refine seq_ok (S1 := S5) (e1 := ev z0 z1 n m z4 (some (.d (.int b))) (some (.d f.D)) z7' (some (.d (.str (line f)))) (some (.d (.list [.str (sgT xs), .str (sgT xs)]))) (some (.d (fileD xs))) z11 (some (.d (.str (sgT xs))))) (sSet_ok (w := .d (.list [.str (sgT xs), .str (sgT xs)])) (by simp [shf, k3, two])) ?_
    refine seq_ok (S1 := S5) (e1 := ev z0 z1 n m z4 (some (.d (.int b))) (some (.d f.D)) z7' (some (.d (.str (line f)))) (some (.d (.list [.str (sgT xs), .str (sgT xs), fileD xs, fileD xs]))) (some (.d (fileD xs))) z11 (some (.d (.str (sgT xs))))) (sSet_ok (w := .d (.list [.str (sgT xs), .str (sgT xs), fileD xs, fileD xs])) (by simp [paf, k4, two, f22])) ?_
    exact sIf_ok (k := false) (S1 := S5) (cNot_ok (k := true) (cVal_ok (by simp [four, eq2]))) (by simp)
  · exact ⟨t5.bag.mono (by omega), t5.nl, t5.ml, t5.nm, t5.kn⟩
end K50
set_option Elab.async false
set_option linter.all false
set_option maxRecDepth 100000
set_option maxHeartbeats 2000000
namespace K50
open PySem L2 TL Bq
variable {S : Sto}
def f2 : Fm := ⟨2, [], "low", 0, [], "skip"⟩
theorem f2_ok : f2.ok := ⟨by decide, by decide, fun n h => (by cases h), by decide, by decide, fun t h => (by cases h), List.Pairwise.nil, by decide, by decide, by decide⟩
theorem f2_line : line f2 = "base 2; head; width low; most 0; tags; others skip" := by decide +kernel
theorem law_true (ns : List Int) (h : ns.length ≤ 63) : ∃ S', F_law [.scr (ns.map PyData.int)] [] = some (.ok (.d (.bool true)), S') := by
  obtain ⟨cnt, hc, hr⟩ : ∃ cnt : Nat, cnt ≤ 6 ∧ iRange1 (aCons (eCall (max2F) (aCons (eC (.int 1)) (aCons (eCall (min2F) (aCons (eC (.int 6)) (aCons (eCall (f1 lenW) (aCons (eVar 0) (aNil))) (aNil)))) (aNil)))) (aNil))
      [some (.scr (ns.map PyData.int)), none, none, none, none, none, none, none, none, none, none, none, none] [] = some (.ok ((List.range' 0 cnt).map fun k : Nat => PyData.int k), []) := by
    have e : ∃ cnt : Nat, cnt ≤ 6 ∧ (if (if (ns.length : Int) < 6 then (ns.length : Int) else 6) > 1 then (if (ns.length : Int) < 6 then (ns.length : Int) else 6) else 1) = (cnt : Int) := by
      refine ⟨((if (if (ns.length : Int) < 6 then (ns.length : Int) else 6) > 1 then (if (ns.length : Int) < 6 then (ns.length : Int) else 6) else 1) : Int).toNat, ?_, ?_⟩ <;> (repeat' split) <;> omega
    obtain ⟨cnt, h1, h2⟩ := e
    refine ⟨cnt, h1, iRange_ok ?_ (by omega)⟩
    rw [← h2]
    refine aCons_ok (eCall_ok (aCons_ok rfl (aCons_ok (eCall_ok (aCons_ok rfl (aCons_ok (w := .d (.int ns.length)) (S1 := []) (by simp [f1]) rfl)) rfl) rfl)) rfl) rfl
  obtain ⟨env1, S1, l1, z1, z2, z3, z4, z5, z6, z7, z8, z9, z10, z11, z12, l2⟩ := forD_nat (S := []) (j := cnt) (k := 0) (env := [some (.scr (ns.map PyData.int)), none, none, none, none, none, none, none, none, none, none, none, none]) (g := gN 1)
    (b := sSeq (sPar 2 3 (aCons (eCall F__law_bag (aCons (eVar 0) (aCons (eVar 1) (aNil)))) (aCons (mkDict) (aNil)))) (sFor (iRange1 (aCons (eC (.int 5)) (aNil))) (gN 4) turnB))
    (fun i env S => ∃ z1 z2 z3 z4 z5 z6 z7 z8 z9 z10 z11 z12, env = [some (.scr (ns.map PyData.int)), z1, z2, z3, z4, z5, z6, z7, z8, z9, z10, z11, z12])
    (fun i env S hi _ ⟨z1, z2, z3, z4, z5, z6, z7, z8, z9, z10, z11, z12, he⟩ => by
      subst he
      refine ⟨_, rfl, ?_⟩
      obtain ⟨a, b, q1, q2, q3, q4⟩ := e_bag (S := S) (ns := ns) (k := i) (by omega)
      have tn : Tn S.length (S.length + 1) 0 0 (S ++ [.lst [.int a, .int b, .int 0]] ++ [.dK []]) := by
        refine ⟨⟨a, b, 0, ?_, q2, q3, q4, Int.le_refl _, Int.le_refl _⟩, by simp, by simp, by omega, [], ?_, Kn.nil, Nat.le_refl _⟩
        · rw [List.getElem?_append_left (by simp), List.getElem?_append_right (Nat.le_refl _)]
          simp
        · rw [List.getElem?_append_right (by simp)]
          simp
      obtain ⟨env2, S2, m1, y4, y5, y6, y7, y8, y9, y10, y11, y12, m2, _⟩ := forD_nat (S := S ++ [.lst [.int a, .int b, .int 0]] ++ [.dK []]) (j := 5) (k := 0) (env := ev (some (.scr (ns.map PyData.int))) (some (.d (.int i))) S.length (S.length + 1) z4 z5 z6 z7 z8 z9 z10 z11 z12) (g := gN 4) (b := turnB)
        (fun j env S' => ∃ y4 y5 y6 y7 y8 y9 y10 y11 y12, env = ev (some (.scr (ns.map PyData.int))) (some (.d (.int i))) S.length (S.length + 1) y4 y5 y6 y7 y8 y9 y10 y11 y12 ∧ Tn S.length (S.length + 1) (3000 * j) j S')
        (fun j env S' hj _ ⟨y4, y5, y6, y7, y8, y9, y10, y11, y12, he, t⟩ => by
          subst he
          refine ⟨_, rfl, ?_⟩
          obtain ⟨S3, x5, x6, x7, x8, x9, x10, x11, x12, r1, r2, _⟩ := e_turn t (by omega) (by omega) (some (.scr (ns.map PyData.int))) (some (.d (.int i))) (some (.d (.int j))) y5 y6 y7 y8 y9 y10 y11 y12
          exact ⟨_, S3, r1, _, _, _, _, _, _, _, _, _, rfl, by rw [Nat.mul_add]; exact r2⟩)
        ⟨_, _, _, _, _, _, _, _, _, rfl, tn⟩
      have r5 := iRange_ok (S := S ++ [.lst [.int a, .int b, .int 0]] ++ [.dK []]) (S' := S ++ [.lst [.int a, .int b, .int 0]] ++ [.dK []]) (env := ev (some (.scr (ns.map PyData.int))) (some (.d (.int i))) S.length (S.length + 1) z4 z5 z6 z7 z8 z9 z10 z11 z12) (a := aCons (eC (.int 5)) (aNil)) (b := 5) rfl (by decide)
      refine ⟨env2, S2, seq_ok (S1 := S ++ [.lst [.int a, .int b, .int 0]] ++ [.dK []]) (e1 := ev (some (.scr (ns.map PyData.int))) (some (.d (.int i))) S.length (S.length + 1) z4 z5 z6 z7 z8 z9 z10 z11 z12) (sPar_ok (x := .loc S.length) (y := .loc (S.length + 1)) (aCons_ok (eCall_ok (aCons_ok rfl (aCons_ok rfl rfl)) q1) (aCons_ok (w := .loc (S.length + 1)) (S1 := S ++ [.lst [.int a, .int b, .int 0]] ++ [.dK []]) (by rw [mkDict_ap]; simp) rfl))) (sFor_ok r5 m1), ?_⟩
      rw [m2]
      exact ⟨_, _, _, _, _, _, _, _, _, _, _, _, rfl⟩)
    ⟨_, _, _, _, _, _, _, _, _, _, _, _, rfl⟩
  have six : (6 : Nat) ≤ sizeLine := by decide
  have zero : (0 : Nat) ≤ sizeLine := by decide
  have pf := e_parse_format (S := S1) f2_ok
  rw [f2_line] at pf
  have ok := form_okEq f2_ok
  have ev' := form_eqv f2_ok
  refine ⟨S1.take 0, fnS_ret' rfl (seq_ok (sFor_ok hr l1) (sRet_ok (eBin_ok (x := .d f2.D) (y := .d f2.D) (S1 := S1) (S2 := S1) (by simp [pf]) (by simp [six, zero]; rfl) ?_)))⟩
  rw [opEq_eq, if_pos ok, ev']
end K50
set_option Elab.async false
set_option linter.all false
set_option maxRecDepth 100000
set_option maxHeartbeats 2000000
open PySem PySem.W PySem.Calls PyProof.Rows
theorem PySem.Challenge.cw_bothreaders_k50_texts_written_and_read_holds : PySem.Challenge.rw_bothreaders_k50_texts_written_and_read.Holds := by
  w_on; o_law
  refine HandSHeadRun.head_any (r := OpenLaw.row PySem.Challenge.rw_bothreaders_k50_texts_written_and_read) (q := view (OpenLaw.row PySem.Challenge.rw_bothreaders_k50_texts_written_and_read).prog [58]) (H := K50.hk) (ob := K50.ob) (M := 6000) (loose := K50.loose) (d := HandSHeadRun.topDef (OpenLaw.row PySem.Challenge.rw_bothreaders_k50_texts_written_and_read).prog 58) (kwd := []) K50.ob_eq
    (by kernel_rfl) (fun s => by kernel_rfl) K50.run (by kernel_rfl) (by kernel_rfl) (by kernel_rfl) (by rfl) (by first | assumption | decide +kernel) (by decide +kernel) ⟨rfl, rfl, rfl, rfl, rfl, by decide +kernel⟩ ?hw ?hc
  case hw => w_witness2
  case hc =>
    refine Bq.walk_ofD (l := PySem.Challenge.rw_bothreaders_k50_texts_written_and_read) (n := 63) (k := 8) (x := "script") (st := K50.st_law) (F := K50.F_law) rfl (by decide) (by kernel_rfl) ⟨rfl, by decide, by decide⟩ ?F K50.law_true
    intro w mg h Y G
    obtain ⟨K, KX, c⟩ := Y
    have e : (HandSHeadRun.topDef (OpenLaw.row PySem.Challenge.rw_bothreaders_k50_texts_written_and_read).prog 58).name = ("law" : PySem.Str) := by kernel_rfl
    rw [e]
    exact ⟨K, KX, fun _ _ _ _ _ _ us hl => match us, hl with | [_], _ => rfl, fun base => K50.ok_law (K50.tx_of KX G c)⟩
