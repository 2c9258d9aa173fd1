import PyProof.Rows.All
import Wide.All
import OpenK.AllK
import Wide.FinOn
import HandS.ForMost
import HandS.Exc
import HandS.WordsExc
import HandS.Flow
import HandS.Wide
import HandS.TupAny
import HandS.IsInst
import HandS.Deep
import HandS.Codes
import HandS.Zip
import HandS.CallSlots
import HandS.Defaults
import HandS.ExcOwn
import HandS.Conv
import HandS.OwnEq
import KE.GoesEnum
import HandS.Head0
import HandS.Head1
import HandS.Head2
import HandS.HeadEnd
import HandS.HeadHook1
import HandS.HeadHook2
import HandS.Words
import PySem.Challenge.RW_pressedwords_k03_whole_tidy_keeps_all_fi
set_option Elab.async false
set_option linter.all false
set_option maxRecDepth 100000
set_option maxHeartbeats 0
set_option autoImplicit false
/-! Mi0: data, objects, the relation to the abstract heap -/
namespace Mi
open PySem PySem.Spec L2

/-- data: never changed once it is made -/
inductive D where
  | non | bl (b : Bool) | int (i : Int) | str (x : Str)
  | tup (xs : List D) | lv (xs : List D) | scr (xs : List D)
  | dk (kvs : List (Key × D)) | dt (kvs : List (List Key × D))
  | ins (C : Nat) (fs : List (Nat × D))
/-- a changeable object, flat -/
inductive O where
  | lst (xs : List D) | dk (kvs : List (Key × D)) | dt (kvs : List (List Key × D))
  | ins (C : Nat) (fs : List (Nat × D)) | dead
inductive Vl where
  | d (x : D) | r (k : Nat)
abbrev Hs := List O
abbrev Lo := List (Option Vl)
structure Ex where
  C : Nat
  fs : List (Nat × D)
inductive Res (α : Type) where
  | ok (a : α) (h : Hs) | exc (e : Ex) (h : Hs) | bad

/-- the program's names: where the classes stand, what the attributes are called -/
structure CT where
  ca : Nat → Addr
  nm : Nat → Str
  inj : ∀ a b, nm a = nm b → a = b

def TupW (K : PySem.W.Frag) (a : Addr) (xs : List V) : Prop :=
  ∃ (o : Obj) (its : Array Value) (n : Nat), K.lookup a = some o ∧ o.cls = .type "tuple" ∧ o.data = .seq its n ∧ its.size ≤ sizeLine ∧ Vals xs its.toList
def LstW (K : PySem.W.Frag) (a : Addr) (xs : List V) : Prop :=
  ∃ (o : Obj) (its : Array Value) (n : Nat), K.lookup a = some o ∧ o.cls = .type "list" ∧ o.dict = none ∧ o.data = .seq its n ∧ its.size ≤ sizeLine ∧ Vals xs its.toList
mutual
inductive DR (K : PySem.W.Frag) (ct : CT) (S : Addr → Prop) (H : Hp) : D → V → Prop
  | non : DR K ct S H .non .non
  | bl (b) : DR K ct S H (.bl b) (.bl b)
  | int (i) : DR K ct S H (.int i) (.int i)
  | str (x) : DR K ct S H (.str x) (.str x)
  | tup {a xs vs} : (Rd H a (.tup vs) ∧ S a) ∨ TupW K a vs → DRs K ct S H xs vs → DR K ct S H (.tup xs) (.ref a)
  | lv {a xs vs} : H a = some (.lst vs) → S a → DRs K ct S H xs vs → DR K ct S H (.lv xs) (.ref a)
  | scr {a xs vs} : ((∃ o, H a = some (.frz o (.lst vs))) ∧ S a) ∨ LstW K a vs → DRs K ct S H xs vs → DR K ct S H (.scr xs) (.ref a)
  | dk {a kvs vs} : H a = some (.dK vs) → S a → DRk K ct S H kvs vs → DR K ct S H (.dk kvs) (.ref a)
  | dt {a kvs vs} : H a = some (.dT vs) → S a → DRt K ct S H kvs vs → DR K ct S H (.dt kvs) (.ref a)
  | ins {a C dx fs vs} : H a = some (.ins (ct.ca C) dx vs) → S a → DRf K ct S H fs vs → DR K ct S H (.ins C fs) (.ref a)
inductive DRs (K : PySem.W.Frag) (ct : CT) (S : Addr → Prop) (H : Hp) : List D → List V → Prop
  | nil : DRs K ct S H [] []
  | cons {d v ds vs} : DR K ct S H d v → DRs K ct S H ds vs → DRs K ct S H (d :: ds) (v :: vs)
inductive DRk (K : PySem.W.Frag) (ct : CT) (S : Addr → Prop) (H : Hp) : List (Key × D) → List (Key × V) → Prop
  | nil : DRk K ct S H [] []
  | cons {k d v ds vs} : DR K ct S H d v → DRk K ct S H ds vs → DRk K ct S H ((k, d) :: ds) ((k, v) :: vs)
inductive DRt (K : PySem.W.Frag) (ct : CT) (S : Addr → Prop) (H : Hp) : List (List Key × D) → List (List Key × V) → Prop
  | nil : DRt K ct S H [] []
  | cons {k d v ds vs} : DR K ct S H d v → DRt K ct S H ds vs → DRt K ct S H ((k, d) :: ds) ((k, v) :: vs)
inductive DRf (K : PySem.W.Frag) (ct : CT) (S : Addr → Prop) (H : Hp) : List (Nat × D) → List (Str × V) → Prop
  | nil : DRf K ct S H [] []
  | cons {n d v ds vs} : DR K ct S H d v → DRf K ct S H ds vs → DRf K ct S H ((n, d) :: ds) ((ct.nm n, v) :: vs)
end

/-- all that is tracked and safe stays and stays safe -/
def Kp (S : Addr → Prop) (H : Hp) (S' : Addr → Prop) (H' : Hp) : Prop := ∀ a o, H a = some o → S a → H' a = some o ∧ S' a
theorem Kp.refl (S : Addr → Prop) (H : Hp) : Kp S H S H := fun _ _ h s => ⟨h, s⟩
theorem Kp.trans {S S1 S2 : Addr → Prop} {H H1 H2 : Hp} (a : Kp S H S1 H1) (b : Kp S1 H1 S2 H2) : Kp S H S2 H2 := fun c o h s => let ⟨h1, s1⟩ := a c o h s; b c o h1 s1
theorem Kp.rd {S S' : Addr → Prop} {H H' : Hp} (k : Kp S H S' H') {a : Addr} {u : HO} (r : Rd H a u) (s : S a) : Rd H' a u ∧ S' a := by
  rcases r with r | ⟨o, r⟩
  · obtain ⟨h, s'⟩ := k _ _ r s
    exact ⟨.inl h, s'⟩
  · obtain ⟨h, s'⟩ := k _ _ r s
    exact ⟨.inr ⟨o, h⟩, s'⟩

section
variable {K : PySem.W.Frag} {ct : CT} {S S' : Addr → Prop} {H H' : Hp}
mutual
theorem DR.mono (k : Kp S H S' H') : ∀ {d v}, DR K ct S H d v → DR K ct S' H' d v
  | _, _, .non => .non
  | _, _, .bl b => .bl b
  | _, _, .int i => .int i
  | _, _, .str x => .str x
  | _, _, .tup h r => .tup (h.imp (fun ⟨a, b⟩ => k.rd a b) id) (DRs.mono k r)
  | _, _, .lv h s r => .lv (k _ _ h s).1 (k _ _ h s).2 (DRs.mono k r)
  | _, _, .scr h r => .scr (h.imp (fun ⟨⟨o, h⟩, s⟩ => ⟨⟨o, (k _ _ h s).1⟩, (k _ _ h s).2⟩) id) (DRs.mono k r)
  | _, _, .dk h s r => .dk (k _ _ h s).1 (k _ _ h s).2 (DRk.mono k r)
  | _, _, .dt h s r => .dt (k _ _ h s).1 (k _ _ h s).2 (DRt.mono k r)
  | _, _, .ins h s r => .ins (k _ _ h s).1 (k _ _ h s).2 (DRf.mono k r)
theorem DRs.mono (k : Kp S H S' H') : ∀ {d v}, DRs K ct S H d v → DRs K ct S' H' d v
  | _, _, .nil => .nil
  | _, _, .cons r t => .cons (DR.mono k r) (DRs.mono k t)
theorem DRk.mono (k : Kp S H S' H') : ∀ {d v}, DRk K ct S H d v → DRk K ct S' H' d v
  | _, _, .nil => .nil
  | _, _, .cons r t => .cons (DR.mono k r) (DRk.mono k t)
theorem DRt.mono (k : Kp S H S' H') : ∀ {d v}, DRt K ct S H d v → DRt K ct S' H' d v
  | _, _, .nil => .nil
  | _, _, .cons r t => .cons (DR.mono k r) (DRt.mono k t)
theorem DRf.mono (k : Kp S H S' H') : ∀ {d v}, DRf K ct S H d v → DRf K ct S' H' d v
  | _, _, .nil => .nil
  | _, _, .cons r t => .cons (DR.mono k r) (DRf.mono k t)
end
theorem DRs.length : ∀ {d v}, DRs K ct S H d v → d.length = v.length
  | _, _, .nil => rfl
  | _, _, .cons _ t => congrArg (· + 1) (DRs.length t)
theorem DRk.length : ∀ {d v}, DRk K ct S H d v → d.length = v.length
  | _, _, .nil => rfl
  | _, _, .cons _ t => congrArg (· + 1) (DRk.length t)
theorem DRt.length : ∀ {d v}, DRt K ct S H d v → d.length = v.length
  | _, _, .nil => rfl
  | _, _, .cons _ t => congrArg (· + 1) (DRt.length t)
theorem DRf.length : ∀ {d v}, DRf K ct S H d v → d.length = v.length
  | _, _, .nil => rfl
  | _, _, .cons _ t => congrArg (· + 1) (DRf.length t)
theorem DRs.append : ∀ {d v d' v'}, DRs K ct S H d v → DRs K ct S H d' v' → DRs K ct S H (d ++ d') (v ++ v')
  | _, _, _, _, .nil, s => s
  | _, _, _, _, .cons r t, s => .cons r (DRs.append t s)
theorem DRs.get : ∀ {d v} {i : Nat} {x : D}, DRs K ct S H d v → d[i]? = some x → ∃ y, v[i]? = some y ∧ DR K ct S H x y
  | _, _, _, _, .nil, e => by simp at e
  | _, _, 0, _, .cons r _, e => by simp at e; subst e; exact ⟨_, rfl, r⟩
  | _, _, i + 1, x, .cons _ t, e => by
    obtain ⟨y, h1, h2⟩ := DRs.get (i := i) (x := x) t (by simpa using e)
    exact ⟨y, by simpa using h1, h2⟩
theorem DRs.getV : ∀ {d v} {i : Nat} {y : V}, DRs K ct S H d v → v[i]? = some y → ∃ x, d[i]? = some x ∧ DR K ct S H x y
  | _, _, _, _, .nil, e => by simp at e
  | _, _, 0, _, .cons r _, e => by simp at e; subst e; exact ⟨_, rfl, r⟩
  | _, _, i + 1, y, .cons _ t, e => by
    obtain ⟨x, h1, h2⟩ := DRs.getV (i := i) (y := y) t (by simpa using e)
    exact ⟨x, by simpa using h1, h2⟩
theorem DRs.set {x : D} {y : V} (r : DR K ct S H x y) : ∀ {d v} (i : Nat), DRs K ct S H d v → DRs K ct S H (d.set i x) (v.set i y)
  | _, _, _, .nil => .nil
  | _, _, 0, .cons _ t => .cons r t
  | _, _, i + 1, .cons q t => .cons q (DRs.set r i t)
theorem DRs.take : ∀ {d v} (n : Nat), DRs K ct S H d v → DRs K ct S H (d.take n) (v.take n)
  | _, _, 0, _ => .nil
  | _, _, _ + 1, .nil => .nil
  | _, _, n + 1, .cons r t => .cons r (DRs.take n t)
theorem DRs.drop : ∀ {d v} (n : Nat), DRs K ct S H d v → DRs K ct S H (d.drop n) (v.drop n)
  | _, _, 0, r => r
  | _, _, _ + 1, .nil => .nil
  | _, _, n + 1, .cons _ t => DRs.drop n t
theorem DRs.eraseIdx : ∀ {d v} (i : Nat), DRs K ct S H d v → DRs K ct S H (d.eraseIdx i) (v.eraseIdx i)
  | _, _, _, .nil => .nil
  | _, _, 0, .cons _ t => t
  | _, _, n + 1, .cons r t => .cons r (DRs.eraseIdx n t)
theorem DRs.reverse {d v} (h : DRs K ct S H d v) : DRs K ct S H d.reverse v.reverse := by
  induction d generalizing v with
  | nil => cases h; exact .nil
  | cons x d ih =>
    cases h with
    | cons r t =>
      rw [List.reverse_cons, List.reverse_cons]
      exact (ih t).append (.cons r .nil)
theorem DRs.dropLast {d v} (h : DRs K ct S H d v) : DRs K ct S H d.dropLast v.dropLast := by
  rw [List.dropLast_eq_take, List.dropLast_eq_take, h.length]; exact h.take _
end

/-! ### live objects -/
def Lv (m : List Addr) (ah : Hs) (a : Addr) : Prop := ∃ (k : Nat) (o : O), m[k]? = some a ∧ ah[k]? = some o ∧ o ≠ O.dead
def Sf (m : List Addr) (ah : Hs) (a : Addr) : Prop := ¬ Lv m ah a
inductive OR (K : PySem.W.Frag) (ct : CT) (S : Addr → Prop) (H : Hp) : O → HO → Prop
  | lst {xs vs} : DRs K ct S H xs vs → OR K ct S H (.lst xs) (.lst vs)
  | dk {xs vs} : DRk K ct S H xs vs → OR K ct S H (.dk xs) (.dK vs)
  | dt {xs vs} : DRt K ct S H xs vs → OR K ct S H (.dt xs) (.dT vs)
  | ins {C dx fs vs} : DRf K ct S H fs vs → OR K ct S H (.ins C fs) (.ins (ct.ca C) dx vs)
  | dead (u) : OR K ct S H .dead u
theorem OR.mono {K : PySem.W.Frag} {ct : CT} {S S' : Addr → Prop} {H H' : Hp} (k : Kp S H S' H') {o u} (h : OR K ct S H o u) : OR K ct S' H' o u := by
  cases h with
  | lst r => exact .lst (r.mono k)
  | dk r => exact .dk (r.mono k)
  | dt r => exact .dt (r.mono k)
  | ins r => exact .ins (r.mono k)
  | dead u => exact .dead u
structure HR (K : PySem.W.Frag) (ct : CT) (m : List Addr) (ah : Hs) (H : Hp) : Prop where
  len : m.length = ah.length
  inj : ∀ (i j : Nat) (a : Addr), m[i]? = some a → m[j]? = some a → i = j
  ob : ∀ (k : Nat) a o, m[k]? = some a → ah[k]? = some o → ∃ u, H a = some u ∧ OR K ct (Sf m ah) H o u
structure Ext (m : List Addr) (ah : Hs) (H : Hp) (m' : List Addr) (ah' : Hs) (H' : Hp) : Prop where
  pre : ∃ t, m' = m ++ t
  kp : Kp (Sf m ah) H (Sf m' ah') H'
theorem Ext.refl (m : List Addr) (ah : Hs) (H : Hp) : Ext m ah H m ah H := ⟨⟨[], by simp⟩, Kp.refl _ _⟩
theorem Ext.trans {m m1 m2 : List Addr} {ah ah1 ah2 : Hs} {H H1 H2 : Hp} (a : Ext m ah H m1 ah1 H1) (b : Ext m1 ah1 H1 m2 ah2 H2) : Ext m ah H m2 ah2 H2 := by
  obtain ⟨t, rfl⟩ := a.pre
  obtain ⟨t', rfl⟩ := b.pre
  exact ⟨⟨t ++ t', by rw [List.append_assoc]⟩, a.kp.trans b.kp⟩
theorem Ext.at {m m1 : List Addr} {ah ah1 : Hs} {H H1 : Hp} (a : Ext m ah H m1 ah1 H1) {k : Nat} {x : Addr} (h : m[k]? = some x) : m1[k]? = some x := by
  obtain ⟨t, rfl⟩ := a.pre
  rw [List.getElem?_append_left (List.getElem?_eq_some_iff.mp h).1]
  exact h
def VlR (K : PySem.W.Frag) (ct : CT) (m : List Addr) (ah : Hs) (H : Hp) : Vl → V → Prop
  | .d x, v => DR K ct (Sf m ah) H x v
  | .r k, v => ∃ a, m[k]? = some a ∧ v = .ref a
inductive VlRs (K : PySem.W.Frag) (ct : CT) (m : List Addr) (ah : Hs) (H : Hp) : List Vl → List V → Prop
  | nil : VlRs K ct m ah H [] []
  | cons {d v ds vs} : VlR K ct m ah H d v → VlRs K ct m ah H ds vs → VlRs K ct m ah H (d :: ds) (v :: vs)
structure LR (K : PySem.W.Frag) (ct : CT) (m : List Addr) (ah : Hs) (H : Hp) (σ : Lo) (σV : St) : Prop where
  len : σ.length = σV.length
  at_ : ∀ (i : Nat) x, σ[i]? = some (some x) → ∃ v, σV[i]? = some (some v) ∧ VlR K ct m ah H x v
section
variable {K : PySem.W.Frag} {ct : CT} {m m' : List Addr} {ah ah' : Hs} {H H' : Hp}
theorem VlR.ext (e : Ext m ah H m' ah' H') {x v} (h : VlR K ct m ah H x v) : VlR K ct m' ah' H' x v := by
  cases x with
  | d x => exact DR.mono e.kp h
  | r k => obtain ⟨a, h1, h2⟩ := h; exact ⟨a, e.at h1, h2⟩
theorem VlRs.ext (e : Ext m ah H m' ah' H') : ∀ {xs vs}, VlRs K ct m ah H xs vs → VlRs K ct m' ah' H' xs vs
  | _, _, .nil => .nil
  | _, _, .cons r t => .cons (r.ext e) (VlRs.ext e t)
theorem VlRs.length : ∀ {d v}, VlRs K ct m ah H d v → d.length = v.length
  | _, _, .nil => rfl
  | _, _, .cons _ t => congrArg (· + 1) (VlRs.length t)
theorem LR.ext (e : Ext m ah H m' ah' H') {σ σV} (h : LR K ct m ah H σ σV) : LR K ct m' ah' H' σ σV :=
  ⟨h.len, fun i x hx => let ⟨v, h1, h2⟩ := h.at_ i x hx; ⟨v, h1, h2.ext e⟩⟩
theorem LR.set {σ σV} (h : LR K ct m ah H σ σV) {x v} (r : VlR K ct m ah H x v) (i : Nat) : LR K ct m ah H (σ.set i (some x)) (σV.set i (some v)) := by
  refine ⟨by rw [List.length_set, List.length_set, h.len], fun j y hy => ?_⟩
  by_cases e : i = j
  · subst e
    by_cases hi : i < σ.length
    · rw [List.getElem?_set_self hi] at hy
      cases hy
      exact ⟨v, by rw [List.getElem?_set_self (by rw [← h.len]; exact hi)], r⟩
    · rw [List.getElem?_eq_none (by rw [List.length_set]; omega)] at hy; cases hy
  · rw [List.getElem?_set_ne e] at hy ⊢
    exact h.at_ j y hy
theorem LR.forget {σ σ' σV} (h : LR K ct m ah H σ σV) (hl : σ'.length = σ.length) (hw : ∀ (i : Nat) x, σ'[i]? = some (some x) → σ[i]? = some (some x)) : LR K ct m ah H σ' σV :=
  ⟨hl.trans h.len, fun i x hx => h.at_ i x (hw i x hx)⟩

/-! ### how states go on -/
theorem HR.there (h : HR K ct m ah H) {k : Nat} {a : Addr} (e : m[k]? = some a) : ∃ o u, ah[k]? = some o ∧ H a = some u ∧ OR K ct (Sf m ah) H o u := by
  have hk : k < ah.length := by rw [← h.len]; exact (List.getElem?_eq_some_iff.mp e).1
  obtain ⟨u, h1, h2⟩ := h.ob k a ah[k] e (List.getElem?_eq_getElem hk)
  exact ⟨_, u, List.getElem?_eq_getElem hk, h1, h2⟩
theorem HR.fresh (h : HR K ct m ah H) {p : Addr} (hp : H p = none) (k : Nat) : m[k]? ≠ some p := fun e => by
  obtain ⟨_, u, _, h1, _⟩ := h.there e
  rw [hp] at h1; cases h1
theorem HR.freshS (h : HR K ct m ah H) {p : Addr} (hp : H p = none) : Sf m ah p := fun ⟨k, _, e, _⟩ => h.fresh hp k e
/-- H goes on at new places alone -/
theorem HR.more (h : HR K ct m ah H) (hH : ∀ a o, H a = some o → H' a = some o) : HR K ct m ah H' ∧ Ext m ah H m ah H' := by
  have kp : Kp (Sf m ah) H (Sf m ah) H' := fun a o e s => ⟨hH a o e, s⟩
  refine ⟨⟨h.len, h.inj, fun k a o e1 e2 => ?_⟩, ⟨⟨[], by simp⟩, kp⟩⟩
  obtain ⟨u, h1, h2⟩ := h.ob k a o e1 e2
  exact ⟨u, hH _ _ h1, h2.mono kp⟩
theorem upd_more {p : Addr} {o : HO} (hp : H p = none) : ∀ a u, H a = some u → upd H p o a = some u := fun a u e => by
  rw [upd_ne (ne_of_none e hp)]; exact e
/-- a new object, never to be changed -/
theorem HR.pure (h : HR K ct m ah H) {p : Addr} {o : HO} (hp : H p = none) : HR K ct m ah (upd H p o) ∧ Ext m ah H m ah (upd H p o) ∧ Sf m ah p :=
  ⟨(h.more (upd_more hp)).1, (h.more (upd_more hp)).2, h.freshS hp⟩
/-- a new object, to be changed -/
theorem HR.alloc (h : HR K ct m ah H) {p : Addr} {o : O} {u : HO} (hp : H p = none) (ho : OR K ct (Sf m ah) H o u) :
    HR K ct (m ++ [p]) (ah ++ [o]) (upd H p u) ∧ Ext m ah H (m ++ [p]) (ah ++ [o]) (upd H p u) := by
  have lv : ∀ a, Lv (m ++ [p]) (ah ++ [o]) a → Lv m ah a ∨ a = p := fun a ⟨k, q, e1, e2, e3⟩ => by
    by_cases hk : k < m.length
    · rw [List.getElem?_append_left hk] at e1
      rw [List.getElem?_append_left (by rw [← h.len]; exact hk)] at e2
      exact .inl ⟨k, q, e1, e2, e3⟩
    · rw [List.getElem?_append_right (by omega)] at e1
      have := (List.getElem?_eq_some_iff.mp e1).1
      have : k - m.length = 0 := by simpa using this
      rw [this] at e1
      exact .inr (by simpa using e1.symm)
  have kp : Kp (Sf m ah) H (Sf (m ++ [p]) (ah ++ [o])) (upd H p u) := fun a q e s =>
    ⟨upd_more hp a q e, fun l => (lv a l).elim s fun z => ne_of_none e hp z⟩
  refine ⟨⟨by rw [List.length_append, List.length_append, h.len]; rfl, fun i j a e1 e2 => ?_, fun k a q e1 e2 => ?_⟩, ⟨⟨[p], rfl⟩, kp⟩⟩
  · by_cases hi : i < m.length
    · rw [List.getElem?_append_left hi] at e1
      by_cases hj : j < m.length
      · rw [List.getElem?_append_left hj] at e2
        exact h.inj i j a e1 e2
      · rw [List.getElem?_append_right (by omega)] at e2
        have hz : a = p := by
          have := (List.getElem?_eq_some_iff.mp e2).1
          have z : j - m.length = 0 := by simpa using this
          rw [z] at e2; simpa using e2.symm
        subst hz
        exact absurd e1 (h.fresh hp i)
    · rw [List.getElem?_append_right (by omega)] at e1
      have hz : a = p ∧ i = m.length := by
        have := (List.getElem?_eq_some_iff.mp e1).1
        have z : i - m.length = 0 := by simpa using this
        rw [z] at e1; exact ⟨by simpa using e1.symm, by omega⟩
      obtain ⟨rfl, rfl⟩ := hz
      by_cases hj : j < m.length
      · rw [List.getElem?_append_left hj] at e2
        exact absurd e2 (h.fresh hp j)
      · have := (List.getElem?_eq_some_iff.mp e2).1
        rw [List.length_append, List.length_singleton] at this
        omega
  · by_cases hk : k < m.length
    · rw [List.getElem?_append_left hk] at e1
      rw [List.getElem?_append_left (by rw [← h.len]; exact hk)] at e2
      obtain ⟨v, h1, h2⟩ := h.ob k a q e1 e2
      exact ⟨v, upd_more hp _ _ h1, h2.mono kp⟩
    · rw [List.getElem?_append_right (by omega)] at e1
      rw [List.getElem?_append_right (by rw [← h.len]; omega)] at e2
      have z : k - m.length = 0 := by
        have := (List.getElem?_eq_some_iff.mp e1).1
        simpa using this
      rw [z] at e1
      rw [← h.len, z] at e2
      have ea : a = p := by simpa using e1.symm
      have eo : q = o := by simpa using e2.symm
      subst ea eo
      exact ⟨u, upd_same, ho.mono kp⟩
/-- an object changed -/
theorem HR.write (h : HR K ct m ah H) {k : Nat} {a : Addr} {o o' : O} {u' : HO} (e1 : m[k]? = some a) (e2 : ah[k]? = some o) (nd : o ≠ .dead) (ho : OR K ct (Sf m ah) H o' u') :
    HR K ct m (ah.set k o') (upd H a u') ∧ Ext m ah H m (ah.set k o') (upd H a u') := by
  have la : Lv m ah a := ⟨k, o, e1, e2, nd⟩
  have hk : k < ah.length := (List.getElem?_eq_some_iff.mp e2).1
  have kp : Kp (Sf m ah) H (Sf m (ah.set k o')) (upd H a u') := fun b q e s => by
    have hb : b ≠ a := fun z => s (z ▸ la)
    refine ⟨by rw [upd_ne hb]; exact e, fun ⟨j, q', f1, f2, f3⟩ => ?_⟩
    by_cases hj : k = j
    · subst hj; rw [e1] at f1; cases f1; exact hb rfl
    · rw [List.getElem?_set_ne hj] at f2
      exact s ⟨j, q', f1, f2, f3⟩
  refine ⟨⟨by rw [List.length_set]; exact h.len, h.inj, fun j b q f1 f2 => ?_⟩, ⟨⟨[], by simp⟩, kp⟩⟩
  by_cases hj : k = j
  · subst hj
    rw [List.getElem?_set_self hk] at f2
    cases f2
    rw [e1] at f1; cases f1
    exact ⟨u', upd_same, ho.mono kp⟩
  · rw [List.getElem?_set_ne hj] at f2
    obtain ⟨v, h1, h2⟩ := h.ob j b q f1 f2
    have hb : b ≠ a := fun z => by subst z; exact hj (h.inj _ _ _ e1 f1)
    exact ⟨v, by rw [upd_ne hb]; exact h1, h2.mono kp⟩
/-- an object that is never changed from here on -/
theorem HR.freeze (h : HR K ct m ah H) {k : Nat} {a : Addr} (e1 : m[k]? = some a) :
    HR K ct m (ah.set k .dead) H ∧ Ext m ah H m (ah.set k .dead) H ∧ Sf m (ah.set k .dead) a := by
  obtain ⟨o, u, e2, _, _⟩ := h.there e1
  have hk : k < ah.length := (List.getElem?_eq_some_iff.mp e2).1
  have lv : ∀ b, Lv m (ah.set k .dead) b → Lv m ah b ∧ b ≠ a := fun b ⟨j, q', f1, f2, f3⟩ => by
    by_cases hj : k = j
    · subst hj; rw [List.getElem?_set_self hk] at f2; cases f2; exact absurd rfl f3
    · rw [List.getElem?_set_ne hj] at f2
      exact ⟨⟨j, q', f1, f2, f3⟩, fun z => by subst z; exact hj (h.inj _ _ _ e1 f1)⟩
  have kp : Kp (Sf m ah) H (Sf m (ah.set k .dead)) H := fun b q e s => ⟨e, fun l => s (lv b l).1⟩
  refine ⟨⟨by rw [List.length_set]; exact h.len, h.inj, fun j b q f1 f2 => ?_⟩, ⟨⟨[], by simp⟩, kp⟩, fun l => (lv a l).2 rfl⟩
  by_cases hj : k = j
  · subst hj
    rw [List.getElem?_set_self hk] at f2
    cases f2
    obtain ⟨v, h1, h2⟩ := h.ob k b o f1 e2
    exact ⟨v, h1, .dead v⟩
  · rw [List.getElem?_set_ne hj] at f2
    obtain ⟨v, h1, h2⟩ := h.ob j b q f1 f2
    exact ⟨v, h1, h2.mono kp⟩
/-- objects forgotten -/
theorem HR.trim (h : HR K ct m ah H) (n : Nat) : HR K ct (m.take n) (ah.take n) H ∧ Kp (Sf m ah) H (Sf (m.take n) (ah.take n)) H := by
  have lv : ∀ b, Lv (m.take n) (ah.take n) b → Lv m ah b := fun b ⟨j, q', f1, f2, f3⟩ => by
    rw [List.getElem?_take] at f1 f2
    split at f1
    · rename_i hj
      rw [if_pos hj] at f2
      exact ⟨j, q', f1, f2, f3⟩
    · cases f1
  have kp : Kp (Sf m ah) H (Sf (m.take n) (ah.take n)) H := fun b q e s => ⟨e, fun l => s (lv b l)⟩
  refine ⟨⟨by rw [List.length_take, List.length_take, h.len], fun i j a f1 f2 => ?_, fun j b q f1 f2 => ?_⟩, kp⟩
  · rw [List.getElem?_take] at f1 f2
    split at f1
    · split at f2
      · exact h.inj _ _ _ f1 f2
      · cases f2
    · cases f1
  · rw [List.getElem?_take] at f1 f2
    split at f1
    · rename_i hj
      rw [if_pos hj] at f2
      obtain ⟨v, h1, h2⟩ := h.ob j b q f1 f2
      exact ⟨v, h1, h2.mono kp⟩
    · cases f1
/-- back to what stood ahead -/
theorem Ext.trimmed (h : HR K ct m' ah' H') (e : Ext m ah H m' ah' H') : Ext m ah H m (ah'.take m.length) H' := by
  obtain ⟨t, rfl⟩ := e.pre
  refine ⟨⟨[], by simp⟩, e.kp.trans ?_⟩
  have := (h.trim m.length).2
  rw [List.take_left'] at this
  · exact this
  · rfl
theorem HR.trimmed (h : HR K ct m' ah' H') (e : Ext m ah H m' ah' H') : HR K ct m (ah'.take m.length) H' := by
  obtain ⟨t, rfl⟩ := e.pre
  have := (h.trim m.length).1
  rw [List.take_left'] at this
  · exact this
  · rfl
end
end Mi

/-! Mi1: what an expression means over data; the judgements -/
namespace Mi
open PySem PySem.Spec L2

abbrev WX' := WX
/-- an exception as it lies in the heap -/
def XR (K : PySem.W.Frag) (ct : CT) (S : Addr → Prop) (H : Hp) (e : Ex) (cls : Value) (d : Option Addr) : Prop :=
  cls = .ref (ct.ca e.C) ∧ ∃ vs, DRf K ct S H e.fs vs ∧ (e.fs = [] ∨ ∃ dx, d = some dx ∧ H dx = some (.xd vs) ∧ S dx)

/-- what is wanted of a result -/
def Po {α β : Type} (K : PySem.W.Frag) (ct : CT) (W : WX) (σV : L2.St) (R : List Addr → Hs → Hp → α → β → Prop) (m : List Addr) (ah : Hs) (H : Hp) (r : Res α) (Q : β → Hp → Prop) : Prop :=
  match r with
  | .ok x h => ∀ m' H' v, HR K ct m' h H' → Ext m ah H m' h H' → R m' h H' x v → Q v H'
  | .exc e h => ∀ m' H' cls d, HR K ct m' h H' → Ext m ah H m' h H' → XR K ct (Sf m' h) H' e cls d → W cls d σV H'
  | .bad => False
def rb {α β : Type} (r : Res α) (f : α → Hs → Res β) : Res β := match r with
  | .ok a h => f a h
  | .exc e h => .exc e h
  | .bad => .bad
@[simp] theorem rb_ok {α β : Type} (a : α) (h : Hs) (f : α → Hs → Res β) : rb (.ok a h) f = f a h := rfl
@[simp] theorem rb_exc {α β : Type} (e : Ex) (h : Hs) (f : α → Hs → Res β) : rb (.exc e h) f = .exc e h := rfl
@[simp] theorem rb_bad {α β : Type} (f : α → Hs → Res β) : rb .bad f = .bad := rfl
section
variable {α β γ δ : Type} {K : PySem.W.Frag} {ct : CT} {W : WX} {σV : L2.St} {m m' : List Addr} {ah ah' : Hs} {H H' : Hp}
theorem Po.ext {R : List Addr → Hs → Hp → α → β → Prop} {r : Res α} {Q : β → Hp → Prop} (p : Po K ct W σV R m ah H r Q) (e : Ext m ah H m' ah' H') : Po K ct W σV R m' ah' H' r Q := by
  cases r with
  | ok x h => exact fun m2 H2 v h2 e2 r2 => p m2 H2 v h2 (e.trans e2) r2
  | exc x h => exact fun m2 H2 c d h2 e2 r2 => p m2 H2 c d h2 (e.trans e2) r2
  | bad => exact p
theorem Po.imp {R : List Addr → Hs → Hp → α → β → Prop} {r : Res α} {Q Q' : β → Hp → Prop} (p : Po K ct W σV R m ah H r Q) (hq : ∀ v H', Q v H' → Q' v H') : Po K ct W σV R m ah H r Q' := by
  cases r with
  | ok x h => exact fun m2 H2 v h2 e2 r2 => hq _ _ (p m2 H2 v h2 e2 r2)
  | exc x h => exact p
  | bad => exact p
/-- what is told of a value on the way -/
def Mid (K : PySem.W.Frag) (ct : CT) (m : List Addr) (ah : Hs) (H : Hp) (R : List Addr → Hs → Hp → α → β → Prop) (P : List Addr → Hs → Hp → α → Prop) (v : β) (H1 : Hp) : Prop :=
  ∃ m1 h1 x, HR K ct m1 h1 H1 ∧ Ext m ah H m1 h1 H1 ∧ R m1 h1 H1 x v ∧ P m1 h1 H1 x
theorem Po.bind {R : List Addr → Hs → Hp → α → β → Prop} {T : List Addr → Hs → Hp → γ → δ → Prop} {r : Res α} {g : α → Hs → Res γ} {Q : δ → Hp → Prop} (p : Po K ct W σV T m ah H (rb r g) Q) :
    Po K ct W σV R m ah H r (Mid K ct m ah H R fun m1 h1 H1 x => Po K ct W σV T m1 h1 H1 (g x h1) Q) := by
  cases r with
  | ok x h => exact fun m2 H2 v h2 e2 r2 => ⟨m2, h, x, h2, e2, r2, Po.ext (r := g x h) p e2⟩
  | exc x h => exact p
  | bad => exact p
end

abbrev SemE := Lo → Hs → Res Vl
abbrev SemT := Lo → Hs → Res Bool
abbrev SemA := Lo → Hs → Res (List Vl)
section
variable (K : PySem.W.Frag) (ct : CT) (W : WX)
def rdE (f : SemE) : TE := fun σV H Q => ∃ m ah σ, HR K ct m ah H ∧ LR K ct m ah H σ σV ∧ Po K ct W σV (VlR K ct) m ah H (f σ ah) Q
def rdT (f : SemT) : TT := fun σV H Q => ∃ m ah σ, HR K ct m ah H ∧ LR K ct m ah H σ σV ∧ Po K ct W σV (fun _ _ _ b c => b = c) m ah H (f σ ah) Q
def rdA (f : SemA) : TA := fun σV H Q => ∃ m ah σ, HR K ct m ah H ∧ LR K ct m ah H σ σV ∧ Po K ct W σV (VlRs K ct) m ah H (f σ ah) Q
end
abbrev SE (X : Cx) (ct : CT) (W : WX) (e : Expr) (f : SemE) : Prop := PE X e (rdE X.K ct W f)
abbrev ST (X : Cx) (ct : CT) (W : WX) (e : Expr) (f : SemT) : Prop := PT X e (rdT X.K ct W f)
abbrev SA (X : Cx) (ct : CT) (W : WX) (es : List Expr) (f : SemA) : Prop := PA X es (rdA X.K ct W f)

theorem PE.imp {X : Cx} {e : Expr} {t t' : TE} (h : PE X e t) (i : ∀ σ H Q, t' σ H Q → t σ H Q) : PE X e t' := ⟨fun pins s σ H Q I q => h.run pins s σ H Q I (i _ _ _ q)⟩
theorem PT.imp {X : Cx} {e : Expr} {t t' : TT} (h : PT X e t) (i : ∀ σ H Q, t' σ H Q → t σ H Q) : PT X e t' := ⟨fun pins s σ H Q I q => h.run pins s σ H Q I (i _ _ _ q)⟩
theorem PW.imp {X : Cx} {e : Expr} {t t' : TT} (h : PW X e t) (i : ∀ σ H Q, t' σ H Q → t σ H Q) : PW X e t' := ⟨fun w pins s σ H Q I q => h.run w pins s σ H Q I (i _ _ _ q)⟩
theorem PA.imp {X : Cx} {e : List Expr} {t t' : TA} (h : PA X e t) (i : ∀ σ H Q, t' σ H Q → t σ H Q) : PA X e t' := ⟨fun pos pins s σ H Q I q => h.run pos pins s σ H Q I (i _ _ _ q)⟩
theorem PS.imp {X : Cx} {e : Stmt} {t t' : TS} (h : PS X e t) (i : ∀ D σ H, t' D σ H → t D σ H) : PS X e t' := ⟨fun pins s σ H Q I q => h.run pins s σ H Q I (i _ _ _ q)⟩
theorem PSs.imp {X : Cx} {e : List Stmt} {t t' : TS} (h : PSs X e t) (i : ∀ D σ H, t' D σ H → t D σ H) : PSs X e t' := ⟨fun pins s σ H Q I q => h.run pins s σ H Q I (i _ _ _ q)⟩

/-! ### names, constants -/
def eVar (i : Nat) : SemE := fun σ h => match σ[i]? with
  | some (some v) => .ok v h
  | _ => .bad
def eK (d : D) : SemE := fun _ h => .ok (.d d) h
section
variable {X : Cx} {ct : CT} {W : WX} {pos : Pos}
theorem se_var (i : Nat) {x : Str} (hN : X.N[i]? = some x := by rfl) (hv : Vis X.env.scope x := by first | exact Or.inl rfl | exact Or.inr (Or.inl rfl) | exact Or.inr (Or.inr rfl)) (hd : (x == ("__debug__" : Str)) = false := by decide)
    (hcd : (x == ("__classdict__" : Str)) = false := by decide) : SE X ct W (.Name x pos) (eVar i) :=
  PE.imp (pe_var hN hv hd hcd) fun σV H Q ⟨m, ah, σ, hr, lr, p⟩ => by
    unfold eVar at p
    cases e : σ[i]? with
    | none => rw [e] at p; exact p.elim
    | some o =>
      cases o with
      | none => rw [e] at p; exact p.elim
      | some x =>
        rw [e] at p
        obtain ⟨v, h1, h2⟩ := lr.at_ i x e
        exact ⟨v, h1, p m H v hr (Ext.refl _ _ _) h2⟩
theorem se_const {e : Expr} {v : V} {d : D} (h : PE X e (tC v)) (r : ∀ S H, DR X.K ct S H d v) : SE X ct W e (eK d) :=
  PE.imp h fun σV H Q ⟨m, ah, σ, hr, lr, p⟩ => p m H v hr (Ext.refl _ _ _) (r _ _)
theorem se_int {i : Int} {j} : SE X ct W (.Constant (.int i) j pos) (eK (.int i)) := se_const pe_int fun _ _ => .int i
theorem se_bl {b : Bool} {j} : SE X ct W (.Constant (.bool b) j pos) (eK (.bl b)) := se_const pe_bl fun _ _ => .bl b
theorem se_non {j} : SE X ct W (.Constant .none j pos) (eK .non) := se_const pe_non fun _ _ => .non
theorem se_str {x : Str} {j} : SE X ct W (.Constant (.str x) j pos) (eK (.str x)) := se_const pe_str fun _ _ => .str x
theorem se_globI {x : Str} {i : Int} {t : Tok} (hg : Gl X x) (hm : X.mg x = some (.int i t)) (hd : (x == ("__debug__" : Str)) = false := by decide) : SE X ct W (.Name x pos) (eK (.int i)) := se_const (pe_glob hg hm (v := .int i) ⟨_, rfl⟩ hd) fun _ _ => .int i
theorem se_globS {x : Str} {i : Str} {t : Tok} (hg : Gl X x) (hm : X.mg x = some (.str i t)) (hd : (x == ("__debug__" : Str)) = false := by decide) : SE X ct W (.Name x pos) (eK (.str i)) := se_const (pe_glob hg hm (v := .str i) ⟨_, rfl⟩ hd) fun _ _ => .str i
theorem se_globT {x : Str} {i : D} {a : Addr} (hg : Gl X x) (hm : X.mg x = some (.ref a)) (r : ∀ S H, DR X.K ct S H i (.ref a)) (hd : (x == ("__debug__" : Str)) = false := by decide) : SE X ct W (.Name x pos) (eK i) := se_const (pe_glob hg hm (v := .ref a) rfl hd) r
end

/-! ### operations on values -/
abbrev Op1 := Vl → Hs → Option (Vl × Hs)
abbrev Op2 := Vl → Vl → Hs → Option (Vl × Hs)
def ro (o : Option (Vl × Hs)) : Res Vl := match o with
  | some (x, h) => .ok x h
  | none => .bad
@[simp] theorem ro_some (x : Vl) (h : Hs) : ro (some (x, h)) = .ok x h := rfl
@[simp] theorem ro_none : ro none = .bad := rfl
def Pp (K : PySem.W.Frag) (ct : CT) (m : List Addr) (ah : Hs) (H : Hp) (o : Option (Vl × Hs)) (Q : VK) : Prop := match o with
  | some (x, h) => ∀ m' H' v, HR K ct m' h H' → Ext m ah H m' h H' → VlR K ct m' h H' x v → Q v H'
  | none => False
theorem Pp.of {K : PySem.W.Frag} {ct : CT} {W : WX} {σV : L2.St} {m : List Addr} {ah : Hs} {H : Hp} {o : Option (Vl × Hs)} {Q : VK} (p : Po K ct W σV (VlR K ct) m ah H (ro o) Q) : Pp K ct m ah H o Q := by
  cases o with
  | none => exact p
  | some x => exact p
/-- the state stays -/
theorem Pp.same {K : PySem.W.Frag} {ct : CT} {m : List Addr} {ah : Hs} {H : Hp} {x : Vl} {v : V} {Q : VK} (p : Pp K ct m ah H (some (x, ah)) Q) (h : HR K ct m ah H) (r : VlR K ct m ah H x v) : Q v H := p m H v h (Ext.refl _ _ _) r
/-- a new object that is never changed -/
theorem Pp.new {K : PySem.W.Frag} {ct : CT} {m : List Addr} {ah : Hs} {H : Hp} {x : D} {o : HO} {Q : VK} (p : Pp K ct m ah H (some (.d x, ah)) Q) (h : HR K ct m ah H)
    (r : ∀ a, H a = none → Kp (Sf m ah) H (Sf m ah) (upd H a o) → Sf m ah a → DR K ct (Sf m ah) (upd H a o) x (.ref a)) : ∀ a, H a = none → Q (.ref a) (upd H a o) := fun a ha =>
  p m _ _ (h.pure (o := o) ha).1 (h.pure (o := o) ha).2.1 (r a ha (h.pure (o := o) ha).2.1.kp (h.freshS ha))
def rOp (K : PySem.W.Frag) (ct : CT) (op : Op2) : R2 := fun x y H Q => ∃ m ah a b, HR K ct m ah H ∧ VlR K ct m ah H a x ∧ VlR K ct m ah H b y ∧ Pp K ct m ah H (op a b ah) Q
def rUn (K : PySem.W.Frag) (ct : CT) (op : Op1) : V → Hp → VK → Prop := fun x H Q => ∃ m ah a, HR K ct m ah H ∧ VlR K ct m ah H a x ∧ Pp K ct m ah H (op a ah) Q
def eBin (op : Op2) (f g : SemE) : SemE := fun σ h => rb (f σ h) fun x h1 => rb (g σ h1) fun y h2 => ro (op x y h2)
def eUn (op : Op1) (f : SemE) : SemE := fun σ h => rb (f σ h) fun x h1 => ro (op x h1)
section
variable {X : Cx} {ct : CT} {W : WX} {pos : Pos} {a b c : Expr} {f g k : SemE}
theorem rd_bin {op : Op2} {σV : L2.St} {H : Hp} {Q : VK} (h : rdE X.K ct W (eBin op f g) σV H Q) : tOp (rOp X.K ct op) (rdE X.K ct W f) (rdE X.K ct W g) σV H Q := by
  obtain ⟨m, ah, σ, hr, lr, p⟩ := h
  refine ⟨m, ah, σ, hr, lr, (Po.bind (R := VlR X.K ct) p).imp fun v H1 ⟨m1, h1, x, hr1, e1, r1, p1⟩ => ?_⟩
  refine ⟨m1, h1, σ, hr1, lr.ext e1, (Po.bind (R := VlR X.K ct) p1).imp fun u H2 ⟨m2, h2, y, hr2, e2, r2, p2⟩ => ?_⟩
  exact ⟨m2, h2, x, y, hr2, r1.ext e2, r2, Pp.of p2⟩
theorem rd_un {op : Op1} {σV : L2.St} {H : Hp} {Q : VK} (h : rdE X.K ct W (eUn op f) σV H Q) : tUn (rUn X.K ct op) (rdE X.K ct W f) σV H Q := by
  obtain ⟨m, ah, σ, hr, lr, p⟩ := h
  refine ⟨m, ah, σ, hr, lr, (Po.bind (R := VlR X.K ct) p).imp fun v H1 ⟨m1, h1, x, hr1, e1, r1, p1⟩ => ?_⟩
  exact ⟨m1, h1, x, hr1, r1, Pp.of p1⟩
theorem se_bin {op : Operator} {o : Op2} (ho : OpR X (binaryOp op) (rOp X.K ct o)) (ha : SE X ct W a f) (hb : SE X ct W b g) : SE X ct W (.BinOp a op b pos) (eBin o f g) := PE.imp (pe_op ho ha hb) fun _ _ _ h => rd_bin h
theorem se_un {op : UnaryOp} {o : Op1} (ho : UnR X (unaryOp op) (rUn X.K ct o)) (ha : SE X ct W a f) : SE X ct W (.UnaryOp op a pos) (eUn o f) := PE.imp (pe_un ho ha) fun _ _ _ h => rd_un h
theorem se_cmp {op : CmpOp} {o : Op2} (ho : OpR X (compareOp op) (rOp X.K ct o)) (ha : SE X ct W a f) (hb : SE X ct W b g) (hm : behindInMarks op b = false := by first | exact nomark _ | rfl | with_unfolding_all rfl) : SE X ct W (.Compare a [op] [b] pos) (eBin o f g) :=
  PE.imp (pe_cmpR ho ha hb hm) fun _ _ _ h => rd_bin h
theorem se_ix {o : Op2} (ho : IxR X (rOp X.K ct o)) (ha : SE X ct W a f) (hb : SE X ct W b g) (hs : PlainIx b := by exact fun _ _ => rfl) : SE X ct W (.Subscript a b pos) (eBin o f g) := PE.imp (pe_ix ho ha hb hs) fun _ _ _ h => rd_bin h
end
theorem OpR.imp {X : Cx} {f : Value → Value → Sem Value} {r r' : R2} (h : OpR X f r) (i : ∀ x y H Q, r' x y H Q → r x y H Q) : OpR X f r' := fun pins s σ H x y v u Q I rx ry q => h pins s σ H x y v u Q I rx ry (i _ _ _ _ q)
theorem UnR.imp {X : Cx} {f : Value → Sem Value} {r r' : V → Hp → VK → Prop} (h : UnR X f r) (i : ∀ x H Q, r' x H Q → r x H Q) : UnR X f r' := fun pins s σ H x v Q I rx q => h pins s σ H x v Q I rx (i _ _ _ q)
theorem IxR.imp {X : Cx} {r r' : R2} (h : IxR X r) (i : ∀ x y H Q, r' x y H Q → r x y H Q) : IxR X r' := fun a b pins s σ H x y v u Q I rx ry q => h a b pins s σ H x y v u Q I rx ry (i _ _ _ _ q)
theorem MtR.imp {X : Cx} {id : String} {r r' : V → List V → Hp → VK → Prop} (h : MtR X id r) (i : ∀ x xs H Q, r' x xs H Q → r x xs H Q) : MtR X id r' := fun pins s σ H x xs v us Q I rx rs q => h pins s σ H x xs v us Q I rx rs (i _ _ _ _ q)
theorem SlR.imp {X : Cx} {r r' : V → Option Int → Option Int → Hp → VK → Prop} (h : SlR X r) (i : ∀ x lo hi H Q, r' x lo hi H Q → r x lo hi H Q) : SlR X r' := fun pins s σ H x v vl vu lo hi sl Q I rx hs p1 p2 q => h pins s σ H x v vl vu lo hi sl Q I rx hs p1 p2 (i _ _ _ _ _ q)
theorem CallR.imp {X : Cx} {f : Value} {r r' : List V → Hp → VK → Prop} (h : CallR X f r) (i : ∀ x H Q, r' x H Q → r x H Q) : CallR X f r' := fun pins s σ H x v Q I rx q => h pins s σ H x v Q I rx (i _ _ _ q)

/-- the pure list or tuple behind a value -/
def seqOf (v : Vl) (h : Hs) : Option (List D) := match v with
  | .d (.tup xs) => some xs
  | .d (.lv xs) => some xs
  | .r k => (match h[k]? with
    | some (.lst xs) => some xs
    | _ => none)
  | _ => none
def lstOf (v : Vl) (h : Hs) : Option (List D) := match v with
  | .d (.lv xs) => some xs
  | .r k => (match h[k]? with
    | some (.lst xs) => some xs
    | _ => none)
  | _ => none
section
variable {K : PySem.W.Frag} {ct : CT} {m : List Addr} {ah : Hs} {H : Hp}
theorem HR.lstK (h : HR K ct m ah H) {k : Nat} {xs : List D} (e : ah[k]? = some (.lst xs)) {v : V} (r : VlR K ct m ah H (.r k) v) : ∃ a vs, m[k]? = some a ∧ v = .ref a ∧ H a = some (.lst vs) ∧ DRs K ct (Sf m ah) H xs vs := by
  obtain ⟨a, h1, rfl⟩ := r
  obtain ⟨u, h2, h3⟩ := h.ob k a _ h1 e
  cases h3 with
  | lst r => exact ⟨a, _, h1, rfl, h2, r⟩
theorem lst_of (h : HR K ct m ah H) {x : Vl} {xs : List D} {v : V} (e : lstOf x ah = some xs) (r : VlR K ct m ah H x v) : ∃ a vs, v = .ref a ∧ H a = some (.lst vs) ∧ DRs K ct (Sf m ah) H xs vs := by
  unfold lstOf at e
  split at e
  · cases e
    cases r with
    | lv h1 _ h2 => exact ⟨_, _, rfl, h1, h2⟩
  · rename_i k
    split at e
    · rename_i ys hk
      cases e
      obtain ⟨a, vs, _, rfl, h1, h2⟩ := h.lstK hk r
      exact ⟨a, vs, rfl, h1, h2⟩
    · cases e
  · cases e
theorem tup_of {xs : List D} {v : V} {S : Addr → Prop} (r : DR K ct S H (.tup xs) v) : ∃ a vs, v = .ref a ∧ SqT K H a vs ∧ DRs K ct S H xs vs := by
  cases r with
  | tup h1 h2 => exact ⟨_, _, rfl, h1.imp (fun z => z.1) id, h2⟩
theorem seq_of (h : HR K ct m ah H) {x : Vl} {xs : List D} {v : V} (e : seqOf x ah = some xs) (r : VlR K ct m ah H x v) : ∃ a vs, v = .ref a ∧ (SqL K H a vs ∨ SqT K H a vs) ∧ DRs K ct (Sf m ah) H xs vs := by
  unfold seqOf at e
  split at e
  · cases e
    obtain ⟨a, vs, rfl, h1, h2⟩ := tup_of r
    exact ⟨a, vs, rfl, .inr h1, h2⟩
  · cases e
    cases r with
    | lv h1 _ h2 => exact ⟨_, _, rfl, .inl (.of h1), h2⟩
  · rename_i k
    split at e
    · rename_i ys hk
      cases e
      obtain ⟨a, vs, _, rfl, h1, h2⟩ := h.lstK hk r
      exact ⟨a, vs, rfl, .inl (.of h1), h2⟩
    · cases e
  · cases e
theorem new_tup {S : Addr → Prop} {xs : List D} {vs : List V} {a : Addr} (r : DRs K ct S H xs vs) (k : Kp S H S (upd H a (.tup vs))) (s : S a) : DR K ct S (upd H a (.tup vs)) (.tup xs) (.ref a) := .tup (.inl ⟨.inl upd_same, s⟩) (r.mono k)
theorem new_lv {S : Addr → Prop} {xs : List D} {vs : List V} {a : Addr} (r : DRs K ct S H xs vs) (k : Kp S H S (upd H a (.lst vs))) (s : S a) : DR K ct S (upd H a (.lst vs)) (.lv xs) (.ref a) := .lv upd_same s (r.mono k)
end
end Mi

/-! Mi2: the operations -/
namespace Mi
open PySem PySem.Spec L2

/-! ### data as the library compares it -/
mutual
def D.pd : D → PyData
  | .non => .none | .bl b => .bool b | .int i => .int i | .str x => .str x
  | .tup xs => .tuple (D.pds xs) | .lv xs => .list (D.pds xs)
  | .scr _ => .dict [] | .dk _ => .dict [] | .dt _ => .dict [] | .ins _ _ => .dict []
def D.pds : List D → List PyData
  | [] => []
  | x :: xs => D.pd x :: D.pds xs
end
@[simp] theorem pds_eq_map : ∀ xs : List D, D.pds xs = xs.map D.pd
  | [] => by simp [D.pds]
  | x :: xs => by simp [D.pds, pds_eq_map xs]
def viewD (v : Vl) (h : Hs) : Option D := match v with
  | .d x => some x
  | .r k => (match h[k]? with
    | some (.lst xs) => some (.lv xs)
    | _ => none)
def shp (d : D) : Bool := SeqAt.shaped d.pd
section
variable {K : PySem.W.Frag} {ct : CT} {S : Addr → Prop} {m : List Addr} {ah : Hs} {H : Hp}
theorem canLayAll0_mem {d : D} : ∀ {xs : List D}, PyData.canLayAll0 (D.pds xs) = true → d ∈ xs → d.pd.canLay0 = true
  | x :: xs, h, hm => by
    simp only [D.pds, PyData.canLayAll0, Bool.and_eq_true] at h
    rcases List.mem_cons.mp hm with rfl | hm
    · exact h.1
    · exact canLayAll0_mem h.2 hm
mutual
theorem dp_of : ∀ {d : D} {v : V}, DR K ct S H d v → d.pd.canLay0 = true → Dp K H v d.pd
  | _, _, .non, _ => .non
  | _, _, .bl b, _ => .bl b
  | _, _, .int i, _ => .int i
  | _, _, .str x, _ => .str x
  | _, _, .tup h r, c => by
    simp only [D.pd, PyData.canLay0] at c ⊢
    exact .tup (h.imp (fun z => z.1) id) (dps_of r c)
  | _, _, .lv h s r, c => by
    simp only [D.pd, PyData.canLay0] at c ⊢
    exact .lst (.of h) (dps_of r c)
  | _, _, .scr h r, c => by simp [D.pd, PyData.canLay0] at c
  | _, _, .dk h s r, c => by simp [D.pd, PyData.canLay0] at c
  | _, _, .dt h s r, c => by simp [D.pd, PyData.canLay0] at c
  | _, _, .ins h s r, c => by simp [D.pd, PyData.canLay0] at c
theorem dps_of : ∀ {d : List D} {v : List V}, DRs K ct S H d v → PyData.canLayAll0 (D.pds d) = true → DpAll K H v (D.pds d)
  | _, _, .nil, _ => by simp only [D.pds]; exact .nil
  | _, _, .cons r t, c => by
    simp only [D.pds, PyData.canLayAll0, Bool.and_eq_true] at c ⊢
    exact .cons (dp_of r c.1) (dps_of t c.2)
end
theorem view_dp (h : HR K ct m ah H) {x : Vl} {d : D} {v : V} (e : viewD x ah = some d) (r : VlR K ct m ah H x v) (c : shp d = true) : Dp K H v d.pd := by
  have c' := SeqAt.canLay_of_shaped c
  unfold viewD at e
  split at e
  · cases e; exact dp_of r c'
  · rename_i k
    split at e
    · rename_i xs hk
      cases e
      obtain ⟨a, vs, _, rfl, h1, h2⟩ := h.lstK hk r
      simp only [D.pd, PyData.canLay0] at c' ⊢
      exact .lst (.of h1) (dps_of h2 c')
    · cases e
end

/-! ### the operations -/
def oAdd : Op2 := fun x y h => match x, y with
  | .d (.int i), .d (.int j) => some (.d (.int (i + j)), h)
  | .d (.str a), .d (.str b) => if a.length + b.length ≤ sizeLine then some (.d (.str (a ++ b)), h) else none
  | .d (.tup a), .d (.tup b) => if a.length + b.length ≤ sizeLine then some (.d (.tup (a ++ b)), h) else none
  | x, y => match lstOf x h, lstOf y h with
    | some a, some b => if a.length + b.length ≤ sizeLine then some (.d (.lv (a ++ b)), h) else none
    | _, _ => none
def oI (g : Int → Int → Int) (c : Int → Int → Bool) : Op2 := fun x y h => match x, y with
  | .d (.int i), .d (.int j) => if c i j then some (.d (.int (g i j)), h) else none
  | _, _ => none
def oSub : Op2 := oI (· - ·) fun _ _ => true
def cMulW (i j : Int) : Bool := decide (i.natAbs.log2 + j.natAbs.log2 < 1000000)
def cDivW (_ j : Int) : Bool := decide (0 < j) && decide (j.natAbs.log2 < 9000)
def cPow (i j : Int) : Bool := decide (0 ≤ j) && (decide (j ≤ 1000000) && decide (i.natAbs < 2 ^ 64))
def oMulI : Op2 := oI (· * ·) cMulW
def oMul : Op2 := fun x y h => match x, y with
  | .d (.int i), .d (.int j) => if cMulW i j then some (.d (.int (i * j)), h) else none
  | x, .d (.int k) => (match lstOf x h with
    | some a => if decide (-(2 ^ 63) ≤ k) && (decide (k < 2 ^ 63) && decide (a.length * k.toNat ≤ sizeLine)) then some (.d (.lv (List.replicate k.toNat a).flatten), h) else none
    | none => none)
  | _, _ => none
def oDiv : Op2 := oI (· / ·) cDivW
def oMod : Op2 := oI (· % ·) fun _ j => decide (0 < j)
def oPow : Op2 := oI (fun i j => i ^ j.toNat) cPow
def oAnd : Op2 := oI (fun i j => Builtin.bitAnd i j) fun _ _ => true
def oNeg : Op1 := fun x h => match x with
  | .d (.int i) => some (.d (.int (-i)), h)
  | _ => none
def oB (g : Int → Int → Bool) : Op2 := fun x y h => match x, y with
  | .d (.int i), .d (.int j) => some (.d (.bl (g i j)), h)
  | _, _ => none
def oLtS : Op2 := fun x y h => match x, y with
  | .d (.int i), .d (.int j) => some (.d (.bl (decide (i < j))), h)
  | .d (.str i), .d (.str j) => some (.d (.bl (decide (i.cps.toList < j.cps.toList))), h)
  | _, _ => none
def oLt : Op2 := oB fun i j => decide (i < j)
def oLe : Op2 := oB fun i j => decide (i ≤ j)
def oGt : Op2 := oB fun i j => decide (j < i)
def oGe : Op2 := oB fun i j => decide (j ≤ i)
def deq (a b : D) : Option Bool := if shp a && shp b then some (PyData.eqv a.pd b.pd) else none
def oEq : Op2 := fun x y h => match viewD x h, viewD y h with
  | some a, some b => (deq a b).map fun c => (.d (.bl c), h)
  | _, _ => none
def oNe : Op2 := fun x y h => match viewD x h, viewD y h with
  | some a, some b => (deq a b).map fun c => (.d (.bl (!c)), h)
  | _, _ => none
def isNon (x : Vl) : Bool := match x with
  | .d .non => true
  | _ => false
def oIsN : Op2 := fun x y h => match y with
  | .d .non => some (.d (.bl (isNon x)), h)
  | _ => none
def oNotN : Op2 := fun x y h => match y with
  | .d .non => some (.d (.bl (!isNon x)), h)
  | _ => none
/-- x in y: a list of data, a text -/
def inO (x y : Vl) (h : Hs) : Option Bool := match x, y with
  | .d (.str a), .d (.str b) => some (!(Builtin.Str.occurrences b a 0 b.length 1).isEmpty)
  | x, y => match viewD x h, lstOf y h with
    | some a, some ds => if shp a && shp (.lv ds) then some (ds.any fun z => PyData.eqv z.pd a.pd) else none
    | _, _ => none
def oIn : Op2 := fun x y h => (inO x y h).map fun c => (.d (.bl c), h)
def oNotIn : Op2 := fun x y h => (inO x y h).map fun c => (.d (.bl (!c)), h)
def oIx : Op2 := fun x y h => match x, y with
  | .d (.str z), .d (.int i) => if z.length ≤ sizeLine then (atI z.cps.toList i).map fun c => (.d (.str ⟨#[c]⟩), h) else none
  | x, .d (.int i) => (match seqOf x h with
    | some xs => (atI xs i).map fun d => (.d d, h)
    | none => none)
  | _, _ => none
def truO (x : Vl) (h : Hs) : Option Bool := match x with
  | .d .non => some false
  | .d (.bl b) => some b
  | .d (.int i) => some (i != 0)
  | .d (.str y) => if y.length ≤ sizeLine then some ((y.length : Int) != 0) else none
  | .d (.dk kvs) => some (!kvs.isEmpty)
  | .r k => (match h[k]? with
    | some (.lst xs) => some (!xs.isEmpty)
    | some (.dk kvs) => some (!kvs.isEmpty)
    | _ => none)
  | x => (match seqOf x h with
    | some xs => some (!xs.isEmpty)
    | none => none)
section
variable {X : Cx} {ct : CT}
theorem isEmpty_drs {K : PySem.W.Frag} {S : Addr → Prop} {H : Hp} {d : List D} {v : List V} (r : DRs K ct S H d v) : d.isEmpty = v.isEmpty := by
  cases r <;> rfl
theorem isEmpty_drk {K : PySem.W.Frag} {S : Addr → Prop} {H : Hp} {d : List (Key × D)} {v : List (Key × V)} (r : DRk K ct S H d v) : d.isEmpty = v.isEmpty := by
  cases r <;> rfl
theorem opI_sound {op : Operator} {g : Int → Int → Int} {C : Int → Int → Prop} {c : Int → Int → Bool} (ho : OpR X (binaryOp op) (rI C fun i j => .int (g i j))) (hc : ∀ i j, c i j = true → C i j) : OpR X (binaryOp op) (rOp X.K ct (oI g c)) :=
  OpR.imp ho fun x y H Q ⟨m, ah, a, b, hr, ra, rb, p⟩ => by
    unfold oI at p
    split at p
    · cases ra; cases rb
      split at p
      · rename_i hcc
        exact ⟨_, _, rfl, rfl, hc _ _ hcc, p.same hr (.int _)⟩
      · exact p.elim
    · exact p.elim
theorem op_ofI0 {f : Value → Value → Sem Value} {g : Int → Int → V} (h : OpR X f (rI0 g)) : OpR X f (rI (fun _ _ => True) g) := OpR.imp h fun x y H Q ⟨i, j, e1, e2, _, q⟩ => ⟨i, j, e1, e2, q⟩
theorem sub_sound : OpR X (binaryOp .Sub) (rOp X.K ct oSub) := opI_sound (op_ofI0 op_sub) fun _ _ _ => trivial
theorem mulI_sound : OpR X (binaryOp .Mult) (rOp X.K ct oMulI) := opI_sound op_mulW fun i j h => by unfold cMulW at h; unfold CMulW; exact of_decide_eq_true h
theorem div_sound : OpR X (binaryOp .FloorDiv) (rOp X.K ct oDiv) := opI_sound op_fdivW fun i j h => by unfold cDivW at h; exact ⟨of_decide_eq_true (Bool.and_eq_true_iff.mp h).1, of_decide_eq_true (Bool.and_eq_true_iff.mp h).2⟩
theorem mod_sound : OpR X (binaryOp .Mod) (rOp X.K ct oMod) := opI_sound op_mod fun i j h => by simpa using h
theorem pow_sound : OpR X (binaryOp .Pow) (rOp X.K ct oPow) := opI_sound op_pow fun i j h => by unfold cPow at h; simp only [Bool.and_eq_true, decide_eq_true_eq] at h; exact h
theorem and_sound : OpR X (binaryOp .BitAnd) (rOp X.K ct oAnd) := opI_sound (op_ofI0 op_and) fun _ _ _ => trivial
theorem mul_sound : OpR X (binaryOp .Mult) (rOp X.K ct oMul) := by
  refine OpR.imp (op_mulW.or op_rep) fun x y H Q ⟨m, ah, a, b, hr, ra, rb, p⟩ => ?_
  unfold oMul at p
  split at p
  · cases ra; cases rb
    split at p
    · rename_i hcc
      exact .inl ⟨_, _, rfl, rfl, by unfold cMulW at hcc; unfold CMulW; exact of_decide_eq_true hcc, p.same hr (.int _)⟩
    · exact p.elim
  · cases rb
    split at p
    · rename_i xs e
      obtain ⟨l, vs, rfl, h1, h2⟩ := lst_of hr e ra
      split at p
      · rename_i hc
        simp only [Bool.and_eq_true, decide_eq_true_eq] at hc
        refine .inr ⟨l, _, vs, rfl, rfl, h1, hc.1, hc.2.1, by rw [← h2.length]; exact hc.2.2, p.new hr fun a ha k s => new_lv ?_ k s⟩
        generalize Int.toNat _ = n
        induction n with
        | zero => exact .nil
        | succ n ih =>
          rw [List.replicate_succ, List.replicate_succ, List.flatten_cons, List.flatten_cons]
          exact h2.append ih
      · exact p.elim
    · exact p.elim
  · exact p.elim
theorem neg_sound : UnR X (unaryOp .USub) (rUn X.K ct oNeg) := UnR.imp un_neg fun x H Q ⟨m, ah, a, hr, ra, p⟩ => by
  unfold oNeg at p
  split at p
  · cases ra; exact ⟨_, rfl, p.same hr (.int _)⟩
  · exact p.elim
theorem opB_sound {op : CmpOp} {g : Int → Int → Bool} (ho : OpR X (compareOp op) (rI0 fun i j => .bl (g i j))) : OpR X (compareOp op) (rOp X.K ct (oB g)) :=
  OpR.imp ho fun x y H Q ⟨m, ah, a, b, hr, ra, rb, p⟩ => by
    unfold oB at p
    split at p
    · cases ra; cases rb
      exact ⟨_, _, rfl, rfl, p.same hr (.bl _)⟩
    · exact p.elim
theorem lt_sound : OpR X (compareOp .Lt) (rOp X.K ct oLt) := opB_sound op_lt
theorem le_sound : OpR X (compareOp .LtE) (rOp X.K ct oLe) := opB_sound op_le
theorem gt_sound : OpR X (compareOp .Gt) (rOp X.K ct oGt) := opB_sound op_gt
theorem ge_sound : OpR X (compareOp .GtE) (rOp X.K ct oGe) := opB_sound op_ge
theorem add_sound : OpR X (binaryOp .Add) (rOp X.K ct oAdd) := by
  refine OpR.imp (op_add.or (op_add_str.or (op_catA.or op_cat))) fun x y H Q ⟨m, ah, a, b, hr, ra, rb, p⟩ => ?_
  unfold oAdd at p
  split at p
  · cases ra; cases rb
    exact .inl ⟨_, _, rfl, rfl, p.same hr (.int _)⟩
  · cases ra; cases rb
    split at p
    · rename_i hc
      exact .inr (.inl ⟨_, _, rfl, rfl, hc, p.same hr (.str _)⟩)
    · exact p.elim
  · obtain ⟨l1, v1, rfl, h1, r1⟩ := tup_of ra
    obtain ⟨l2, v2, rfl, h2, r2⟩ := tup_of rb
    split at p
    · rename_i hc
      refine .inr (.inr (.inl ⟨l1, l2, v1, v2, rfl, rfl, h1, h2, by rw [← r1.length, ← r2.length]; exact hc, fun e => ?_, fun e1 e2 => ?_, fun _ _ => p.new hr fun a ha k s => new_tup (r1.append r2) k s⟩))
      · subst e
        cases r1
        exact p.same hr (by simpa using rb)
      · subst e2
        cases r2
        exact p.same hr (by simpa using ra)
    · exact p.elim
  · split at p
    · rename_i _ _ xs ys e1 e2
      obtain ⟨l1, v1, rfl, h1, r1⟩ := lst_of hr e1 ra
      obtain ⟨l2, v2, rfl, h2, r2⟩ := lst_of hr e2 rb
      split at p
      · rename_i hc
        exact .inr (.inr (.inr ⟨l1, l2, v1, v2, rfl, rfl, h1, h2, by rw [← r1.length, ← r2.length]; exact hc, p.new hr fun a ha k s => new_lv (r1.append r2) k s⟩))
      · exact p.elim
    · exact p.elim
theorem eq_sound (hu : X.A.units + 64 < cLine) : OpR X (compareOp .Eq) (rOp X.K ct oEq) := by
  refine OpR.imp (op_eqD hu) fun x y H Q ⟨m, ah, a, b, hr, ra, rb, p⟩ => ?_
  unfold oEq at p
  split at p
  · rename_i d e h1 h2
    unfold deq at p
    by_cases hc : (shp d && shp e) = true
    · rw [if_pos hc] at p
      have hc' := Bool.and_eq_true_iff.mp hc
      exact ⟨d.pd, e.pd, view_dp hr h1 ra hc'.1, view_dp hr h2 rb hc'.2, hc'.1, hc'.2, p.same hr (.bl _)⟩
    · rw [if_neg hc] at p; exact p.elim
  · exact p.elim
theorem ne_sound (hu : X.A.units + 64 < cLine) : OpR X (compareOp .NotEq) (rOp X.K ct oNe) := by
  refine OpR.imp (op_neD hu) fun x y H Q ⟨m, ah, a, b, hr, ra, rb, p⟩ => ?_
  unfold oNe at p
  split at p
  · rename_i d e h1 h2
    unfold deq at p
    by_cases hc : (shp d && shp e) = true
    · rw [if_pos hc] at p
      have hc' := Bool.and_eq_true_iff.mp hc
      exact ⟨d.pd, e.pd, view_dp hr h1 ra hc'.1, view_dp hr h2 rb hc'.2, hc'.1, hc'.2, p.same hr (.bl _)⟩
    · rw [if_neg hc] at p; exact p.elim
  · exact p.elim
theorem isNon_V {K : PySem.W.Frag} {m : List Addr} {ah : Hs} {H : Hp} {x : Vl} {v : V} (r : VlR K ct m ah H x v) : isNon x = decide (v = .non) := by
  cases x with
  | r k => obtain ⟨a, _, rfl⟩ := r; simp [isNon]
  | d x => cases r <;> simp [isNon]
theorem isN_sound : OpR X (compareOp .Is) (rOp X.K ct oIsN) := by
  refine OpR.imp op_isN fun x y H Q ⟨m, ah, a, b, hr, ra, rb, p⟩ => ?_
  unfold oIsN at p
  split at p
  · cases rb
    refine ⟨rfl, ?_⟩
    rw [isNon_V ra] at p
    exact p.same hr (.bl _)
  · exact p.elim
theorem notN_sound : OpR X (compareOp .IsNot) (rOp X.K ct oNotN) := by
  refine OpR.imp op_notN fun x y H Q ⟨m, ah, a, b, hr, ra, rb, p⟩ => ?_
  unfold oNotN at p
  split at p
  · cases rb
    refine ⟨rfl, ?_⟩
    rw [isNon_V ra] at p
    exact p.same hr (.bl _)
  · exact p.elim
theorem any_pds (a : PyData) : ∀ ds : List D, (D.pds ds).any (fun z => PyData.eqv z a) = ds.any fun z => PyData.eqv z.pd a
  | [] => by simp [D.pds]
  | d :: ds => by rw [D.pds, List.any_cons, List.any_cons, any_pds a ds]
theorem in_sound (hu : X.A.units + 65 < cLine) : OpR X (compareOp .In) (rOp X.K ct oIn) := by
  refine OpR.imp (op_in_str.or (op_inD hu)) fun x y H Q ⟨m, ah, a, b, hr, ra, rb, p⟩ => ?_
  unfold oIn inO at p
  split at p
  · cases ra; cases rb
    exact .inl ⟨_, _, rfl, rfl, p.same hr (.bl _)⟩
  · split at p
    · rename_i d ds h1 h2
      by_cases hc : (shp d && shp (.lv ds)) = true
      · rw [if_pos hc] at p
        have hc' := Bool.and_eq_true_iff.mp hc
        obtain ⟨l, vs, rfl, h3, r3⟩ := lst_of hr h2 rb
        have c2 := hc'.2
        unfold shp at c2
        simp only [D.pd] at c2
        have c3 := SeqAt.canLay_of_shaped c2
        simp only [PyData.canLay0] at c3
        refine .inr ⟨d.pd, D.pds ds, view_dp hr h1 ra hc'.1, .lst (.of h3) (dps_of r3 c3), hc'.1, c2, ?_⟩
        rw [any_pds]
        exact p.same hr (.bl _)
      · rw [if_neg hc] at p; exact p.elim
    · exact p.elim
theorem notIn_sound (hu : X.A.units + 65 < cLine) : OpR X (compareOp .NotIn) (rOp X.K ct oNotIn) := by
  refine OpR.imp (op_notIn_str.or (op_notInD hu)) fun x y H Q ⟨m, ah, a, b, hr, ra, rb, p⟩ => ?_
  unfold oNotIn inO at p
  split at p
  · cases ra; cases rb
    exact .inl ⟨_, _, rfl, rfl, p.same hr (.bl _)⟩
  · split at p
    · rename_i d ds h1 h2
      by_cases hc : (shp d && shp (.lv ds)) = true
      · rw [if_pos hc] at p
        have hc' := Bool.and_eq_true_iff.mp hc
        obtain ⟨l, vs, rfl, h3, r3⟩ := lst_of hr h2 rb
        have c2 := hc'.2
        unfold shp at c2
        simp only [D.pd] at c2
        have c3 := SeqAt.canLay_of_shaped c2
        simp only [PyData.canLay0] at c3
        refine .inr ⟨d.pd, D.pds ds, view_dp hr h1 ra hc'.1, .lst (.of h3) (dps_of r3 c3), hc'.1, c2, ?_⟩
        rw [any_pds]
        exact p.same hr (.bl _)
      · rw [if_neg hc] at p; exact p.elim
    · exact p.elim
theorem atI_drs {K : PySem.W.Frag} {S : Addr → Prop} {H : Hp} {d : List D} {v : List V} {i : Int} {x : D} (r : DRs K ct S H d v) (e : atI d i = some x) : ∃ y, atI v i = some y ∧ DR K ct S H x y := by
  unfold atI at e ⊢
  rw [← r.length]
  cases q : ixN d.length i with
  | none => rw [q] at e; cases e
  | some j =>
    rw [q] at e
    exact r.get e
theorem ix_sound : IxR X (rOp X.K ct oIx) := by
  refine IxR.imp ix_seq fun x y H Q ⟨m, ah, a, b, hr, ra, rb, p⟩ => ?_
  unfold oIx at p
  split at p
  · cases ra; cases rb
    split at p
    · rename_i hz
      generalize e : atI _ _ = q at p
      cases q with
      | none => exact p.elim
      | some c => exact .inr (.inr ⟨_, _, c, rfl, rfl, hz, e, p.same hr (.str _)⟩)
    · exact p.elim
  · cases rb
    split at p
    · rename_i xs e
      obtain ⟨l, vs, rfl, h1, r1⟩ := seq_of hr e ra
      generalize q : atI _ _ = z at p
      cases z with
      | none => exact p.elim
      | some d =>
        obtain ⟨y, h2, r2⟩ := atI_drs r1 q
        rcases h1 with h1 | h1
        · exact .inl ⟨l, vs, _, y, rfl, rfl, h1, h2, p.same hr r2⟩
        · exact .inr (.inl ⟨l, vs, _, y, rfl, rfl, h1, h2, p.same hr r2⟩)
    · exact p.elim
  · exact p.elim
/-- the truth of a value -/
theorem tru_of {K : PySem.W.Frag} {m : List Addr} {ah : Hs} {H : Hp} (hr : HR K ct m ah H) {x : Vl} {v : V} {b : Bool} (r : VlR K ct m ah H x v) (e : truO x ah = some b) : TruV K v H b := by
  unfold truO at e
  split at e
  · cases r; cases e; rfl
  · cases r; cases e; rfl
  · cases r; cases e; rfl
  · cases r
    split at e
    · rename_i hl
      cases e; exact ⟨hl, rfl⟩
    · cases e
  · cases e
    cases r with
    | dk h s t => exact .inr (.inr ⟨_, h, by rw [isEmpty_drk t]⟩)
  · rename_i k
    split at e
    · rename_i xs hk
      cases e
      obtain ⟨a, vs, _, rfl, h1, h2⟩ := hr.lstK hk r
      exact .inl ⟨vs, .of h1, by rw [isEmpty_drs h2]⟩
    · rename_i kvs hk
      cases e
      obtain ⟨a, h1, rfl⟩ := r
      obtain ⟨u, h2, h3⟩ := hr.ob k a _ h1 hk
      cases h3 with
      | dk t => exact .inr (.inr ⟨_, h2, by rw [isEmpty_drk t]⟩)
    · cases e
  · split at e
    · rename_i xs hx
      cases e
      obtain ⟨l, vs, rfl, h1, r1⟩ := seq_of hr hx r
      rw [isEmpty_drs r1]
      rcases h1 with h1 | h1
      · exact .inl ⟨vs, h1, rfl⟩
      · exact .inr (.inl ⟨vs, h1, rfl⟩)
    · cases e
end
end Mi

/-! Mi3: tests, argument lists, displays, slices, calls of built-in functions -/
namespace Mi
open PySem PySem.Spec L2

/-! ### tests -/
def tTru (f : SemE) : SemT := fun σ h => rb (f σ h) fun x h1 => match truO x h1 with
  | some b => .ok b h1
  | none => .bad
def tBl (f : SemE) : SemT := fun σ h => rb (f σ h) fun x h1 => match x with
  | .d (.bl b) => .ok b h1
  | _ => .bad
def tAn (f g : SemT) : SemT := fun σ h => rb (f σ h) fun b h1 => if b = true then g σ h1 else .ok false h1
def tOr' (f g : SemT) : SemT := fun σ h => rb (f σ h) fun b h1 => if b = true then .ok true h1 else g σ h1
def tNo (f : SemT) : SemT := fun σ h => rb (f σ h) fun b h1 => .ok (!b) h1
def eChain (o o' : Op2) (f g k : SemE) : SemE := fun σ h => rb (f σ h) fun x h1 => rb (g σ h1) fun y h2 => rb (ro (o x y h2)) fun z h3 => match z with
  | .d (.bl b) => if b = true then rb (k σ h3) fun w h4 => ro (o' y w h4) else .ok (.d (.bl false)) h3
  | _ => .bad
def eIf (t : SemT) (f g : SemE) : SemE := fun σ h => rb (t σ h) fun b h1 => if b = true then f σ h1 else g σ h1
def eAn (f g : SemE) : SemE := fun σ h => rb (f σ h) fun x h1 => match truO x h1 with
  | some b => if b = true then g σ h1 else .ok x h1
  | none => .bad
def eOr (f g : SemE) : SemE := fun σ h => rb (f σ h) fun x h1 => match truO x h1 with
  | some b => if b = true then .ok x h1 else g σ h1
  | none => .bad
def eNo (f : SemE) : SemE := fun σ h => rb (f σ h) fun x h1 => match truO x h1 with
  | some b => .ok (.d (.bl (!b))) h1
  | none => .bad
abbrev SW (X : Cx) (ct : CT) (W : WX) (e : Expr) (f : SemT) : Prop := PW X e (rdT X.K ct W f)
/-- the bool behind a value -/
theorem bl_of {K : PySem.W.Frag} {ct : CT} {m : List Addr} {ah : Hs} {H : Hp} {b : Bool} {v : V} (r : VlR K ct m ah H (.d (.bl b)) v) : v = .bl b := by
  cases r; rfl
section
variable {X : Cx} {ct : CT} {W : WX} {pos : Pos} {a b c : Expr} {f g k : SemE} {t u : SemT} {rest : List Expr}
theorem st_truth (ha : SE X ct W a f) (he : ∀ whole, isTrue a X.env whole = (do let v ← whole; standAt a.pos; holding [v] (truthy v)) := by intro _; rfl) : ST X ct W a (tTru f) :=
  PT.imp (pt_truth ha he) fun σV H Q ⟨m, ah, σ, hr, lr, p⟩ => ⟨m, ah, σ, hr, lr, (Po.bind (R := VlR X.K ct) p).imp fun v H1 ⟨m1, h1, x, hr1, e1, r1, p1⟩ => by
    dsimp only at p1
    cases e : truO x h1 with
    | none => rw [e] at p1; exact p1.elim
    | some k => rw [e] at p1; exact ⟨k, tru_of hr1 r1 e, p1 m1 H1 k hr1 (Ext.refl _ _ _) rfl⟩⟩
theorem tB_of {f : SemE} {σV : L2.St} {H : Hp} {Q : Bool → Hp → Prop} (h : rdT X.K ct W (tBl f) σV H Q) : rdE X.K ct W f σV H fun x H' => ∃ k, x = .bl k ∧ Q k H' := by
  obtain ⟨m, ah, σ, hr, lr, p⟩ := h
  refine ⟨m, ah, σ, hr, lr, (Po.bind (R := VlR X.K ct) p).imp fun v H1 ⟨m1, h1, x, hr1, e1, r1, p1⟩ => ?_⟩
  dsimp only at p1
  split at p1
  · rename_i b
    exact ⟨b, bl_of r1, p1 m1 H1 b hr1 (Ext.refl _ _ _) rfl⟩
  · exact p1.elim
theorem st_val (ha : SE X ct W a f) (he : ∀ whole, isTrue a X.env whole = (do let v ← whole; standAt a.pos; holding [v] (truthy v)) := by intro _; rfl) : ST X ct W a (tBl f) :=
  PT.imp (pt_val ha he) fun σV H Q h => tB_of h
theorem st_cmp {op : CmpOp} {o : Op2} (ho : OpR X (compareOp op) (rOp X.K ct o)) (ha : SE X ct W a f) (hb : SE X ct W b g) (hm : behindInMarks op b = false := by first | exact nomark _ | rfl | with_unfolding_all rfl) : ST X ct W (.Compare a [op] [b] pos) (tBl (eBin o f g)) :=
  PT.imp (pt_cmpR ho ha hb hm) fun σV H Q h => rd_bin (tB_of h)
theorem rd_chain {o o' : Op2} {σV : L2.St} {H : Hp} {Q : VK} (h : rdE X.K ct W (eChain o o' f g k) σV H Q) : tChain (rOp X.K ct o) (rOp X.K ct o') (rdE X.K ct W f) (rdE X.K ct W g) (rdE X.K ct W k) σV H Q := by
  obtain ⟨m, ah, σ, hr, lr, p⟩ := h
  refine ⟨m, ah, σ, hr, lr, (Po.bind (R := VlR X.K ct) p).imp fun v H1 ⟨m1, h1, x, hr1, e1, r1, p1⟩ => ?_⟩
  refine ⟨m1, h1, σ, hr1, lr.ext e1, (Po.bind (R := VlR X.K ct) p1).imp fun y H2 ⟨m2, h2, y', hr2, e2, r2, p2⟩ => ?_⟩
  refine ⟨m2, h2, x, y', hr2, r1.ext e2, r2, Pp.of (W := W) (σV := σV) ((Po.bind (R := VlR X.K ct) p2).imp fun z H3 ⟨m3, h3, z', hr3, e3, r3, p3⟩ => ?_)⟩
  dsimp only at p3
  split at p3
  · rename_i b
    refine ⟨b, bl_of r3, ?_⟩
    cases b with
    | false => exact p3 m3 H3 (.bl false) hr3 (Ext.refl _ _ _) (.bl false)
    | true =>
      refine ⟨m3, h3, σ, hr3, ((lr.ext e1).ext e2).ext e3, (Po.bind (R := VlR X.K ct) p3).imp fun w H4 ⟨m4, h4, w', hr4, e4, r4, p4⟩ => ?_⟩
      exact ⟨m4, h4, y', w', hr4, (r2.ext e3).ext e4, r4, Pp.of p4⟩
  · exact p3.elim
theorem se_chain {op op' : CmpOp} {o o' : Op2} (ho : OpR X (compareOp op) (rOp X.K ct o)) (ho' : OpR X (compareOp op') (rOp X.K ct o')) (ha : SE X ct W a f) (hb : SE X ct W b g) (hc : SE X ct W c k)
    (hm : lastMarks [op, op'] [b, c] = false := by with_unfolding_all rfl) : SE X ct W (.Compare a [op, op'] [b, c] pos) (eChain o o' f g k) := PE.imp (pe_chain ho ho' ha hb hc hm) fun _ _ _ h => rd_chain h
theorem st_chain {op op' : CmpOp} {o o' : Op2} (ho : OpR X (compareOp op) (rOp X.K ct o)) (ho' : OpR X (compareOp op') (rOp X.K ct o')) (ha : SE X ct W a f) (hb : SE X ct W b g) (hc : SE X ct W c k)
    (hm : lastMarks [op, op'] [b, c] = false := by with_unfolding_all rfl) : ST X ct W (.Compare a [op, op'] [b, c] pos) (tBl (eChain o o' f g k)) := PT.imp (pt_chain ho ho' ha hb hc hm) fun _ _ _ h => rd_chain (tB_of h)
theorem sw_and1 (ha : ST X ct W a t) : SW X ct W (.BoolOp .And [a] pos) t := pw_and1 ha
theorem sw_or1 (ha : ST X ct W a t) : SW X ct W (.BoolOp .Or [a] pos) t := pw_or1 ha
theorem sw_and (ha : ST X ct W a t) (hb : SW X ct W (.BoolOp .And (b :: rest) pos) u) : SW X ct W (.BoolOp .And (a :: b :: rest) pos) (tAn t u) :=
  PW.imp (pw_and ha hb) fun σV H Q ⟨m, ah, σ, hr, lr, p⟩ => ⟨m, ah, σ, hr, lr, (Po.bind (R := fun _ _ _ b c => b = c) p).imp fun v H1 ⟨m1, h1, x, hr1, e1, r1, p1⟩ => by
    subst r1
    dsimp only at p1
    cases x with
    | true => exact ⟨m1, h1, σ, hr1, lr.ext e1, p1⟩
    | false => exact p1 m1 H1 false hr1 (Ext.refl _ _ _) rfl⟩
theorem sw_or (ha : ST X ct W a t) (hb : SW X ct W (.BoolOp .Or (b :: rest) pos) u) : SW X ct W (.BoolOp .Or (a :: b :: rest) pos) (tOr' t u) :=
  PW.imp (pw_or ha hb) fun σV H Q ⟨m, ah, σ, hr, lr, p⟩ => ⟨m, ah, σ, hr, lr, (Po.bind (R := fun _ _ _ b c => b = c) p).imp fun v H1 ⟨m1, h1, x, hr1, e1, r1, p1⟩ => by
    subst r1
    dsimp only at p1
    cases x with
    | false => exact ⟨m1, h1, σ, hr1, lr.ext e1, p1⟩
    | true => exact p1 m1 H1 true hr1 (Ext.refl _ _ _) rfl⟩
theorem st_bool (h : SW X ct W a t) : ST X ct W a t := PW.pt h
theorem st_not (ha : ST X ct W a t) : ST X ct W (.UnaryOp .Not a pos) (tNo t) :=
  PT.imp (pt_not ha) fun σV H Q ⟨m, ah, σ, hr, lr, p⟩ => ⟨m, ah, σ, hr, lr, (Po.bind (R := fun _ _ _ b c => b = c) p).imp fun v H1 ⟨m1, h1, x, hr1, e1, r1, p1⟩ => by
    subst r1
    exact p1 m1 H1 _ hr1 (Ext.refl _ _ _) rfl⟩
theorem se_if (hc : ST X ct W c t) (ha : SE X ct W a f) (hb : SE X ct W b g) : SE X ct W (.IfExp c a b pos) (eIf t f g) :=
  PE.imp (pe_ifExp hc ha hb) fun σV H Q ⟨m, ah, σ, hr, lr, p⟩ => ⟨m, ah, σ, hr, lr, (Po.bind (R := fun _ _ _ b c => b = c) p).imp fun v H1 ⟨m1, h1, x, hr1, e1, r1, p1⟩ => by
    subst r1
    dsimp only at p1
    cases x with
    | true => exact ⟨m1, h1, σ, hr1, lr.ext e1, p1⟩
    | false => exact ⟨m1, h1, σ, hr1, lr.ext e1, p1⟩⟩
theorem se_one {op} (ha : SE X ct W a f) : SE X ct W (.BoolOp op [a] pos) f := pe_one ha
theorem se_and (ha : SE X ct W a f) (hb : SE X ct W (.BoolOp .And (b :: rest) pos) g) : SE X ct W (.BoolOp .And (a :: b :: rest) pos) (eAn f g) :=
  PE.imp (pe_andT ha hb) fun σV H Q ⟨m, ah, σ, hr, lr, p⟩ => ⟨m, ah, σ, hr, lr, (Po.bind (R := VlR X.K ct) p).imp fun v H1 ⟨m1, h1, x, hr1, e1, r1, p1⟩ => by
    dsimp only at p1
    cases e : truO x h1 with
    | none => rw [e] at p1; exact p1.elim
    | some k =>
      rw [e] at p1
      refine ⟨k, tru_of hr1 r1 e, ?_⟩
      cases k with
      | true => exact ⟨m1, h1, σ, hr1, lr.ext e1, p1⟩
      | false => exact p1 m1 H1 v hr1 (Ext.refl _ _ _) r1⟩
theorem se_or (ha : SE X ct W a f) (hb : SE X ct W (.BoolOp .Or (b :: rest) pos) g) : SE X ct W (.BoolOp .Or (a :: b :: rest) pos) (eOr f g) :=
  PE.imp (pe_orT ha hb) fun σV H Q ⟨m, ah, σ, hr, lr, p⟩ => ⟨m, ah, σ, hr, lr, (Po.bind (R := VlR X.K ct) p).imp fun v H1 ⟨m1, h1, x, hr1, e1, r1, p1⟩ => by
    dsimp only at p1
    cases e : truO x h1 with
    | none => rw [e] at p1; exact p1.elim
    | some k =>
      rw [e] at p1
      refine ⟨k, tru_of hr1 r1 e, ?_⟩
      cases k with
      | false => exact ⟨m1, h1, σ, hr1, lr.ext e1, p1⟩
      | true => exact p1 m1 H1 v hr1 (Ext.refl _ _ _) r1⟩
theorem se_not (ha : SE X ct W a f) : SE X ct W (.UnaryOp .Not a pos) (eNo f) :=
  PE.imp (pe_notT ha) fun σV H Q ⟨m, ah, σ, hr, lr, p⟩ => ⟨m, ah, σ, hr, lr, (Po.bind (R := VlR X.K ct) p).imp fun v H1 ⟨m1, h1, x, hr1, e1, r1, p1⟩ => by
    dsimp only at p1
    cases e : truO x h1 with
    | none => rw [e] at p1; exact p1.elim
    | some k =>
      rw [e] at p1
      exact ⟨k, tru_of hr1 r1 e, p1 m1 H1 _ hr1 (Ext.refl _ _ _) (.bl _)⟩⟩
end

/-! ### argument lists -/
def aNil : SemA := fun _ h => .ok [] h
def aCons (f : SemE) (g : SemA) : SemA := fun σ h => rb (f σ h) fun x h1 => rb (g σ h1) fun xs h2 => .ok (x :: xs) h2
section
variable {X : Cx} {ct : CT} {W : WX} {pos : Pos} {e : Expr} {es : List Expr} {f : SemE} {fs : SemA}
theorem sa_nil : SA X ct W [] aNil := PA.imp pa_nil fun σV H Q ⟨m, ah, σ, hr, lr, p⟩ => p m H [] hr (Ext.refl _ _ _) .nil
theorem sa_cons (ha : SE X ct W e f) (hb : SA X ct W es fs) (hs : starEach (e :: es) X.env = (false, eval e X.env) :: starEach es X.env := by rfl) : SA X ct W (e :: es) (aCons f fs) :=
  PA.imp (pa_cons ha hb hs) fun σV H Q ⟨m, ah, σ, hr, lr, p⟩ => ⟨m, ah, σ, hr, lr, (Po.bind (R := VlR X.K ct) p).imp fun v H1 ⟨m1, h1, x, hr1, e1, r1, p1⟩ =>
    ⟨m1, h1, σ, hr1, lr.ext e1, (Po.bind (R := VlRs X.K ct) p1).imp fun vs H2 ⟨m2, h2, xs, hr2, e2, r2, p2⟩ => p2 m2 H2 (v :: vs) hr2 (Ext.refl _ _ _) (.cons (r1.ext e2) r2)⟩⟩
end

/-! ### values become data -/
def toD (x : Vl) (h : Hs) : Option (D × Hs) := match x with
  | .d d => some (d, h)
  | .r k => (match h[k]? with
    | some (.lst xs) => some (.lv xs, h.set k .dead)
    | some (.dk xs) => some (.dk xs, h.set k .dead)
    | some (.dt xs) => some (.dt xs, h.set k .dead)
    | some (.ins C fs) => some (.ins C fs, h.set k .dead)
    | _ => none)
def toDs : List Vl → Hs → Option (List D × Hs)
  | [], h => some ([], h)
  | x :: xs, h => (toD x h).bind fun p => (toDs xs p.2).map fun q => (p.1 :: q.1, q.2)
section
variable {K : PySem.W.Frag} {ct : CT} {m : List Addr} {ah : Hs} {H : Hp}
theorem toD_sound (h : HR K ct m ah H) {x : Vl} {d : D} {ah' : Hs} {v : V} (e : toD x ah = some (d, ah')) (r : VlR K ct m ah H x v) : HR K ct m ah' H ∧ Ext m ah H m ah' H ∧ DR K ct (Sf m ah') H d v := by
  unfold toD at e
  split at e
  · cases e
    exact ⟨h, Ext.refl _ _ _, r⟩
  · rename_i k
    obtain ⟨a, h1, rfl⟩ := r
    obtain ⟨hr2, ex, s⟩ := h.freeze h1
    split at e
    · rename_i xs hk
      cases e
      obtain ⟨u, h2, h3⟩ := h.ob k a _ h1 hk
      cases h3 with
      | lst t => exact ⟨hr2, ex, .lv h2 s (t.mono ex.kp)⟩
    · rename_i xs hk
      cases e
      obtain ⟨u, h2, h3⟩ := h.ob k a _ h1 hk
      cases h3 with
      | dk t => exact ⟨hr2, ex, .dk h2 s (t.mono ex.kp)⟩
    · rename_i xs hk
      cases e
      obtain ⟨u, h2, h3⟩ := h.ob k a _ h1 hk
      cases h3 with
      | dt t => exact ⟨hr2, ex, .dt h2 s (t.mono ex.kp)⟩
    · rename_i C fs hk
      cases e
      obtain ⟨u, h2, h3⟩ := h.ob k a _ h1 hk
      cases h3 with
      | ins t => exact ⟨hr2, ex, .ins h2 s (t.mono ex.kp)⟩
    · cases e
theorem toDs_sound : ∀ {xs : List Vl} {ah : Hs} {ds : List D} {ah' : Hs} {vs : List V}, HR K ct m ah H → toDs xs ah = some (ds, ah') → VlRs K ct m ah H xs vs → HR K ct m ah' H ∧ Ext m ah H m ah' H ∧ DRs K ct (Sf m ah') H ds vs
  | [], ah, ds, ah', vs, h, e, r => by
    cases e
    cases r
    exact ⟨h, Ext.refl _ _ _, .nil⟩
  | x :: xs, ah, ds, ah', vs, h, e, r => by
    cases r with
    | cons r1 r2 =>
      unfold toDs at e
      cases e1 : toD x ah with
      | none => rw [e1] at e; cases e
      | some p =>
        obtain ⟨d, h1⟩ := p
        rw [e1] at e
        obtain ⟨hr1, ex1, t1⟩ := toD_sound h e1 r1
        cases e2 : toDs xs h1 with
        | none => rw [show ((some (d, h1)).bind fun p => (toDs xs p.2).map fun q => (p.1 :: q.1, q.2)) = ((toDs xs h1).map fun q => (d :: q.1, q.2)) from rfl, e2] at e; cases e
        | some q =>
          obtain ⟨qs, h2⟩ := q
          rw [show ((some (d, h1)).bind fun p => (toDs xs p.2).map fun q => (p.1 :: q.1, q.2)) = ((toDs xs h1).map fun q => (d :: q.1, q.2)) from rfl, e2] at e
          cases e
          obtain ⟨hr2, ex2, t2⟩ := toDs_sound hr1 e2 (r2.ext ex1)
          exact ⟨hr2, ex1.trans ex2, .cons (t1.mono ex2.kp) t2⟩
end
def eTup (fs : SemA) : SemE := fun σ h => rb (fs σ h) fun xs h1 => match toDs xs h1 with
  | some (ds, h2) => if ds.length ≤ 1000 then .ok (.d (.tup ds)) h2 else .bad
  | none => .bad
/-- a list that is never changed -/
def eLv (fs : SemA) : SemE := fun σ h => rb (fs σ h) fun xs h1 => match toDs xs h1 with
  | some (ds, h2) => if ds.length ≤ 1000 then .ok (.d (.lv ds)) h2 else .bad
  | none => .bad
/-- a list that may be changed -/
def eLst (fs : SemA) : SemE := fun σ h => rb (fs σ h) fun xs h1 => match toDs xs h1 with
  | some (ds, h2) => if ds.length ≤ 1000 then .ok (.r h2.length) (h2 ++ [.lst ds]) else .bad
  | none => .bad
def eDk0 : SemE := fun _ h => .ok (.r h.length) (h ++ [.dk []])
def eDt0 : SemE := fun _ h => .ok (.r h.length) (h ++ [.dt []])
section
variable {X : Cx} {ct : CT} {W : WX} {pos : Pos} {e : Expr} {es : List Expr} {f : SemE} {fs : SemA}
theorem le1000 {n : Nat} (h : n ≤ 1000) : n ≤ sizeLine := Nat.le_of_lt (small1000 h)
theorem se_tup {x1} (ha : SA X ct W es fs) : SE X ct W (.Tuple es x1 pos) (eTup fs) :=
  PE.imp (pe_tup ha) fun σV H Q ⟨m, ah, σ, hr, lr, p⟩ => ⟨m, ah, σ, hr, lr, (Po.bind (R := VlRs X.K ct) p).imp fun vs H1 ⟨m1, h1, xs, hr1, e1, r1, p1⟩ => by
    dsimp only at p1
    split at p1
    · rename_i ds h2 e2
      obtain ⟨hr2, ex2, t2⟩ := toDs_sound hr1 e2 r1
      split at p1
      · rename_i hl
        refine ⟨by rw [← t2.length]; exact le1000 hl, fun a ha => p1 m1 _ _ (hr2.pure (o := .tup vs) ha).1 (ex2.trans (hr2.pure (o := .tup vs) ha).2.1) (new_tup t2 (hr2.pure (o := .tup vs) ha).2.1.kp (hr2.freshS ha))⟩
      · exact p1.elim
    · exact p1.elim⟩
theorem se_lv (ha : SA X ct W es fs) : SE X ct W (.List es pos) (eLv fs) :=
  PE.imp (pe_lst ha) fun σV H Q ⟨m, ah, σ, hr, lr, p⟩ => ⟨m, ah, σ, hr, lr, (Po.bind (R := VlRs X.K ct) p).imp fun vs H1 ⟨m1, h1, xs, hr1, e1, r1, p1⟩ => by
    dsimp only at p1
    split at p1
    · rename_i ds h2 e2
      obtain ⟨hr2, ex2, t2⟩ := toDs_sound hr1 e2 r1
      split at p1
      · rename_i hl
        refine ⟨by rw [← t2.length]; exact le1000 hl, fun a ha => p1 m1 _ _ (hr2.pure (o := .lst vs) ha).1 (ex2.trans (hr2.pure (o := .lst vs) ha).2.1) (new_lv t2 (hr2.pure (o := .lst vs) ha).2.1.kp (hr2.freshS ha))⟩
      · exact p1.elim
    · exact p1.elim⟩
theorem at_new {K : PySem.W.Frag} {m : List Addr} {ah : Hs} {H : Hp} (h : HR K ct m ah H) {a : Addr} : (m ++ [a])[ah.length]? = some a := by
  rw [← h.len, List.getElem?_append_right (Nat.le_refl _), Nat.sub_self]; rfl
theorem se_lst (ha : SA X ct W es fs) : SE X ct W (.List es pos) (eLst fs) :=
  PE.imp (pe_lst ha) fun σV H Q ⟨m, ah, σ, hr, lr, p⟩ => ⟨m, ah, σ, hr, lr, (Po.bind (R := VlRs X.K ct) p).imp fun vs H1 ⟨m1, h1, xs, hr1, e1, r1, p1⟩ => by
    dsimp only at p1
    split at p1
    · rename_i ds h2 e2
      obtain ⟨hr2, ex2, t2⟩ := toDs_sound hr1 e2 r1
      split at p1
      · rename_i hl
        refine ⟨by rw [← t2.length]; exact le1000 hl, fun a ha => ?_⟩
        obtain ⟨hr3, ex3⟩ := hr2.alloc ha (OR.lst t2)
        exact p1 _ _ _ hr3 (ex2.trans ex3) ⟨a, at_new hr2, rfl⟩
      · exact p1.elim
    · exact p1.elim⟩
theorem se_dk0 : SE X ct W (.Dict [] [] pos) eDk0 :=
  PE.imp pe_dnewK fun σV H Q ⟨m, ah, σ, hr, lr, p⟩ a ha => by
    obtain ⟨hr3, ex3⟩ := hr.alloc ha (OR.dk (ct := ct) .nil)
    exact p _ _ _ hr3 ex3 ⟨a, at_new hr, rfl⟩
theorem se_dt0 : SE X ct W (.Dict [] [] pos) eDt0 :=
  PE.imp pe_dnewT fun σV H Q ⟨m, ah, σ, hr, lr, p⟩ a ha => by
    obtain ⟨hr3, ex3⟩ := hr.alloc ha (OR.dt (ct := ct) .nil)
    exact p _ _ _ hr3 ex3 ⟨a, at_new hr, rfl⟩
end

/-! ### slices -/
abbrev SemO := Lo → Hs → Res (Option Int)
def rdO (K : PySem.W.Frag) (ct : CT) (W : WX) (f : SemO) : TO := fun σV H Q => ∃ m ah σ, HR K ct m ah H ∧ LR K ct m ah H σ σV ∧ Po K ct W σV (fun _ _ _ b c => b = c) m ah H (f σ ah) Q
theorem PO.imp {X : Cx} {e : Option Expr} {t t' : TO} (h : PO X e t) (i : ∀ σ H Q, t' σ H Q → t σ H Q) : PO X e t' := ⟨fun pins s σ H Q I q => h.run pins s σ H Q I (i _ _ _ q)⟩
abbrev SO (X : Cx) (ct : CT) (W : WX) (e : Option Expr) (f : SemO) : Prop := PO X e (rdO X.K ct W f)
def oNone : SemO := fun _ h => .ok none h
def oSome (f : SemE) : SemO := fun σ h => rb (f σ h) fun x h1 => match x with
  | .d (.int i) => .ok (some i) h1
  | _ => .bad
def cutL {α : Type} (xs : List α) (lo hi : Option Int) : List α := (xs.drop (HT.sIx xs.length 0 lo)).take (HT.sIx xs.length xs.length hi - HT.sIx xs.length 0 lo)
def slO (x : Vl) (lo hi : Option Int) (h : Hs) : Option (Vl × Hs) := match x with
  | .d (.tup xs) => some (.d (.tup (cutL xs lo hi)), h)
  | .d (.str z) => if z.length ≤ sizeLine then some (.d (.str (Txt.slice z lo hi)), h) else none
  | x => (match lstOf x h with
    | some xs => some (.d (.lv (cutL xs lo hi)), h)
    | none => none)
def eSl (f : SemE) (lo hi : SemO) : SemE := fun σ h => rb (f σ h) fun x h1 => rb (lo σ h1) fun a h2 => rb (hi σ h2) fun b h3 => ro (slO x a b h3)
section
variable {X : Cx} {ct : CT} {W : WX} {pos p2 : Pos} {e : Expr} {lo hi : Option Expr} {f : SemE} {l u : SemO}
theorem so_none : SO X ct W none oNone := PO.imp po_none fun σV H Q ⟨m, ah, σ, hr, lr, p⟩ => p m H none hr (Ext.refl _ _ _) rfl
theorem so_some (h : SE X ct W e f) : SO X ct W (some e) (oSome f) := PO.imp (po_some h) fun σV H Q ⟨m, ah, σ, hr, lr, p⟩ => ⟨m, ah, σ, hr, lr, (Po.bind (R := VlR X.K ct) p).imp fun v H1 ⟨m1, h1, x, hr1, e1, r1, p1⟩ => by
  dsimp only at p1
  split at p1
  · cases r1
    exact ⟨_, rfl, p1 m1 H1 _ hr1 (Ext.refl _ _ _) rfl⟩
  · exact p1.elim⟩
theorem cut_drs {K : PySem.W.Frag} {S : Addr → Prop} {H : Hp} {d : List D} {v : List V} (r : DRs K ct S H d v) (lo hi : Option Int) : DRs K ct S H (cutL d lo hi) (cutV v lo hi) := by
  unfold cutL cutV
  rw [r.length]
  exact (r.drop _).take _
theorem cut_whole {α : Type} {xs : List α} {lo hi : Option Int} (h : HT.sIx xs.length 0 lo = 0 ∧ HT.sIx xs.length xs.length hi = xs.length) : cutL xs lo hi = xs := by
  unfold cutL
  rw [h.1, h.2]; simp
def rSlO (K : PySem.W.Frag) (ct : CT) : V → Option Int → Option Int → Hp → VK → Prop := fun x lo hi H Q => ∃ m ah a, HR K ct m ah H ∧ VlR K ct m ah H a x ∧ Pp K ct m ah H (slO a lo hi ah) Q
theorem sl_sound : SlR X (rSlO X.K ct) := by
  refine SlR.imp (sl_tupA.or (SlR.or C8.sl_txt sl_list)) fun x lo hi H Q ⟨m, ah, a, hr, ra, p⟩ => ?_
  unfold slO at p
  split at p
  · obtain ⟨l, vs, rfl, h1, r1⟩ := tup_of ra
    refine .inl ⟨l, vs, rfl, h1, fun hw => ?_, fun hw => p.new hr fun a ha k s => new_tup (cut_drs r1 _ _) k s⟩
    rw [← r1.length] at hw
    rw [cut_whole hw] at p
    exact p.same hr ra
  · cases ra
    split at p
    · rename_i hz
      exact .inr (.inl ⟨_, rfl, hz, p.same hr (.str _)⟩)
    · exact p.elim
  · split at p
    · rename_i xs e
      obtain ⟨l, vs, rfl, h1, r1⟩ := lst_of hr e ra
      exact .inr (.inr ⟨l, vs, rfl, .of h1, p.new hr fun a ha k s => new_lv (cut_drs r1 _ _) k s⟩)
    · exact p.elim
theorem se_slice (he : SE X ct W e f) (hl : SO X ct W lo l) (hh : SO X ct W hi u) : SE X ct W (.Subscript e (.Slice lo hi none p2) pos) (eSl f l u) :=
  PE.imp (pe_slice sl_sound he hl hh) fun σV H Q ⟨m, ah, σ, hr, lr, p⟩ => ⟨m, ah, σ, hr, lr, (Po.bind (R := VlR X.K ct) p).imp fun v H1 ⟨m1, h1, x, hr1, e1, r1, p1⟩ =>
    ⟨m1, h1, σ, hr1, lr.ext e1, (Po.bind (R := fun _ _ _ b c => b = c) p1).imp fun y H2 ⟨m2, h2, y', hr2, e2, r2, p2⟩ =>
      ⟨m2, h2, σ, hr2, (lr.ext e1).ext e2, (Po.bind (R := fun _ _ _ b c => b = c) p2).imp fun z H3 ⟨m3, h3, z', hr3, e3, r3, p3⟩ => by
        subst r2 r3
        exact ⟨m3, h3, x, hr3, (r1.ext e2).ext e3, Pp.of p3⟩⟩⟩⟩
end

/-! ### calls of what is built in -/
abbrev OpN := List Vl → Hs → Option (Vl × Hs)
def rN (K : PySem.W.Frag) (ct : CT) (op : OpN) : List V → Hp → VK → Prop := fun vs H Q => ∃ m ah xs, HR K ct m ah H ∧ VlRs K ct m ah H xs vs ∧ Pp K ct m ah H (op xs ah) Q
def eN (op : OpN) (fs : SemA) : SemE := fun σ h => rb (fs σ h) fun xs h1 => ro (op xs h1)
section
variable {X : Cx} {ct : CT} {W : WX} {pos p : Pos} {e : Expr} {es : List Expr} {fs : SemA} {op : OpN} {x : Str} {id T : String}
theorem rd_n {σV : L2.St} {H : Hp} {Q : VK} (h : rdE X.K ct W (eN op fs) σV H Q) : tCB (rN X.K ct op) (rdA X.K ct W fs) σV H Q := by
  obtain ⟨m, ah, σ, hr, lr, p⟩ := h
  refine ⟨m, ah, σ, hr, lr, (Po.bind (R := VlRs X.K ct) p).imp fun vs H1 ⟨m1, h1, xs, hr1, e1, r1, p1⟩ => ?_⟩
  exact ⟨m1, h1, xs, hr1, r1, Pp.of p1⟩
theorem se_callB (hc : CallR X (.builtin id) (rN X.K ct op)) (hg : Gl X x) (hm : X.mg x = none) (hv : bootBuiltins x = some (.builtin id)) (ha : SA X ct W (e :: es) fs) (hn : x ≠ "__name__" := by decide) (hdb : (x == ("__debug__" : Str)) = false := by decide)
    (he : starEach (e :: es) X.env = (false, eval e X.env) :: starEach es X.env := by rfl) (hpl : (backTo pos (starEach es X.env)).any (·.1) = false := by rfl) : SE X ct W (.Call (.Name x p) (e :: es) [] pos) (eN op fs) := PE.imp (pe_callB hc hg hm hv ha hn hdb he hpl) fun _ _ _ h => rd_n h
theorem se_callTy (hc : CallR X (.type T) (rN X.K ct op)) (hg : Gl X x) (hm : X.mg x = none) (hv : bootBuiltins x = some (.type T)) (ha : SA X ct W (e :: es) fs) (hn : x ≠ "__name__" := by decide) (hdb : (x == ("__debug__" : Str)) = false := by decide)
    (he : starEach (e :: es) X.env = (false, eval e X.env) :: starEach es X.env := by rfl) (hpl : (backTo pos (starEach es X.env)).any (·.1) = false := by rfl) : SE X ct W (.Call (.Name x p) (e :: es) [] pos) (eN op fs) := PE.imp (pe_callTy hc hg hm hv ha hn hdb he hpl) fun _ _ _ h => rd_n h
def nLen : OpN := fun xs h => match xs with
  | [.d (.str y)] => if y.length ≤ sizeLine then some (.d (.int y.length), h) else none
  | [x] => (match seqOf x h with
    | some ys => some (.d (.int ys.length), h)
    | none => none)
  | _ => none
theorem len_sound : CallR X (.builtin "len") (rN X.K ct nLen) := by
  refine CallR.imp call_len fun vs H Q ⟨m, ah, xs, hr, rs, p⟩ => ?_
  unfold nLen at p
  split at p
  · cases rs with
    | cons r t =>
      cases t
      cases r
      split at p
      · rename_i hl
        exact ⟨_, _, rfl, ⟨hl, rfl⟩, p.same hr (.int _)⟩
      · exact p.elim
  · cases rs with
    | cons r t =>
      cases t
      split at p
      · rename_i ys e
        obtain ⟨l, ws, rfl, h1, r1⟩ := seq_of hr e r
        refine ⟨_, _, rfl, h1.imp (fun z => ⟨ws, z, rfl⟩) (fun z => ⟨ws, z, rfl⟩), ?_⟩
        rw [← r1.length]
        exact p.same hr (.int _)
      · exact p.elim
  · exact p.elim
/-- list(x) that is never changed, that may be changed -/
def nListV : OpN := fun xs h => match xs with
  | [x] => (match seqOf x h with
    | some ys => some (.d (.lv ys), h)
    | none => (match x with
      | .d (.scr ys) => some (.d (.lv ys), h)
      | _ => none))
  | _ => none
def nListM : OpN := fun xs h => match xs with
  | [x] => (match seqOf x h with
    | some ys => some (.r h.length, h ++ [.lst ys])
    | none => none)
  | _ => none
theorem listV_sound : CallR X (.type "list") (rN X.K ct nListV) := by
  refine CallR.imp call_list_of fun vs H Q ⟨m, ah, xs, hr, rs, p⟩ => ?_
  unfold nListV at p
  split at p
  · cases rs with
    | cons r t =>
      cases t
      split at p
      · rename_i ys e
        obtain ⟨l, ws, rfl, h1, r1⟩ := seq_of hr e r
        exact ⟨l, ws, rfl, h1, p.new hr fun a ha k s => new_lv r1 k s⟩
      · split at p
        · cases r with
          | scr h1 r1 => exact ⟨_, _, rfl, .inl (h1.imp (fun ⟨⟨o, h⟩, _⟩ => .inr ⟨o, h⟩) id), p.new hr fun a ha k s => new_lv r1 k s⟩
        · exact p.elim
  · exact p.elim
theorem listM_sound : CallR X (.type "list") (rN X.K ct nListM) := by
  refine CallR.imp call_list_of fun vs H Q ⟨m, ah, xs, hr, rs, p⟩ => ?_
  unfold nListM at p
  split at p
  · cases rs with
    | cons r t =>
      cases t
      split at p
      · rename_i ys e
        obtain ⟨l, ws, rfl, h1, r1⟩ := seq_of hr e r
        refine ⟨l, ws, rfl, h1, fun a ha => ?_⟩
        obtain ⟨hr3, ex3⟩ := hr.alloc ha (OR.lst r1)
        exact p _ _ _ hr3 ex3 ⟨a, at_new hr, rfl⟩
      · exact p.elim
  · exact p.elim
def nTuple : OpN := fun xs h => match xs with
  | [x] => (match seqOf x h with
    | some ys => some (.d (.tup ys), h)
    | none => none)
  | _ => none
theorem tuple_sound : CallR X (.type "tuple") (rN X.K ct nTuple) := by
  refine CallR.imp call_tuple_of fun vs H Q ⟨m, ah, xs, hr, rs, p⟩ => ?_
  unfold nTuple at p
  split at p
  · cases rs with
    | cons r t =>
      cases t
      split at p
      · rename_i ys e
        unfold seqOf at e
        split at e
        · cases e
          obtain ⟨l, ws, rfl, h1, r1⟩ := tup_of r
          exact ⟨l, ws, rfl, .inr ⟨h1, p.same hr r⟩⟩
        · cases e
          cases r with
          | lv h1 s1 r1 => exact ⟨_, _, rfl, .inl ⟨.of h1, p.new hr fun a ha k s => new_tup r1 k s⟩⟩
        · rename_i k
          split at e
          · rename_i zs hk
            cases e
            obtain ⟨a, ws, _, rfl, h1, r1⟩ := hr.lstK hk r
            exact ⟨a, ws, rfl, .inl ⟨.of h1, p.new hr fun a ha k s => new_tup r1 k s⟩⟩
          · cases e
        · cases e
      · exact p.elim
  · exact p.elim
def nInt : OpN := fun xs h => match xs with
  | [.d (.int i)] => some (.d (.int i), h)
  | [.d (.bl k)] => some (.d (.int (if k then 1 else 0)), h)
  | _ => none
theorem int_sound : CallR X (.type "int") (rN X.K ct nInt) := by
  refine CallR.imp call_int1 fun vs H Q ⟨m, ah, xs, hr, rs, p⟩ => ?_
  unfold nInt at p
  split at p
  · cases rs with
    | cons r t => cases t; cases r; exact .inl ⟨_, rfl, p.same hr (.int _)⟩
  · cases rs with
    | cons r t => cases t; cases r; exact .inr ⟨_, rfl, p.same hr (.int _)⟩
  · exact p.elim
def nAbs : OpN := fun xs h => match xs with
  | [.d (.int i)] => some (.d (.int (if i < 0 then -i else i)), h)
  | _ => none
theorem abs_sound : CallR X (.builtin "abs") (rN X.K ct nAbs) := by
  refine CallR.imp call_abs fun vs H Q ⟨m, ah, xs, hr, rs, p⟩ => ?_
  unfold nAbs at p
  split at p
  · cases rs with
    | cons r t => cases t; cases r; exact ⟨_, rfl, p.same hr (.int _)⟩
  · exact p.elim
/-- the built-in type's name -/
def tyO (x : Vl) (h : Hs) : Option String := match x with
  | .d .non => some "NoneType" | .d (.bl _) => some "bool" | .d (.int _) => some "int" | .d (.str _) => some "str"
  | .d (.tup _) => some "tuple" | .d (.lv _) => some "list" | .d (.dk _) => some "dict" | .d (.dt _) => some "dict"
  | .r k => (match h[k]? with
    | some (.lst _) => some "list"
    | some (.dk _) => some "dict"
    | some (.dt _) => some "dict"
    | _ => none)
  | _ => none
theorem tyO_sound {K : PySem.W.Frag} {m : List Addr} {ah : Hs} {H : Hp} (hr : HR K ct m ah H) {x : Vl} {v : V} {t : String} (r : VlR K ct m ah H x v) (e : tyO x ah = some t) : TyX K H v (.type t) := by
  unfold tyO at e
  split at e
  · cases e; cases r; exact .base .non
  · cases e; cases r; exact .base (.bl _)
  · cases e; cases r; exact .base (.int _)
  · cases e; cases r; exact .base (.str _)
  · cases e
    cases r with
    | tup h1 h2 =>
      rcases h1 with ⟨h1, _⟩ | ⟨o, its, n, h1, h2, _⟩
      · rcases h1 with h1 | ⟨o, h1⟩
        · exact .base (.tup h1)
        · exact .fTuple h1
      · exact .kTuple h1 h2
  · cases e; cases r with | lv h1 _ _ => exact .base (.lst h1)
  · cases e; cases r with | dk h1 _ _ => exact .base (.dK h1)
  · cases e; cases r with | dt h1 _ _ => exact .base (.dT h1)
  · rename_i k
    obtain ⟨a, h1, rfl⟩ := r
    split at e
    · rename_i hk
      cases e
      obtain ⟨u, h2, h3⟩ := hr.ob k a _ h1 hk
      cases h3; exact .base (.lst h2)
    · rename_i hk
      cases e
      obtain ⟨u, h2, h3⟩ := hr.ob k a _ h1 hk
      cases h3; exact .base (.dK h2)
    · rename_i hk
      cases e
      obtain ⟨u, h2, h3⟩ := hr.ob k a _ h1 hk
      cases h3; exact .base (.dT h2)
    · cases e
  · cases e
end
end Mi

/-! Mi4: statements, targets, loops -/
namespace Mi
open PySem PySem.Spec L2

inductive Fl where
  | nx | ret (v : Vl) | brk | cnt
inductive RS where
  | ok (f : Fl) (σ : Lo) (h : Hs) | exc (e : Ex) (σ : Lo) (h : Hs) | bad
abbrev SemS := Lo → Hs → RS
def PoF (K : PySem.W.Frag) (ct : CT) (D : Ends) (f : Fl) (m : List Addr) (ah : Hs) (H : Hp) (σV : L2.St) : Prop := match f with
  | .nx => D.nx σV H
  | .brk => D.bk σV H
  | .cnt => D.ct σV H
  | .ret v => ∀ u, VlR K ct m ah H v u → D.rt u H
def PoS (K : PySem.W.Frag) (ct : CT) (W : WX) (D : Ends) (m : List Addr) (ah : Hs) (H : Hp) (r : RS) : Prop := match r with
  | .ok f σ' h => ∀ m' H' σV', HR K ct m' h H' → Ext m ah H m' h H' → LR K ct m' h H' σ' σV' → PoF K ct D f m' h H' σV'
  | .exc e σ' h => ∀ m' H' σV' cls d, HR K ct m' h H' → Ext m ah H m' h H' → LR K ct m' h H' σ' σV' → XR K ct (Sf m' h) H' e cls d → W cls d σV' H'
  | .bad => False
def rdS (K : PySem.W.Frag) (ct : CT) (W : WX) (f : SemS) : TS := fun D σV H => ∃ m ah σ, HR K ct m ah H ∧ LR K ct m ah H σ σV ∧ PoS K ct W D m ah H (f σ ah)
abbrev SS (X : Cx) (ct : CT) (W : WX) (st : Stmt) (f : SemS) : Prop := PS X st (rdS X.K ct W f)
abbrev SSs (X : Cx) (ct : CT) (W : WX) (st : List Stmt) (f : SemS) : Prop := PSs X st (rdS X.K ct W f)
/-- from an expression's result -/
def sb {α : Type} (r : Res α) (σ : Lo) (f : α → Hs → RS) : RS := match r with
  | .ok a h => f a h
  | .exc e h => .exc e σ h
  | .bad => .bad
@[simp] theorem sb_ok {α : Type} (a : α) (h : Hs) (σ : Lo) (f : α → Hs → RS) : sb (.ok a h) σ f = f a h := rfl
@[simp] theorem sb_exc {α : Type} (e : Ex) (h : Hs) (σ : Lo) (f : α → Hs → RS) : sb (.exc e h) σ f = .exc e σ h := rfl
@[simp] theorem sb_bad {α : Type} (σ : Lo) (f : α → Hs → RS) : sb .bad σ f = .bad := rfl
def ss (r : RS) (f : SemS) : RS := match r with
  | .ok .nx σ h => f σ h
  | r => r
@[simp] theorem ss_nx (σ : Lo) (h : Hs) (f : SemS) : ss (.ok .nx σ h) f = f σ h := rfl
@[simp] theorem ss_ret (v : Vl) (σ : Lo) (h : Hs) (f : SemS) : ss (.ok (.ret v) σ h) f = .ok (.ret v) σ h := rfl
@[simp] theorem ss_brk (σ : Lo) (h : Hs) (f : SemS) : ss (.ok .brk σ h) f = .ok .brk σ h := rfl
@[simp] theorem ss_cnt (σ : Lo) (h : Hs) (f : SemS) : ss (.ok .cnt σ h) f = .ok .cnt σ h := rfl
@[simp] theorem ss_exc (e : Ex) (σ : Lo) (h : Hs) (f : SemS) : ss (.exc e σ h) f = .exc e σ h := rfl
@[simp] theorem ss_bad (f : SemS) : ss .bad f = .bad := rfl
section
variable {K : PySem.W.Frag} {ct : CT} {W : WX} {D : Ends} {m m' : List Addr} {ah ah' : Hs} {H H' : Hp} {α β : Type}
theorem PoS.ext {r : RS} (p : PoS K ct W D m ah H r) (e : Ext m ah H m' ah' H') : PoS K ct W D m' ah' H' r := by
  cases r with
  | ok f σ h => exact fun m2 H2 σ2 h2 e2 l2 => p m2 H2 σ2 h2 (e.trans e2) l2
  | exc x σ h => exact fun m2 H2 σ2 c d h2 e2 l2 r2 => p m2 H2 σ2 c d h2 (e.trans e2) l2 r2
  | bad => exact p
/-- what a value is worth for the statement -/
theorem PoS.bind {R : List Addr → Hs → Hp → α → β → Prop} {r : Res α} {g : α → Hs → RS} {σ : Lo} {σV : L2.St} (lr : LR K ct m ah H σ σV) (p : PoS K ct W D m ah H (sb r σ g)) :
    Po K ct W σV R m ah H r (Mid K ct m ah H R fun m1 h1 H1 x => PoS K ct W D m1 h1 H1 (g x h1)) := by
  cases r with
  | ok x h => exact fun m2 H2 v h2 e2 r2 => ⟨m2, h, x, h2, e2, r2, PoS.ext (r := g x h) p e2⟩
  | exc x h => exact fun m2 H2 c d h2 e2 r2 => p m2 H2 σV c d h2 e2 (lr.ext e2) r2
  | bad => exact p
theorem PoS.nx {σ : Lo} {σV : L2.St} (hr : HR K ct m ah H) (lr : LR K ct m ah H σ σV) (p : PoS K ct W D m ah H (.ok .nx σ ah)) : D.nx σV H := p m H σV hr (Ext.refl _ _ _) lr
/-- another end, wherever the first one is met -/
theorem PoS.imp {D' : Ends} {r : RS} (p : PoS K ct W D m ah H r)
    (i : ∀ f σ' h m' H' σV', r = .ok f σ' h → HR K ct m' h H' → Ext m ah H m' h H' → LR K ct m' h H' σ' σV' → PoF K ct D f m' h H' σV' → PoF K ct D' f m' h H' σV') : PoS K ct W D' m ah H r := by
  cases r with
  | ok f σ h => exact fun m2 H2 σ2 h2 e2 l2 => i f σ h m2 H2 σ2 rfl h2 e2 l2 (p m2 H2 σ2 h2 e2 l2)
  | exc x σ h => exact p
  | bad => exact p
end

/-! ### blocks and small statements -/
def sNil : SemS := fun σ h => .ok .nx σ h
def sSq (f g : SemS) : SemS := fun σ h => ss (f σ h) g
def sEx (f : SemE) : SemS := fun σ h => sb (f σ h) σ fun _ h1 => .ok .nx σ h1
def sRt (f : SemE) : SemS := fun σ h => sb (f σ h) σ fun x h1 => .ok (.ret x) σ h1
def sRtN : SemS := fun σ h => .ok (.ret (.d .non)) σ h
def sIf (t : SemT) (f g : SemS) : SemS := fun σ h => sb (t σ h) σ fun b h1 => if b = true then f σ h1 else g σ h1
def sBrk : SemS := fun σ h => .ok .brk σ h
def sCnt : SemS := fun σ h => .ok .cnt σ h
def sBad : SemS := fun _ _ => .bad
/-- a list at a name is never changed from here on -/
def sFrz (i : Nat) : SemS := fun σ h => match σ[i]? with
  | some (some x) => (match toD x h with
    | some (d, h1) => .ok .nx (σ.set i (some (.d d))) h1
    | none => .bad)
  | _ => .bad
section
variable {X : Cx} {ct : CT} {W : WX} {pos : Pos} {e c : Expr} {f : SemE} {t : SemT} {st : Stmt} {rest a b : List Stmt} {u v : SemS}
theorem sss_nil : SSs X ct W [] sNil := PSs.imp pss_nil fun D σV H ⟨m, ah, σ, hr, lr, p⟩ => p.nx hr lr
theorem rd_seq {D : Ends} {σV : L2.St} {H : Hp} (h : rdS X.K ct W (sSq u v) D σV H) : tSeq (rdS X.K ct W u) (rdS X.K ct W v) D σV H := by
  obtain ⟨m, ah, σ, hr, lr, p⟩ := h
  refine ⟨m, ah, σ, hr, lr, ?_⟩
  unfold sSq at p
  cases e : u σ ah with
  | ok f σ' h =>
    rw [e] at p
    cases f with
    | nx => exact fun m2 H2 σ2 h2 e2 l2 => ⟨m2, h, σ', h2, l2, PoS.ext (r := v σ' h) p e2⟩
    | ret x => exact p
    | brk => exact p
    | cnt => exact p
  | exc x σ' h => rw [e] at p; exact p
  | bad => rw [e] at p; exact p.elim
theorem sss_cons (h1 : SS X ct W st u) (h2 : SSs X ct W rest v) : SSs X ct W (st :: rest) (sSq u v) := PSs.imp (pss_cons h1 h2) fun _ _ _ h => rd_seq h
theorem sss_one (h1 : SS X ct W st u) : SSs X ct W [st] u := pss_one h1
/-- a remark of ours ahead of a block: the list at slot i is frozen -/
theorem sss_frz {i : Nat} (h2 : SSs X ct W rest v) : SSs X ct W rest (sSq (sFrz i) v) := PSs.imp h2 fun D σV H ⟨m, ah, σ, hr, lr, p⟩ => by
  unfold sSq sFrz at p
  cases e : σ[i]? with
  | none => rw [e] at p; exact p.elim
  | some o =>
    cases o with
    | none => rw [e] at p; exact p.elim
    | some x =>
      rw [e] at p
      dsimp only at p
      cases e2 : toD x ah with
      | none => rw [e2] at p; exact p.elim
      | some q =>
        obtain ⟨d, h1⟩ := q
        rw [e2] at p
        obtain ⟨y, hy, r⟩ := lr.at_ i x e
        obtain ⟨hr1, ex1, r1⟩ := toD_sound hr e2 r
        have l1 : LR X.K ct m h1 H (σ.set i (some (.d d))) σV := by
          refine ⟨by rw [List.length_set]; exact lr.len, fun j z hz => ?_⟩
          by_cases q : i = j
          · subst q
            rw [List.getElem?_set_self (List.getElem?_eq_some_iff.mp e).1] at hz
            cases hz
            exact ⟨y, hy, r1⟩
          · rw [List.getElem?_set_ne q] at hz
            exact (lr.ext ex1).at_ j z hz
        exact ⟨m, h1, _, hr1, l1, PoS.ext (r := v (σ.set i (some (.d d))) h1) p ex1⟩
theorem sss_never {sts : List Stmt} : SSs X ct W sts sBad := PSs.imp pss_never fun D σV H ⟨m, ah, σ, hr, lr, p⟩ => p
theorem ss_never : SS X ct W st sBad := PS.imp ps_never fun D σV H ⟨m, ah, σ, hr, lr, p⟩ => p
theorem ss_pass : SS X ct W (.Pass pos) sNil := PS.imp ps_pass fun D σV H ⟨m, ah, σ, hr, lr, p⟩ => p.nx hr lr
theorem ss_break : SS X ct W (.Break pos) sBrk := PS.imp ps_break fun D σV H ⟨m, ah, σ, hr, lr, p⟩ => p m H σV hr (Ext.refl _ _ _) lr
theorem ss_continue : SS X ct W (.Continue pos) sCnt := PS.imp ps_continue fun D σV H ⟨m, ah, σ, hr, lr, p⟩ => p m H σV hr (Ext.refl _ _ _) lr
theorem ss_expr (he : SE X ct W e f) (hs : swapsWith e none pos.line X.env = pure false := by rfl) : SS X ct W (.Expr e pos) (sEx f) :=
  PS.imp (ps_expr he hs) fun D σV H ⟨m, ah, σ, hr, lr, p⟩ => ⟨m, ah, σ, hr, lr, (PoS.bind (R := VlR X.K ct) lr p).imp fun x H1 ⟨m1, h1, y, hr1, e1, r1, p1⟩ => PoS.nx hr1 (lr.ext e1) p1⟩
theorem ss_ret' (he : SE X ct W e f) : SS X ct W (.Return (some e) pos) (sRt f) :=
  PS.imp (ps_ret he) fun D σV H ⟨m, ah, σ, hr, lr, p⟩ => ⟨m, ah, σ, hr, lr, (PoS.bind (R := VlR X.K ct) lr p).imp fun x H1 ⟨m1, h1, y, hr1, e1, r1, p1⟩ => p1 m1 H1 σV hr1 (Ext.refl _ _ _) (lr.ext e1) x r1⟩
theorem ss_retN : SS X ct W (.Return none pos) sRtN := PS.imp ps_retN fun D σV H ⟨m, ah, σ, hr, lr, p⟩ => p m H σV hr (Ext.refl _ _ _) lr .non .non
theorem ss_if (hc : ST X ct W c t) (ha : SSs X ct W a u) (hb : SSs X ct W b v) : SS X ct W (.If c a b pos) (sIf t u v) :=
  PS.imp (ps_if hc ha hb) fun D σV H ⟨m, ah, σ, hr, lr, p⟩ => ⟨m, ah, σ, hr, lr, (PoS.bind (R := fun _ _ _ b c => b = c) lr p).imp fun x H1 ⟨m1, h1, y, hr1, e1, r1, p1⟩ => by
    subst r1
    dsimp only at p1
    cases y with
    | true => exact ⟨m1, h1, σ, hr1, lr.ext e1, p1⟩
    | false => exact ⟨m1, h1, σ, hr1, lr.ext e1, p1⟩⟩
end

/-! ### targets -/
abbrev SemG := Vl → Lo → Hs → Option (Lo × Hs)
abbrev SemGs := List D → Lo → Hs → Option (Lo × Hs)
def PoG (K : PySem.W.Frag) (ct : CT) (m : List Addr) (ah : Hs) (H : Hp) (o : Option (Lo × Hs)) (Q : L2.St → Hp → Prop) : Prop := match o with
  | some (σ', h) => ∀ m' H' σV', HR K ct m' h H' → Ext m ah H m' h H' → LR K ct m' h H' σ' σV' → Q σV' H'
  | none => False
def rdG (K : PySem.W.Frag) (ct : CT) (g : SemG) : TG := fun v σV H Q => ∃ m ah σ x, HR K ct m ah H ∧ LR K ct m ah H σ σV ∧ VlR K ct m ah H x v ∧ PoG K ct m ah H (g x σ ah) Q
def rdGs (K : PySem.W.Frag) (ct : CT) (g : SemGs) : TGs := fun vs σV H Q => ∃ m ah σ xs, HR K ct m ah H ∧ LR K ct m ah H σ σV ∧ DRs K ct (Sf m ah) H xs vs ∧ PoG K ct m ah H (g xs σ ah) Q
theorem PG.imp {X : Cx} {e : Expr} {t t' : TG} (h : PG X e t) (i : ∀ v σ H Q, t' v σ H Q → t v σ H Q) : PG X e t' := ⟨fun pins s σ H v u Q I r q => h.run pins s σ H v u Q I r (i _ _ _ _ q)⟩
theorem PGs.imp {X : Cx} {e : List Expr} {t t' : TGs} (h : PGs X e t) (i : ∀ v σ H Q, t' v σ H Q → t v σ H Q) : PGs X e t' := ⟨fun pins s σ H v u Q I r q => h.run pins s σ H v u Q I r (i _ _ _ _ q)⟩
abbrev SG (X : Cx) (ct : CT) (e : Expr) (g : SemG) : Prop := PG X e (rdG X.K ct g)
abbrev SGs (X : Cx) (ct : CT) (e : List Expr) (g : SemGs) : Prop := PGs X e (rdGs X.K ct g)
def gNm (i : Nat) : SemG := fun x σ h => some (σ.set i (some x), h)
def gNi : SemGs := fun xs σ h => match xs with
  | [] => some (σ, h)
  | _ => none
def gCo (g : SemG) (gs : SemGs) : SemGs := fun xs σ h => match xs with
  | x :: xs => (g (.d x) σ h).bind fun p => gs xs p.1 p.2
  | [] => none
def gTp (n : Nat) (gs : SemGs) : SemG := fun x σ h => match x with
  | .d (.tup xs) => if xs.length = n then gs xs σ h else none
  | _ => none
section
variable {X : Cx} {ct : CT} {W : WX} {pos : Pos} {e : Expr} {es : List Expr} {f : SemE} {g : SemG} {gs : SemGs}
theorem sg_name {i : Nat} {x : Str} (hN : X.N.Nodup) (hi : X.N[i]? = some x) (hx : Loc X.env.scope x) (hf : X.fn x = true ∨ X.env.scope.names.lookup x = some .local := by first | exact .inl rfl | exact .inr rfl | assumption) : SG X ct (.Name x pos) (gNm i) :=
  PG.imp (pg_name hN hi hx hf) fun v σV H Q ⟨m, ah, σ, x, hr, lr, r, p⟩ => p m H _ hr (Ext.refl _ _ _) (lr.set r i)
theorem sgs_nil : SGs X ct [] gNi := PGs.imp pgs_nil fun vs σV H Q ⟨m, ah, σ, xs, hr, lr, r, p⟩ => by
  unfold gNi at p
  split at p
  · cases r
    exact ⟨rfl, p m H _ hr (Ext.refl _ _ _) lr⟩
  · exact p.elim
theorem sgs_cons (h1 : SG X ct e g) (h2 : SGs X ct es gs) (hs : (assignEach (e :: es) X.env).map (·.2) = assign e X.env :: (assignEach es X.env).map (·.2) := by rfl) : SGs X ct (e :: es) (gCo g gs) :=
  PGs.imp (pgs_cons h1 h2 hs) fun vs σV H Q ⟨m, ah, σ, xs, hr, lr, r, p⟩ => by
    unfold gCo at p
    split at p
    · cases r with
      | cons r t =>
        refine ⟨_, _, rfl, m, ah, σ, .d _, hr, lr, r, ?_⟩
        cases q : g (.d _) σ ah with
        | none => rw [q] at p; exact p.elim
        | some z =>
          obtain ⟨σ', h'⟩ := z
          rw [q] at p
          refine fun m2 H2 σ2 h2 e2 l2 => ⟨m2, h', σ', _, h2, l2, t.mono e2.kp, ?_⟩
          dsimp only [Option.bind_some] at p
          revert p
          cases gs _ σ' h' with
          | none => exact fun p => p.elim
          | some z => exact fun p m3 H3 σ3 h3 e3 l3 => p m3 H3 σ3 h3 (e2.trans e3) l3
    · exact p.elim
theorem sg_tup {k n : Nat} (hc : X.calm = true) (h : SGs X ct es gs) (hn : (assignEach es X.env).length = n := by rfl) (hst : (assignEach es X.env).findIdx? (·.1) = none := by rfl) : SG X ct (.Tuple es k pos) (gTp n gs) :=
  PG.imp (pg_tup hc h hn hst) fun v σV H Q ⟨m, ah, σ, x, hr, lr, r, p⟩ => by
    unfold gTp at p
    split at p
    · obtain ⟨l, vs, rfl, h1, r1⟩ := tup_of r
      split at p
      · rename_i hl
        exact ⟨l, vs, rfl, h1, by rw [← r1.length]; exact hl, m, ah, σ, _, hr, lr, r1, p⟩
      · exact p.elim
    · exact p.elim
end
def sAs (f : SemE) (g : SemG) : SemS := fun σ h => sb (f σ h) σ fun x h1 => match g x σ h1 with
  | some (σ', h2) => .ok .nx σ' h2
  | none => .bad
section
variable {X : Cx} {ct : CT} {W : WX} {pos : Pos} {e tg : Expr} {es : List Expr} {f : SemE} {g : SemG} {gs : SemGs}
theorem rd_asg {D : Ends} {σV : L2.St} {H : Hp} (h : rdS X.K ct W (sAs f g) D σV H) : tAsg (rdE X.K ct W f) (rdG X.K ct g) D σV H := by
  obtain ⟨m, ah, σ, hr, lr, p⟩ := h
  refine ⟨m, ah, σ, hr, lr, (PoS.bind (R := VlR X.K ct) lr p).imp fun x H1 ⟨m1, h1, y, hr1, e1, r1, p1⟩ => ⟨m1, h1, σ, y, hr1, lr.ext e1, r1, ?_⟩⟩
  dsimp only at p1
  cases q : g y σ h1 with
  | none => rw [q] at p1; exact p1.elim
  | some z => rw [q] at p1; exact p1
theorem ss_asg (he : SE X ct W e f) (hg : SG X ct tg g) (hs : swapsWithSole [tg] e pos.line X.env = pure false := by rfl) (hw : swappedStores [tg] e X.env = pure none := by rfl)
    (h1 : (assignEach [tg] X.env).map (·.2) = [assign tg X.env] := by rfl) : SS X ct W (.Assign [tg] e pos) (sAs f g) := PS.imp (ps_asg he hg hs hw h1) fun _ _ _ h => rd_asg h
theorem ss_set {i : Nat} {x : Str} {pos' : Pos} (hN : X.N.Nodup) (hi : X.N[i]? = some x) (hx : Loc X.env.scope x) (he : SE X ct W e f) (hs : swapsWith e (some (.Name x pos')) pos.line X.env = pure false := by rfl) (hf : X.fn x = true ∨ X.env.scope.names.lookup x = some .local := by first | exact .inl rfl | exact .inr rfl | assumption) :
    SS X ct W (.Assign [.Name x pos'] e pos) (sAs f (gNm i)) := PS.imp (ps_set hN hi hx he hs hf) fun D σV H h => by
  obtain ⟨m, ah, σ, hr, lr, p⟩ := h
  exact ⟨m, ah, σ, hr, lr, (PoS.bind (R := VlR X.K ct) lr p).imp fun x H1 ⟨m1, h1, y, hr1, e1, r1, p1⟩ => p1 m1 H1 _ hr1 (Ext.refl _ _ _) ((lr.ext e1).set r1 i)⟩
end

/-! ### x op= e at a name -/
def rIp (K : PySem.W.Frag) (ct : CT) (op : Op2) : TIp := rOp K ct op
def sAu (i : Nat) (op : Op2) (f : SemE) : SemS := fun σ h => match σ[i]? with
  | some (some x) => sb (f σ h) σ fun y h1 => match op x y h1 with
    | some (z, h2) => .ok .nx (σ.set i (some z)) h2
    | none => .bad
  | _ => .bad
section
variable {X : Cx} {ct : CT} {W : WX} {pos pos' : Pos} {e : Expr} {f : SemE}
theorem ss_aug {i : Nat} {x : Str} {op : Operator} {o : Op2} (hN : X.N.Nodup) (hi : X.N[i]? = some x) (hx : Loc X.env.scope x) (he : SE X ct W e f) (ho : OpR X (inplaceOp op) (rOp X.K ct o))
    (hf : X.fn x = true ∨ X.env.scope.names.lookup x = some .local := by first | exact .inl rfl | exact .inr rfl | assumption) : SS X ct W (.AugAssign (.Name x pos') op e pos) (sAu i o f) :=
  PS.imp (ps_aug (ti := rOp X.K ct o) hN hi hx he ho hf) fun D σV H h => by
    obtain ⟨m, ah, σ, hr, lr, p⟩ := h
    unfold sAu at p
    cases q : σ[i]? with
    | none => rw [q] at p; exact p.elim
    | some z =>
      cases z with
      | none => rw [q] at p; exact p.elim
      | some z =>
        rw [q] at p
        obtain ⟨v, hv, rv⟩ := lr.at_ i z q
        refine ⟨v, hv, m, ah, σ, hr, lr, (PoS.bind (R := VlR X.K ct) lr p).imp fun y H1 ⟨m1, h1, y', hr1, e1, r1, p1⟩ => ⟨m1, h1, z, y', hr1, rv.ext e1, r1, ?_⟩⟩
        dsimp only at p1
        revert p1
        cases o z y' h1 with
        | none => exact fun p => p.elim
        | some w => exact fun p m2 H2 u h2 e2 r2 => p m2 H2 _ h2 e2 (((lr.ext e1).ext e2).set r2 i)
def oIAdd : Op2 := fun x y h => match x, y with
  | .d (.int i), .d (.int j) => some (.d (.int (i + j)), h)
  | .d (.str a), .d (.str b) => if a.length + b.length ≤ sizeLine then some (.d (.str (a ++ b)), h) else none
  | _, _ => none
theorem iadd_sound : OpR X (inplaceOp .Add) (rOp X.K ct oIAdd) := by
  refine OpR.imp (iop_add.or iop_add_str) fun x y H Q ⟨m, ah, a, b, hr, ra, rb, p⟩ => ?_
  unfold oIAdd at p
  split at p
  · cases ra; cases rb
    exact .inl ⟨_, _, rfl, rfl, p.same hr (.int _)⟩
  · cases ra; cases rb
    split at p
    · rename_i hc
      exact .inr ⟨_, _, rfl, rfl, hc, p.same hr (.str _)⟩
    · exact p.elim
  · exact p.elim
theorem isub_sound : OpR X (inplaceOp .Sub) (rOp X.K ct oSub) := OpR.imp iop_sub fun x y H Q ⟨m, ah, a, b, hr, ra, rb, p⟩ => by
  unfold oSub oI at p
  split at p
  · cases ra; cases rb
    exact ⟨_, _, rfl, rfl, p.same hr (.int _)⟩
  · exact p.elim
end

/-! ### what a for walks -/
abbrev SemI := Lo → Hs → Res (List D)
/-- the iterator hands out the data ds -/
def Wks (K : PySem.W.Frag) (ct : CT) (ds : List D) (m : List Addr) (ah : Hs) (H : Hp) (J : It) : Prop := ∀ m2 h2 H2, HR K ct m2 h2 H2 → Kp (Sf m ah) H (Sf m2 h2) H2 →
  (∀ i, ds.length ≤ i → J.stop i H2) ∧ ∀ (i : Nat) d, ds[i]? = some d → J.go i H2 ∧ ∀ x H3, J.yld i H2 x H3 → HR K ct m2 h2 H3 ∧ Ext m2 h2 H2 m2 h2 H3 ∧ DR K ct (Sf m2 h2) H3 d x
def rdI (K : PySem.W.Frag) (ct : CT) (W : WX) (f : SemI) : TI := fun σV H R => ∃ m ah σ, HR K ct m ah H ∧ LR K ct m ah H σ σV ∧ Po K ct W σV (fun m1 h1 H1 ds J => Wks K ct ds m1 h1 H1 J) m ah H (f σ ah) R
theorem PI.imp {X : Cx} {tg e : Expr} {t t' : TI} (h : PI X tg e t) (i : ∀ σ H Q, t' σ H Q → t σ H Q) : PI X tg e t' := ⟨fun pins s σ H R I q => h.run pins s σ H R I (i _ _ _ q)⟩
abbrev SI (X : Cx) (ct : CT) (W : WX) (tg e : Expr) (f : SemI) : Prop := PI X tg e (rdI X.K ct W f)
theorem Wks.ext {K : PySem.W.Frag} {ct : CT} {ds : List D} {m m' : List Addr} {ah ah' : Hs} {H H' : Hp} {J : It} (w : Wks K ct ds m ah H J) (e : Ext m ah H m' ah' H') : Wks K ct ds m' ah' H' J := fun m2 h2 H2 hr e2 => w m2 h2 H2 hr (e.kp.trans e2)
/-- the data of a list or tuple that is never changed -/
def pureSeq (x : Vl) : Option (List D) := match x with
  | .d (.tup xs) => some xs
  | .d (.lv xs) => some xs
  | _ => none
def pureLst (x : Vl) : Option (List D) := match x with
  | .d (.lv xs) => some xs
  | _ => none
def pureTup (x : Vl) : Option (List D) := match x with
  | .d (.tup xs) => some xs
  | _ => none
def iOf (p : Vl → Option (List D)) (f : SemE) : SemI := fun σ h => rb (f σ h) fun x h1 => match p x with
  | some xs => .ok xs h1
  | none => .bad
abbrev iLs (f : SemE) : SemI := iOf pureLst f
abbrev iTu (f : SemE) : SemI := iOf pureTup f
def rngD (lo : Int) (n : Nat) : List D := (List.range n).map fun (i : Nat) => D.int (lo + i)
def iR1 (f : SemE) : SemI := fun σ h => rb (f σ h) fun x h1 => match x with
  | .d (.int j) => if j < 2 ^ 62 ∧ -(2 ^ 62) ≤ j then .ok (rngD 0 j.toNat) h1 else .bad
  | _ => .bad
def iR2 (f g : SemE) : SemI := fun σ h => rb (f σ h) fun x h1 => rb (g σ h1) fun y h2 => match x, y with
  | .d (.int i), .d (.int j) => if (-(2 ^ 62) ≤ i ∧ i < 2 ^ 62) ∧ -(2 ^ 62) ≤ j ∧ j < 2 ^ 62 then .ok (rngD i (j - i).toNat) h2 else .bad
  | _, _ => .bad
theorem rngD_get (lo : Int) (n i : Nat) : (rngD lo n)[i]? = if i < n then some (D.int (lo + i)) else none := by
  unfold rngD
  rw [List.getElem?_map]
  by_cases h : i < n
  · rw [List.getElem?_range h, if_pos h]; rfl
  · rw [List.getElem?_eq_none (by simpa using h), if_neg h]; rfl
theorem rngD_len (lo : Int) (n : Nat) : (rngD lo n).length = n := by simp [rngD]
section
variable {K : PySem.W.Frag} {ct : CT} {m : List Addr} {ah : Hs} {H : Hp}
theorem wks_rng (lo : Int) (n : Nat) : Wks K ct (rngD lo n) m ah H (Itr lo n) := fun m2 h2 H2 hr ex => by
  refine ⟨fun i hi => by rw [rngD_len] at hi; exact hi, fun i d hd => ?_⟩
  rw [rngD_get] at hd
  split at hd
  · rename_i hi
    cases hd
    refine ⟨hi, fun x H3 hy => ?_⟩
    obtain ⟨rfl, rfl⟩ := hy
    exact ⟨hr, Ext.refl _ _ _, .int _⟩
  · cases hd
end
theorem pureLst_of {K : PySem.W.Frag} {ct : CT} {m : List Addr} {ah : Hs} {H : Hp} {x : Vl} {ds : List D} {v : V} (e : pureLst x = some ds) (r : VlR K ct m ah H x v) : ∃ a vs, v = .ref a ∧ (H a = some (.lst vs) ∨ ∃ o, H a = some (.frz o (.lst vs))) ∧ Sf m ah a ∧ DRs K ct (Sf m ah) H ds vs := by
  unfold pureLst at e
  split at e
  · cases e
    cases r with
    | lv h s t => exact ⟨_, _, rfl, .inl h, s, t⟩
  · cases e
end Mi

/-! Mi5: what a for walks; loops -/
namespace Mi
open PySem PySem.Spec L2

section
variable {K : PySem.W.Frag} {ct : CT} {m : List Addr} {ah : Hs} {H : Hp}
theorem sqL_uniq {a : Addr} {xs ys : List V} (h : H a = some (.lst xs) ∨ ∃ o, H a = some (.frz o (.lst xs))) : SqL K H a xs := h.elim (fun h => .of h) fun ⟨o, h⟩ => .inl (.inr ⟨o, h⟩)
/-- a yield that is told of every list that may be read there -/
theorem wks_list {a : Addr} {ds : List D} {vs : List V} (h : H a = some (.lst vs) ∨ ∃ o, H a = some (.frz o (.lst vs))) (s : Sf m ah a) (r : DRs K ct (Sf m ah) H ds vs) : Wks K ct ds m ah H (Itl K a) := fun m2 h2 H2 hr ex => by
  have h' : SqL K H2 a vs := sqL_uniq (ys := vs) (h.imp (fun h => (ex _ _ h s).1) fun ⟨o, h⟩ => ⟨o, (ex _ _ h s).1⟩)
  have r' := r.mono ex
  refine ⟨fun i hi => ⟨vs, h', by rw [← r.length]; exact hi⟩, fun i d hd => ?_⟩
  obtain ⟨y, hy, ry⟩ := r'.get hd
  refine ⟨⟨vs, y, h', hy⟩, fun x H3 hx => ?_⟩
  obtain ⟨rfl, hx⟩ := hx
  have e := hx vs h'
  rw [hy] at e
  cases e
  exact ⟨hr, Ext.refl _ _ _, ry⟩
theorem sqT_ext {S S' : Addr → Prop} {H' : Hp} {a : Addr} {vs : List V} (k : Kp S H S' H') (h : (Rd H a (.tup vs) ∧ S a) ∨ TupW K a vs) : (Rd H' a (.tup vs) ∧ S' a) ∨ TupW K a vs := h.imp (fun ⟨a, b⟩ => k.rd a b) id
theorem sqT_of {S : Addr → Prop} {a : Addr} {vs : List V} (h : (Rd H a (.tup vs) ∧ S a) ∨ TupW K a vs) : SqT K H a vs := h.imp (fun z => z.1) id
theorem wks_tup {a : Addr} {ds : List D} {vs : List V} (h : (Rd H a (.tup vs) ∧ Sf m ah a) ∨ TupW K a vs) (r : DRs K ct (Sf m ah) H ds vs) : Wks K ct ds m ah H (Itt K a) := fun m2 h2 H2 hr ex => by
  have h' : SqT K H2 a vs := sqT_of (sqT_ext ex h)
  have r' := r.mono ex
  refine ⟨fun i hi => ⟨vs, h', by rw [← r.length]; exact hi⟩, fun i d hd => ?_⟩
  obtain ⟨y, hy, ry⟩ := r'.get hd
  refine ⟨⟨vs, y, h', hy⟩, fun x H3 hx => ?_⟩
  obtain ⟨rfl, hx⟩ := hx
  have e := hx vs h'
  rw [hy] at e
  cases e
  exact ⟨hr, Ext.refl _ _ _, ry⟩
def enumD (ds : List D) : List D := (List.range ds.length).map fun (i : Nat) => D.tup [.int (i : Nat), ds.getD i .non]
theorem enumD_get (ds : List D) (i : Nat) : (enumD ds)[i]? = (ds[i]?).map fun d => D.tup [.int (i : Nat), d] := by
  unfold enumD
  rw [List.getElem?_map]
  by_cases h : i < ds.length
  · rw [List.getElem?_range h, List.getElem?_eq_getElem h]
    simp [List.getD, List.getElem?_eq_getElem h]
  · rw [List.getElem?_eq_none (by simpa using h), List.getElem?_eq_none (by omega)]; rfl
theorem enumD_len (ds : List D) : (enumD ds).length = ds.length := by simp [enumD]
/-- a new pair -/
theorem pair_new {m2 : List Addr} {h2 : Hs} {H2 : Hp} (hr : HR K ct m2 h2 H2) {T : Addr} (hT : H2 T = none) {x y : V} {d e : D} (rx : DR K ct (Sf m2 h2) H2 d x) (ry : DR K ct (Sf m2 h2) H2 e y) :
    HR K ct m2 h2 (upd H2 T (.tup [x, y])) ∧ Ext m2 h2 H2 m2 h2 (upd H2 T (.tup [x, y])) ∧ DR K ct (Sf m2 h2) (upd H2 T (.tup [x, y])) (.tup [d, e]) (.ref T) :=
  ⟨(hr.pure (o := .tup [x, y]) hT).1, (hr.pure (o := .tup [x, y]) hT).2.1, new_tup (.cons rx (.cons ry .nil)) (hr.pure (o := .tup [x, y]) hT).2.1.kp (hr.freshS hT)⟩
theorem wks_enum {a : Addr} {ds : List D} {vs : List V} (h : H a = some (.lst vs) ∨ ∃ o, H a = some (.frz o (.lst vs))) (s : Sf m ah a) (r : DRs K ct (Sf m ah) H ds vs) : Wks K ct (enumD ds) m ah H (Ite K a) := fun m2 h2 H2 hr ex => by
  have h' : SqL K H2 a vs := sqL_uniq (ys := vs) (h.imp (fun h => (ex _ _ h s).1) fun ⟨o, h⟩ => ⟨o, (ex _ _ h s).1⟩)
  have r' := r.mono ex
  refine ⟨fun i hi => ⟨vs, h', by rw [← r.length]; rw [enumD_len] at hi; exact hi⟩, fun i d hd => ?_⟩
  rw [enumD_get] at hd
  cases q : ds[i]? with
  | none => rw [q] at hd; cases hd
  | some d0 =>
    rw [q] at hd; cases hd
    obtain ⟨y, hy, ry⟩ := r'.get q
    refine ⟨⟨vs, y, h', hy⟩, fun x H3 hx => ?_⟩
    obtain ⟨T, x1, rfl, hT, rfl, hx⟩ := hx
    have e := hx vs h'
    rw [hy] at e
    cases e
    exact pair_new hr hT (.int _) ry
def zipD (xs ys : List D) : List D := List.zipWith (fun x y => D.tup [x, y]) xs ys
theorem zipD_get {xs ys : List D} {i : Nat} {d : D} (h : (zipD xs ys)[i]? = some d) : ∃ x y, xs[i]? = some x ∧ ys[i]? = some y ∧ d = .tup [x, y] := by
  unfold zipD at h
  rw [List.getElem?_zipWith] at h
  split at h
  · rename_i x y hx hy
    cases h
    exact ⟨x, y, hx, hy, rfl⟩
  · cases h
theorem zipD_len (xs ys : List D) : (zipD xs ys).length = min xs.length ys.length := by simp [zipD]
theorem wks_zip {a b : Addr} {ds es : List D} {vs ws : List V} (h : H a = some (.lst vs) ∨ ∃ o, H a = some (.frz o (.lst vs))) (s : Sf m ah a) (r : DRs K ct (Sf m ah) H ds vs)
    (g : H b = some (.lst ws) ∨ ∃ o, H b = some (.frz o (.lst ws))) (s2 : Sf m ah b) (r2 : DRs K ct (Sf m ah) H es ws) : Wks K ct (zipD ds es) m ah H (Itz K a b) := fun m2 h2 H2 hr ex => by
  have h' : SqL K H2 a vs := sqL_uniq (ys := vs) (h.imp (fun h => (ex _ _ h s).1) fun ⟨o, h⟩ => ⟨o, (ex _ _ h s).1⟩)
  have g' : SqL K H2 b ws := sqL_uniq (ys := ws) (g.imp (fun h => (ex _ _ h s2).1) fun ⟨o, h⟩ => ⟨o, (ex _ _ h s2).1⟩)
  have r' := r.mono ex
  have r2' := r2.mono ex
  refine ⟨fun i hi => ⟨vs, ws, h', g', by rw [zipD_len, r.length, r2.length] at hi; omega⟩, fun i d hd => ?_⟩
  obtain ⟨x0, y0, h1, h2', rfl⟩ := zipD_get hd
  obtain ⟨x, hx, rx⟩ := r'.get h1
  obtain ⟨y, hy, ry⟩ := r2'.get h2'
  refine ⟨⟨vs, ws, x, y, h', g', hx, hy⟩, fun z H3 hz => ?_⟩
  obtain ⟨T, x1, y1, rfl, hT, rfl, f1, f2⟩ := hz
  have e1 := f1 vs h'
  have e2 := f2 ws g'
  rw [hx] at e1
  rw [hy] at e2
  cases e1; cases e2
  exact pair_new hr hT rx ry
theorem wks_zipT {a b : Addr} {ds es : List D} {vs ws : List V} (h : (Rd H a (.tup vs) ∧ Sf m ah a) ∨ TupW K a vs) (r : DRs K ct (Sf m ah) H ds vs)
    (g : (Rd H b (.tup ws) ∧ Sf m ah b) ∨ TupW K b ws) (r2 : DRs K ct (Sf m ah) H es ws) : Wks K ct (zipD ds es) m ah H (RZ.ItzT K a b) := fun m2 h2 H2 hr ex => by
  have h' : SqT K H2 a vs := sqT_of (sqT_ext ex h)
  have g' : SqT K H2 b ws := sqT_of (sqT_ext ex g)
  have r' := r.mono ex
  have r2' := r2.mono ex
  refine ⟨fun i hi => ⟨vs, ws, h', g', by rw [zipD_len, r.length, r2.length] at hi; omega⟩, fun i d hd => ?_⟩
  obtain ⟨x0, y0, h1, h2', rfl⟩ := zipD_get hd
  obtain ⟨x, hx, rx⟩ := r'.get h1
  obtain ⟨y, hy, ry⟩ := r2'.get h2'
  refine ⟨⟨vs, ws, x, y, h', g', hx, hy⟩, fun z H3 hz => ?_⟩
  obtain ⟨T, x1, y1, rfl, hT, rfl, f1, f2⟩ := hz
  have e1 := f1 vs h'
  have e2 := f2 ws g'
  rw [hx] at e1
  rw [hy] at e2
  cases e1; cases e2
  exact pair_new hr hT rx ry
end
def strD (x : Str) : List D := x.cps.toList.map fun c => D.str ⟨#[c]⟩
theorem wks_str {K : PySem.W.Frag} {ct : CT} {m : List Addr} {ah : Hs} {H : Hp} (x : Str) : Wks K ct (strD x) m ah H (Its x) := fun m2 h2 H2 hr ex => by
  refine ⟨fun i hi => by unfold strD at hi; rw [List.length_map, Array.length_toList] at hi; exact hi, fun i d hd => ?_⟩
  unfold strD at hd
  rw [List.getElem?_map, Array.getElem?_toList] at hd
  cases q : x.cps[i]? with
  | none => rw [q] at hd; cases hd
  | some c =>
    rw [q] at hd; cases hd
    refine ⟨(Array.getElem?_eq_some_iff.mp q).1, fun v H3 hv => ?_⟩
    obtain ⟨rfl, c', hc, rfl⟩ := hv
    rw [q] at hc; cases hc
    exact ⟨hr, Ext.refl _ _ _, .str _⟩
def iEn (f : SemA) : SemI := fun σ h => rb (f σ h) fun xs h1 => match xs with
  | [x] => (match pureLst x with
    | some ds => .ok (enumD ds) h1
    | none => .bad)
  | _ => .bad
def iZp (f : SemA) : SemI := fun σ h => rb (f σ h) fun xs h1 => match xs with
  | [x, y] => (match pureLst x, pureLst y with
    | some ds, some es => .ok (zipD ds es) h1
    | _, _ => (match pureTup x, pureTup y with
      | some ds, some es => .ok (zipD ds es) h1
      | _, _ => .bad))
  | _ => .bad
def iSt (f : SemE) : SemI := fun σ h => rb (f σ h) fun x h1 => match x with
  | .d (.str z) => .ok (strD z) h1
  | _ => .bad
/-- a small number, told without reckoning on its sign -/
def smI (j : Int) : Bool := Nat.ble j.natAbs 1000000000
theorem smI_ok {j : Int} (h : smI j = true) : j < 2 ^ 62 ∧ -(2 ^ 62) ≤ j := by
  have := Nat.le_of_ble_eq_true h
  omega
def iA1 (f : SemA) : SemI := fun σ h => rb (f σ h) fun xs h1 => match xs with
  | [.d (.int j)] => if smI j = true then .ok (rngD 0 j.toNat) h1 else .bad
  | _ => .bad
def iA2 (f : SemA) : SemI := fun σ h => rb (f σ h) fun xs h1 => match xs with
  | [.d (.int i), .d (.int j)] => if smI i = true ∧ smI j = true then .ok (rngD i (j - i).toNat) h1 else .bad
  | _ => .bad
section
variable {X : Cx} {ct : CT} {W : WX} {tg e e2 : Expr} {f : SemE} {fs : SemA} {p pos tpos : Pos} {elts : List Expr} {kk : Nat}
theorem si_list (he : SE X ct W e f) : SI X ct W tg e (iLs f) :=
  PI.imp (pi_list he) fun σV H R ⟨m, ah, σ, hr, lr, p⟩ => ⟨m, ah, σ, hr, lr, (Po.bind (R := VlR X.K ct) p).imp fun v H1 ⟨m1, h1, x, hr1, e1, r1, p1⟩ => by
    dsimp only at p1
    split at p1
    · rename_i ds q
      obtain ⟨a, vs, rfl, h, s, r⟩ := pureLst_of q r1
      exact ⟨a, rfl, ⟨vs, sqL_uniq (ys := vs) h⟩, p1 m1 H1 _ hr1 (Ext.refl _ _ _) (wks_list h s r)⟩
    · exact p1.elim⟩
theorem si_tup (he : SE X ct W e f) : SI X ct W tg e (iTu f) :=
  PI.imp (pi_tup he) fun σV H R ⟨m, ah, σ, hr, lr, p⟩ => ⟨m, ah, σ, hr, lr, (Po.bind (R := VlR X.K ct) p).imp fun v H1 ⟨m1, h1, x, hr1, e1, r1, p1⟩ => by
    dsimp only at p1
    split at p1
    · rename_i ds q
      unfold pureTup at q
      split at q
      · cases q
        cases r1 with
        | tup h r => exact ⟨_, rfl, ⟨_, sqT_of h⟩, p1 m1 H1 _ hr1 (Ext.refl _ _ _) (wks_tup h r)⟩
      · cases q
    · exact p1.elim⟩
theorem si_rng1 (hg : Gl X "range") (hm : X.mg "range" = none) (ha : SA X ct W [e] fs) (hs : starEach [e] X.env = [(false, eval e X.env)] := by rfl) : SI X ct W tg (.Call (.Name "range" p) [e] [] pos) (iA1 fs) :=
  PI.imp (pi_range1 hg hm ha hs) fun σV H R ⟨m, ah, σ, hr, lr, p⟩ => ⟨m, ah, σ, hr, lr, (Po.bind (R := VlRs X.K ct) p).imp fun vs H1 ⟨m1, h1, x, hr1, e1, r1, p1⟩ => by
    dsimp only at p1
    split at p1
    · rename_i j
      cases r1 with
      | cons r t =>
        cases t; cases r
        split at p1
        · rename_i hj
          exact ⟨j, rfl, (smI_ok hj).2, (smI_ok hj).1, p1 m1 H1 _ hr1 (Ext.refl _ _ _) (wks_rng 0 _)⟩
        · exact p1.elim
    · exact p1.elim⟩
theorem si_rng2 (hg : Gl X "range") (hm : X.mg "range" = none) (ha : SA X ct W [e, e2] fs) (hs : starEach [e, e2] X.env = [(false, eval e X.env), (false, eval e2 X.env)] := by rfl) (hs2 : starEach [e2] X.env = [(false, eval e2 X.env)] := by rfl) :
    SI X ct W tg (.Call (.Name "range" p) [e, e2] [] pos) (iA2 fs) :=
  PI.imp (pi_range2 hg hm ha hs hs2) fun σV H R ⟨m, ah, σ, hr, lr, p⟩ => ⟨m, ah, σ, hr, lr, (Po.bind (R := VlRs X.K ct) p).imp fun vs H1 ⟨m1, h1, x, hr1, e1, r1, p1⟩ => by
    dsimp only at p1
    split at p1
    · rename_i i j
      cases r1 with
      | cons r t =>
        cases t with
        | cons r2 t =>
          cases t; cases r; cases r2
          split at p1
          · rename_i hj
            exact ⟨i, j, rfl, ⟨(smI_ok hj.1).2, (smI_ok hj.1).1, (smI_ok hj.2).2, (smI_ok hj.2).1⟩, p1 m1 H1 _ hr1 (Ext.refl _ _ _) (wks_rng i _)⟩
          · exact p1.elim
    · exact p1.elim⟩
theorem si_enum (hg : Gl X "enumerate") (hm : X.mg "enumerate" = none) (ha : SA X ct W [e] fs) (hs : starEach [e] X.env = [(false, eval e X.env)] := by rfl) : SI X ct W (.Tuple elts kk tpos) (.Call (.Name "enumerate" p) [e] [] pos) (iEn fs) :=
  PI.imp (pi_enum hg hm ha hs) fun σV H R ⟨m, ah, σ, hr, lr, p⟩ => ⟨m, ah, σ, hr, lr, (Po.bind (R := VlRs X.K ct) p).imp fun vs H1 ⟨m1, h1, x, hr1, e1, r1, p1⟩ => by
    dsimp only at p1
    split at p1
    · cases r1 with
      | cons r t =>
        cases t
        split at p1
        · rename_i ds q
          obtain ⟨a, vs, rfl, h, s, r⟩ := pureLst_of q r
          exact ⟨a, vs, rfl, sqL_uniq (ys := vs) h, p1 m1 H1 _ hr1 (Ext.refl _ _ _) (wks_enum h s r)⟩
        · exact p1.elim
    · exact p1.elim⟩
theorem si_zip (hg : Gl X "zip") (hm : X.mg "zip" = none) (ha : SA X ct W [e, e2] fs)
    (hs : starEach [e, e2] X.env = (false, eval e X.env) :: starEach [e2] X.env := by rfl) (hpl : (backTo pos (starEach [e2] X.env)).any (·.1) = false := by rfl) :
    SI X ct W (.Tuple elts kk tpos) (.Call (.Name "zip" p) [e, e2] [] pos) (iZp fs) :=
  PI.imp (RZ.pi_zipA hg hm ha hs hpl) fun σV H R ⟨m, ah, σ, hr, lr, p⟩ => ⟨m, ah, σ, hr, lr, (Po.bind (R := VlRs X.K ct) p).imp fun vs H1 ⟨m1, h1, x, hr1, e1, r1, p1⟩ => by
    dsimp only at p1
    split at p1
    · cases r1 with
      | cons r t =>
        cases t with
        | cons r2 t =>
          cases t
          split at p1
          · rename_i ds es q1 q2
            obtain ⟨a, vs, rfl, h, s, r⟩ := pureLst_of q1 r
            obtain ⟨b, ws, rfl, h2, s2, r2⟩ := pureLst_of q2 r2
            exact ⟨a, b, vs, ws, rfl, .inl ⟨sqL_uniq (ys := vs) h, sqL_uniq (ys := ws) h2, p1 m1 H1 _ hr1 (Ext.refl _ _ _) (wks_zip h s r h2 s2 r2)⟩⟩
          · split at p1
            · rename_i ds es q1 q2
              unfold pureTup at q1 q2
              split at q1
              · cases q1
                split at q2
                · cases q2
                  cases r with
                  | tup h r =>
                    cases r2 with
                    | tup h2 r2 => exact ⟨_, _, _, _, rfl, .inr ⟨sqT_of h, sqT_of h2, p1 m1 H1 _ hr1 (Ext.refl _ _ _) (wks_zipT h r h2 r2)⟩⟩
                · cases q2
              · cases q1
            · exact p1.elim
    · exact p1.elim⟩
theorem si_str (he : SE X ct W e f) : SI X ct W tg e (iSt f) :=
  PI.imp (pi_str he) fun σV H R ⟨m, ah, σ, hr, lr, p⟩ => ⟨m, ah, σ, hr, lr, (Po.bind (R := VlR X.K ct) p).imp fun v H1 ⟨m1, h1, x, hr1, e1, r1, p1⟩ => by
    dsimp only at p1
    split at p1
    · cases r1
      exact ⟨_, rfl, p1 m1 H1 _ hr1 (Ext.refl _ _ _) (wks_str _)⟩
    · exact p1.elim⟩
end

/-! ### for -/
/-- forget the objects from the n-th on -/
def clr (n : Nat) (σ : Lo) : Lo := σ.map fun o => match o with
  | some (.r k) => if k < n then some (.r k) else none
  | o => o
def forL (g : SemG) (body : SemS) : List D → Lo → Hs → RS
  | [], σ, h => .ok .nx σ h
  | d :: ds, σ, h => match g (.d d) σ h with
    | none => .bad
    | some (σ1, h1) => match body σ1 h1 with
      | .ok .nx σ2 h2 => forL g body ds (clr h.length σ2) (h2.take h.length)
      | .ok .cnt σ2 h2 => forL g body ds (clr h.length σ2) (h2.take h.length)
      | .ok .brk σ2 h2 => .ok .nx (clr h.length σ2) (h2.take h.length)
      | .ok (.ret v) σ2 h2 => .ok (.ret v) σ2 h2
      | .exc e σ2 h2 => .exc e σ2 h2
      | .bad => .bad
def sFor (it : SemI) (g : SemG) (body : SemS) : SemS := fun σ h => sb (it σ h) σ fun ds h1 => forL g body ds σ h1
/-- .. where new objects outlive a turn -/
def forN (g : SemG) (body : SemS) : List D → Lo → Hs → RS
  | [], σ, h => .ok .nx σ h
  | d :: ds, σ, h => match g (.d d) σ h with
    | none => .bad
    | some (σ1, h1) => match body σ1 h1 with
      | .ok .nx σ2 h2 => forN g body ds σ2 h2
      | .ok .cnt σ2 h2 => forN g body ds σ2 h2
      | .ok .brk σ2 h2 => .ok .nx σ2 h2
      | .ok (.ret v) σ2 h2 => .ok (.ret v) σ2 h2
      | .exc e σ2 h2 => .exc e σ2 h2
      | .bad => .bad
def sForN (it : SemI) (g : SemG) (body : SemS) : SemS := fun σ h => sb (it σ h) σ fun ds h1 => forN g body ds σ h1
section
variable {K : PySem.W.Frag} {ct : CT} {W : WX} {m m' : List Addr} {ah ah' : Hs} {H H' : Hp}
theorem LR.clr {σ : Lo} {σV : L2.St} (hr : HR K ct m' ah' H') (e : Ext m ah H m' ah' H') (hl : m.length = ah.length) (lr : LR K ct m' ah' H' σ σV) : LR K ct m (ah'.take ah.length) H' (clr ah.length σ) σV := by
  refine ⟨by unfold Mi.clr; rw [List.length_map]; exact lr.len, fun i x hx => ?_⟩
  unfold Mi.clr at hx
  rw [List.getElem?_map] at hx
  have kp := (hr.trim m.length).2
  have em : m'.take m.length = m := by
    obtain ⟨t, rfl⟩ := e.pre
    rw [List.take_left' rfl]
  rw [em, hl] at kp
  cases q : σ[i]? with
  | none => rw [q] at hx; cases hx
  | some o =>
    rw [q] at hx
    cases o with
    | none => simp at hx
    | some y =>
      obtain ⟨v, hv, rv⟩ := lr.at_ i y q
      cases y with
      | d y =>
        simp only [Option.map_some, Option.some.injEq] at hx
        subst hx
        exact ⟨v, hv, DR.mono kp rv⟩
      | r k =>
        simp only [Option.map_some, Option.some.injEq] at hx
        split at hx
        · rename_i hk
          cases hx
          obtain ⟨a, ha, rfl⟩ := rv
          refine ⟨_, hv, a, ?_, rfl⟩
          obtain ⟨t, rfl⟩ := e.pre
          rw [List.getElem?_append_left (by rw [hl]; exact hk)] at ha
          exact ha
        · cases hx
theorem HR.trim' (hr : HR K ct m ah H) (h' : HR K ct m' ah' H') (e : Ext m ah H m' ah' H') : HR K ct m (ah'.take ah.length) H' ∧ Ext m ah H m (ah'.take ah.length) H' := by
  rw [← hr.len]
  exact ⟨HR.trimmed h' e, Ext.trimmed h' e⟩
end
section
variable {X : Cx} {ct : CT} {W : WX} {pos : Pos} {tg iter : Expr} {body : List Stmt} {it : SemI} {g : SemG} {u : SemS}
theorem rd_for {D : Ends} {σV : L2.St} {H : Hp} (h : rdS X.K ct W (sFor it g u) D σV H) : tFor (rdI X.K ct W it) (rdG X.K ct g) (rdS X.K ct W u) D σV H := by
  obtain ⟨m, ah, σ, hr, lr, p⟩ := h
  refine ⟨m, ah, σ, hr, lr, (PoS.bind (R := fun m1 h1 H1 ds J => Wks X.K ct ds m1 h1 H1 J) lr p).imp fun J H1 ⟨m1, h1, ds, hr1, e1, w1, p1⟩ => ?_⟩
  dsimp only at p1 w1
  refine ⟨fun i n σV H => n = ds.length - i ∧ i ≤ ds.length ∧ ∃ m2 h2 σ2, HR X.K ct m2 h2 H ∧ LR X.K ct m2 h2 H σ2 σV ∧ Ext m1 h1 H1 m2 h2 H ∧ PoS X.K ct W D m2 h2 H (forL g u (ds.drop i) σ2 h2),
    ⟨ds.length, by simp, Nat.zero_le _, m1, h1, σ, hr1, lr.ext e1, Ext.refl _ _ _, by rw [List.drop_zero]; exact p1⟩, ?_⟩
  rintro i n σV2 H2 ⟨rfl, hi, m2, h2, σ2, hr2, l2, e2, p2⟩
  obtain ⟨ws, wg⟩ := w1 m2 h2 H2 hr2 e2.kp
  by_cases hlt : i < ds.length
  · rw [List.drop_eq_getElem_cons hlt] at p2
    obtain ⟨go, wy⟩ := wg i _ (List.getElem?_eq_getElem hlt)
    refine .inr ⟨go, fun σV3 H3 => ∃ m3 h3 σ3, HR X.K ct m3 h3 H3 ∧ LR X.K ct m3 h3 H3 σ3 σV3 ∧ Ext m1 h1 H1 m3 h3 H3 ∧ PoS X.K ct W D m3 h3 H3 (forL g u (ds.drop (i + 1)) σ3 h3),
      fun σV3 H3 ⟨m3, h3, σ3, q1, q2, q3, q4⟩ => ⟨ds.length - (i + 1), by omega, rfl, hlt, m3, h3, σ3, q1, q2, q3, q4⟩, fun x H3 hy => ?_⟩
    obtain ⟨hr3, e3, rd⟩ := wy x H3 hy
    refine ⟨m2, h2, σ2, .d _, hr3, l2.ext e3, rd, ?_⟩
    rw [forL] at p2
    cases q : g (.d ds[i]) σ2 h2 with
    | none => rw [q] at p2; exact p2.elim
    | some z =>
      obtain ⟨σ4, h4⟩ := z
      rw [q] at p2
      dsimp only at p2
      refine fun m4 H4 σV4 hr4 e4 l4 => ⟨m4, h4, σ4, hr4, l4, ?_⟩
      have e14 := (e2.trans e3).trans e4
      cases q2 : u σ4 h4 with
      | bad => rw [q2] at p2; exact p2.elim
      | exc e σ5 h5 =>
        rw [q2] at p2
        exact fun m5 H5 σV5 c d hr5 e5 l5 x5 => p2 m5 H5 σV5 c d hr5 ((e3.trans e4).trans e5) l5 x5
      | ok f σ5 h5 =>
        rw [q2] at p2
        cases f with
        | nx =>
          refine fun m5 H5 σV5 hr5 e5 l5 => ?_
          obtain ⟨hr6, e6⟩ := HR.trim' hr2 hr5 ((e3.trans e4).trans e5)
          exact ⟨m2, _, _, hr6, LR.clr hr5 ((e3.trans e4).trans e5) hr2.len l5, e2.trans e6, PoS.ext p2 e6⟩
        | cnt =>
          refine fun m5 H5 σV5 hr5 e5 l5 => ?_
          obtain ⟨hr6, e6⟩ := HR.trim' hr2 hr5 ((e3.trans e4).trans e5)
          exact ⟨m2, _, _, hr6, LR.clr hr5 ((e3.trans e4).trans e5) hr2.len l5, e2.trans e6, PoS.ext p2 e6⟩
        | brk =>
          refine fun m5 H5 σV5 hr5 e5 l5 => ?_
          obtain ⟨hr6, e6⟩ := HR.trim' hr2 hr5 ((e3.trans e4).trans e5)
          exact p2 m2 H5 σV5 hr6 e6 (LR.clr hr5 ((e3.trans e4).trans e5) hr2.len l5)
        | ret v => exact fun m5 H5 σV5 hr5 e5 l5 => p2 m5 H5 σV5 hr5 ((e3.trans e4).trans e5) l5
  · have e : i = ds.length := by omega
    subst e
    rw [List.drop_length] at p2
    exact .inl ⟨ws _ (Nat.le_refl _), PoS.nx hr2 l2 p2⟩
theorem ss_for (hp : PassesOwn (model X.prog X.w) X.A X.env X.xe) (hc : X.calm = true) (hi : SI X ct W tg iter it) (hg : SG X ct tg g) (hb : SSs X ct W body u)
    (hs : ∀ x, foldedSetIterable iter X.env x = pure x := by intro _; rfl) : SS X ct W (.For tg iter body [] pos) (sFor it g u) := PS.imp (ps_for hp hc hi hg hb hs) fun _ _ _ h => rd_for h
theorem rd_forN {D : Ends} {σV : L2.St} {H : Hp} (h : rdS X.K ct W (sForN it g u) D σV H) : tFor (rdI X.K ct W it) (rdG X.K ct g) (rdS X.K ct W u) D σV H := by
  obtain ⟨m, ah, σ, hr, lr, p⟩ := h
  refine ⟨m, ah, σ, hr, lr, (PoS.bind (R := fun m1 h1 H1 ds J => Wks X.K ct ds m1 h1 H1 J) lr p).imp fun J H1 ⟨m1, h1, ds, hr1, e1, w1, p1⟩ => ?_⟩
  dsimp only at p1 w1
  refine ⟨fun i n σV H => n = ds.length - i ∧ i ≤ ds.length ∧ ∃ m2 h2 σ2, HR X.K ct m2 h2 H ∧ LR X.K ct m2 h2 H σ2 σV ∧ Ext m1 h1 H1 m2 h2 H ∧ PoS X.K ct W D m2 h2 H (forN g u (ds.drop i) σ2 h2),
    ⟨ds.length, by simp, Nat.zero_le _, m1, h1, σ, hr1, lr.ext e1, Ext.refl _ _ _, by rw [List.drop_zero]; exact p1⟩, ?_⟩
  rintro i n σV2 H2 ⟨rfl, hi, m2, h2, σ2, hr2, l2, e2, p2⟩
  obtain ⟨ws, wg⟩ := w1 m2 h2 H2 hr2 e2.kp
  by_cases hlt : i < ds.length
  · rw [List.drop_eq_getElem_cons hlt] at p2
    obtain ⟨go, wy⟩ := wg i _ (List.getElem?_eq_getElem hlt)
    refine .inr ⟨go, fun σV3 H3 => ∃ m3 h3 σ3, HR X.K ct m3 h3 H3 ∧ LR X.K ct m3 h3 H3 σ3 σV3 ∧ Ext m1 h1 H1 m3 h3 H3 ∧ PoS X.K ct W D m3 h3 H3 (forN g u (ds.drop (i + 1)) σ3 h3),
      fun σV3 H3 ⟨m3, h3, σ3, q1, q2, q3, q4⟩ => ⟨ds.length - (i + 1), by omega, rfl, hlt, m3, h3, σ3, q1, q2, q3, q4⟩, fun x H3 hy => ?_⟩
    obtain ⟨hr3, e3, rd⟩ := wy x H3 hy
    refine ⟨m2, h2, σ2, .d _, hr3, l2.ext e3, rd, ?_⟩
    rw [forN] at p2
    cases q : g (.d ds[i]) σ2 h2 with
    | none => rw [q] at p2; exact p2.elim
    | some z =>
      obtain ⟨σ4, h4⟩ := z
      rw [q] at p2
      dsimp only at p2
      refine fun m4 H4 σV4 hr4 e4 l4 => ⟨m4, h4, σ4, hr4, l4, ?_⟩
      cases q2 : u σ4 h4 with
      | bad => rw [q2] at p2; exact p2.elim
      | exc e σ5 h5 =>
        rw [q2] at p2
        exact fun m5 H5 σV5 c d hr5 e5 l5 x5 => p2 m5 H5 σV5 c d hr5 ((e3.trans e4).trans e5) l5 x5
      | ok f σ5 h5 =>
        rw [q2] at p2
        cases f with
        | nx => exact fun m5 H5 σV5 hr5 e5 l5 => ⟨m5, h5, σ5, hr5, l5, e2.trans ((e3.trans e4).trans e5), PoS.ext p2 ((e3.trans e4).trans e5)⟩
        | cnt => exact fun m5 H5 σV5 hr5 e5 l5 => ⟨m5, h5, σ5, hr5, l5, e2.trans ((e3.trans e4).trans e5), PoS.ext p2 ((e3.trans e4).trans e5)⟩
        | brk => exact fun m5 H5 σV5 hr5 e5 l5 => p2 m5 H5 σV5 hr5 ((e3.trans e4).trans e5) l5
        | ret v => exact fun m5 H5 σV5 hr5 e5 l5 => p2 m5 H5 σV5 hr5 ((e3.trans e4).trans e5) l5
  · have e : i = ds.length := by omega
    subst e
    rw [List.drop_length] at p2
    exact .inl ⟨ws _ (Nat.le_refl _), PoS.nx hr2 l2 p2⟩
theorem ss_forN (hp : PassesOwn (model X.prog X.w) X.A X.env X.xe) (hc : X.calm = true) (hi : SI X ct W tg iter it) (hg : SG X ct tg g) (hb : SSs X ct W body u)
    (hs : ∀ x, foldedSetIterable iter X.env x = pure x := by intro _; rfl) : SS X ct W (.For tg iter body [] pos) (sForN it g u) := PS.imp (ps_for hp hc hi hg hb hs) fun _ _ _ h => rd_forN h
end

/-! ### while -/
def whL (t : SemT) (body : SemS) : Nat → Lo → Hs → RS
  | 0, _, _ => .bad
  | n + 1, σ, h => sb (t σ h) σ fun b h1 => if b = true then (match body σ h1 with
      | .ok .nx σ2 h2 => whL t body n (clr h.length σ2) (h2.take h.length)
      | .ok .cnt σ2 h2 => whL t body n (clr h.length σ2) (h2.take h.length)
      | .ok .brk σ2 h2 => .ok .nx (clr h.length σ2) (h2.take h.length)
      | .ok (.ret v) σ2 h2 => .ok (.ret v) σ2 h2
      | .exc e σ2 h2 => .exc e σ2 h2
      | .bad => .bad) else .ok .nx σ h1
/-- as many turns as anything may ask -/
def most : Nat := 10 ^ 30
def sWh (t : SemT) (body : SemS) : SemS := whL t body most
theorem whL_more {t : SemT} {body : SemS} : ∀ (n k : Nat) (σ : Lo) (h : Hs), whL t body n σ h ≠ .bad → whL t body (n + k) σ h = whL t body n σ h
  | 0, k, σ, h, hb => absurd rfl hb
  | n + 1, k, σ, h, hb => by
    rw [show n + 1 + k = (n + k) + 1 by omega, whL, whL]
    rw [whL] at hb
    cases e : t σ h with
    | bad => rfl
    | exc x h1 => rfl
    | ok b h1 =>
      rw [e] at hb
      simp only [sb_ok] at hb ⊢
      cases b with
      | false => rfl
      | true =>
        simp only [if_true] at hb ⊢
        cases e2 : body σ h1 with
        | bad => rfl
        | exc x σ2 h2 => rfl
        | ok f σ2 h2 =>
          rw [e2] at hb
          cases f with
          | nx => exact whL_more n k _ _ hb
          | cnt => exact whL_more n k _ _ hb
          | brk => rfl
          | ret v => rfl
/-- a while comes to an end in n turns -/
theorem sWh_of {t : SemT} {body : SemS} {n : Nat} {σ : Lo} {h : Hs} {r : RS} (e : whL t body n σ h = r) (hr : r ≠ .bad) (hn : n ≤ most) : sWh t body σ h = r := by
  unfold sWh
  obtain ⟨k, hk⟩ : ∃ k, most = n + k := ⟨most - n, by omega⟩
  rw [hk, whL_more n k σ h (by rw [e]; exact hr), e]
section
variable {X : Cx} {ct : CT} {W : WX} {pos : Pos} {c : Expr} {body : List Stmt} {t : SemT} {u : SemS}
theorem rd_while {D : Ends} {σV : L2.St} {H : Hp} (h : rdS X.K ct W (sWh t u) D σV H) : tWhile (rdT X.K ct W t) (rdS X.K ct W u) D σV H := by
  obtain ⟨m, ah, σ, hr, lr, p⟩ := h
  refine ⟨fun n σV H => ∃ m2 h2 σ2, HR X.K ct m2 h2 H ∧ LR X.K ct m2 h2 H σ2 σV ∧ PoS X.K ct W D m2 h2 H (whL t u n σ2 h2), ⟨most, m, ah, σ, hr, lr, p⟩, ?_⟩
  rintro n σV2 H2 ⟨m2, h2, σ2, hr2, l2, p2⟩
  cases n with
  | zero => exact p2.elim
  | succ n =>
    rw [whL] at p2
    refine ⟨m2, h2, σ2, hr2, l2, ?_⟩
    cases e : t σ2 h2 with
    | bad => rw [e] at p2; exact p2.elim
    | exc x h3 => rw [e] at p2; exact fun m3 H3 c d hr3 e3 x3 => p2 m3 H3 σV2 c d hr3 e3 (l2.ext e3) x3
    | ok b h3 =>
      rw [e] at p2
      simp only [sb_ok] at p2
      refine fun m3 H3 b' hr3 e3 r3 => ?_
      subst r3
      cases b with
      | false => exact p2 m3 H3 σV2 hr3 e3 (l2.ext e3)
      | true =>
        refine ⟨fun σV4 H4 => ∃ m4 h4 σ4, HR X.K ct m4 h4 H4 ∧ LR X.K ct m4 h4 H4 σ4 σV4 ∧ PoS X.K ct W D m4 h4 H4 (whL t u n σ4 h4), fun σV4 H4 q => ⟨n, Nat.lt_succ_self _, q⟩, m3, h3, σ2, hr3, l2.ext e3, ?_⟩
        simp only [if_true] at p2
        cases q2 : u σ2 h3 with
        | bad => rw [q2] at p2; exact p2.elim
        | exc e σ5 h5 =>
          rw [q2] at p2
          exact fun m5 H5 σV5 c d hr5 e5 l5 x5 => p2 m5 H5 σV5 c d hr5 (e3.trans e5) l5 x5
        | ok f σ5 h5 =>
          rw [q2] at p2
          cases f with
          | nx =>
            refine fun m5 H5 σV5 hr5 e5 l5 => ?_
            obtain ⟨hr6, e6⟩ := HR.trim' hr2 hr5 (e3.trans e5)
            exact ⟨m2, _, _, hr6, LR.clr hr5 (e3.trans e5) hr2.len l5, PoS.ext p2 e6⟩
          | cnt =>
            refine fun m5 H5 σV5 hr5 e5 l5 => ?_
            obtain ⟨hr6, e6⟩ := HR.trim' hr2 hr5 (e3.trans e5)
            exact ⟨m2, _, _, hr6, LR.clr hr5 (e3.trans e5) hr2.len l5, PoS.ext p2 e6⟩
          | brk =>
            refine fun m5 H5 σV5 hr5 e5 l5 => ?_
            obtain ⟨hr6, e6⟩ := HR.trim' hr2 hr5 (e3.trans e5)
            exact p2 m2 H5 σV5 hr6 e6 (LR.clr hr5 (e3.trans e5) hr2.len l5)
          | ret v => exact fun m5 H5 σV5 hr5 e5 l5 => p2 m5 H5 σV5 hr5 (e3.trans e5) l5
theorem ss_while (hp : PassesOwn (model X.prog X.w) X.A X.env X.xe) (hc : ST X ct W c t) (hb : SSs X ct W body u) : SS X ct W (.While c body [] pos) (sWh t u) := PS.imp (ps_while hp hc hb) fun _ _ _ h => rd_while h
end
end Mi

/-! Mi6: defs and their calls, instances -/
namespace Mi
open PySem PySem.Spec L2

abbrev CallT := Nat → List Vl → Hs → Res Vl
structure MDef where
  np : Nat
  ns : Nat
  keep : Bool
  body : CallT → SemS
def startL (n : Nat) (xs : List Vl) : Lo := xs.map some ++ List.replicate (n - xs.length) none
/-- what a def hands back: data, or (keep) the changeable object itself -/
def retV (keep : Bool) (n0 : Nat) (v : Vl) (h : Hs) : Res Vl := match keep with
  | false => (match toD v h with
    | some (d, h') => .ok (.d d) (h'.take n0)
    | none => .bad)
  | true => (match v with
    | .d x => .ok (.d x) (h.take n0)
    | .r k => if k < n0 then .ok (.r k) (h.take n0) else (match h[k]? with
      | some o => .ok (.r n0) (h.take n0 ++ [o])
      | none => .bad))
def fin (keep : Bool) (n0 : Nat) (r : RS) : Res Vl := match r with
  | .ok .nx _ h => .ok (.d .non) (h.take n0)
  | .ok (.ret v) _ h => retV keep n0 v h
  | .exc e _ h => .exc e (h.take n0)
  | _ => .bad
def runD (md : MDef) (call : CallT) (xs : List Vl) (h : Hs) : Res Vl := if xs.length = md.np then fin md.keep h.length (md.body call (startL md.ns xs) h) else .bad
def callF (defs : List MDef) : Nat → CallT
  | 0 => fun _ _ _ => .bad
  | n + 1 => fun i xs h => match defs[i]? with
    | none => .bad
    | some md => runD md (callF defs n) xs h
theorem callF_len {defs : List MDef} {n i : Nat} {xs : List Vl} {h : Hs} {md : MDef} (hd : defs[i]? = some md) (hb : callF defs n i xs h ≠ .bad) : xs.length = md.np := by
  cases n with
  | zero => exact absurd rfl hb
  | succ n =>
    unfold callF at hb
    rw [hd] at hb
    dsimp only at hb
    unfold runD at hb
    by_cases e : xs.length = md.np
    · exact e
    · rw [if_neg e] at hb; exact absurd rfl hb
/-- what a caller is promised of def i -/
def spC (K : PySem.W.Frag) (ct : CT) (call : CallT) (i : Nat) : Sp := fun vs H Q E => ∃ m ah xs, HR K ct m ah H ∧ VlRs K ct m ah H xs vs ∧ Po K ct (fun c d _ H' => E c d H') [] (VlR K ct) m ah H (call i xs ah) Q

section
variable {K : PySem.W.Frag} {ct : CT} {W : WX} {m m' : List Addr} {ah ah' : Hs} {H H' : Hp}
theorem LR.start {xs : List Vl} {vs : List V} {N : List Str} (r : VlRs K ct m ah H xs vs) (hl : xs.length ≤ N.length) : LR K ct m ah H (startL N.length xs) (L2.start N vs) := by
  have hv : xs.length = vs.length := r.length
  unfold startL L2.start
  refine ⟨by simp [hv], fun i x hx => ?_⟩
  by_cases hi : i < xs.length
  · rw [List.getElem?_append_left (by simpa using hi), List.getElem?_map] at hx
    rw [List.getElem?_append_left (by simpa [← hv] using hi), List.getElem?_map]
    have get : ∀ {xs : List Vl} {vs : List V} {i : Nat} {x : Vl}, VlRs K ct m ah H xs vs → xs[i]? = some x → ∃ v, vs[i]? = some v ∧ VlR K ct m ah H x v := by
      intro xs vs i x r
      induction r generalizing i with
      | nil => intro e; simp at e
      | cons r t ih =>
        intro e
        cases i with
        | zero => simp at e; subst e; exact ⟨_, rfl, r⟩
        | succ i => simpa using ih (i := i) (by simpa using e)
    cases q : xs[i]? with
    | none => rw [q] at hx; cases hx
    | some y =>
      rw [q] at hx; cases hx
      obtain ⟨v, h1, h2⟩ := get r q
      exact ⟨v, by rw [h1]; rfl, h2⟩
  · rw [List.getElem?_append_right (by simpa using hi)] at hx
    rw [List.getElem?_replicate] at hx
    split at hx <;> cases hx
theorem fin_sound {keep : Bool} {E : XK} {r : RS} {Q : VK} (hr0 : HR K ct m ah H) (p : Po K ct (fun c d _ H' => E c d H') [] (VlR K ct) m ah H (fin keep ah.length r) Q) :
    PoS K ct (fun c d _ H' => E c d H') { nx := fun _ H' => Q .non H', rt := Q } m ah H r := by
  cases r with
  | bad => exact p
  | exc e σ h =>
    refine fun m1 H1 σV c d hr ex lr x => ?_
    obtain ⟨hr2, ex2⟩ := HR.trim' hr0 hr ex
    refine p m H1 c d hr2 ex2 ?_
    obtain ⟨x1, vs, x2, x3⟩ := x
    have kp := (hr.trim m.length).2
    obtain ⟨t, rfl⟩ := ex.pre
    rw [List.take_left' rfl, hr0.len] at kp
    exact ⟨x1, vs, x2.mono kp, x3.imp id fun ⟨dx, y1, y2, y3⟩ => ⟨dx, y1, (kp _ _ y2 y3).1, (kp _ _ y2 y3).2⟩⟩
  | ok f σ h =>
    cases f with
    | brk => exact p.elim
    | cnt => exact p.elim
    | nx =>
      refine fun m1 H1 σV hr ex lr => ?_
      obtain ⟨hr2, ex2⟩ := HR.trim' hr0 hr ex
      exact p m H1 .non hr2 ex2 .non
    | ret v =>
      refine fun m1 H1 σV hr ex lr u ru => ?_
      obtain ⟨hr2, ex2⟩ := HR.trim' hr0 hr ex
      have kp := (hr.trim m.length).2
      obtain ⟨t, et⟩ := ex.pre
      rw [et, List.take_left' rfl, hr0.len, ← et] at kp
      unfold fin retV at p
      cases keep with
      | false =>
        dsimp only at p
        cases e : toD v h with
        | none => rw [e] at p; exact p.elim
        | some q =>
          obtain ⟨d, h1⟩ := q
          rw [e] at p
          obtain ⟨hr3, ex3, r3⟩ := toD_sound hr e ru
          obtain ⟨hr4, ex4⟩ := HR.trim' hr0 hr3 (ex.trans ex3)
          have kp2 := (hr3.trim m.length).2
          rw [et, List.take_left' rfl, hr0.len, ← et] at kp2
          exact p m H1 u hr4 ex4 (DR.mono kp2 r3)
      | true =>
        dsimp only at p
        cases v with
        | d x => exact p m H1 u hr2 ex2 (DR.mono kp ru)
        | r k =>
          obtain ⟨a, ha, rfl⟩ := ru
          dsimp only at p
          split at p
          · rename_i hk
            refine p m H1 (.ref a) hr2 ex2 ⟨a, ?_, rfl⟩
            rw [et, List.getElem?_append_left (by rw [hr0.len]; exact hk)] at ha
            exact ha
          · rename_i hk
            obtain ⟨o, w, e2, hw, ow⟩ := hr.there ha
            rw [e2] at p
            dsimp only at p
            -- the new object, known at the end of the caller's
            have hm1 : ∀ (j : Nat) (b : Addr), m[j]? = some b → m1[j]? = some b := fun j b hb => ex.at hb
            have nin : ∀ j : Nat, m[j]? ≠ some a := fun j hj => by
              have := hr.inj _ _ _ (hm1 j a hj) ha
              have hj2 := (List.getElem?_eq_some_iff.mp hj).1
              rw [hr0.len] at hj2
              omega
            have lt : (h.take ah.length).length = m.length := by rw [← hr2.len]
            have lv : ∀ b, Lv (m ++ [a]) (h.take ah.length ++ [o]) b → Lv m1 h b := fun b ⟨j, q, f1, f2, f3⟩ => by
              by_cases hj : j < m.length
              · rw [List.getElem?_append_left hj] at f1
                rw [List.getElem?_append_left (by rw [lt]; exact hj), List.getElem?_take, if_pos (by rw [← hr0.len]; exact hj)] at f2
                exact ⟨j, q, hm1 j b f1, f2, f3⟩
              · rw [List.getElem?_append_right (by omega)] at f1
                rw [List.getElem?_append_right (by rw [lt]; omega), lt] at f2
                have z : j - m.length = 0 := by
                  have := (List.getElem?_eq_some_iff.mp f1).1
                  simpa using this
                rw [z] at f1 f2
                have f1' : a = b := by simpa using f1
                have f2' : o = q := by simpa using f2
                subst f1' f2'
                exact ⟨k, o, ha, e2, f3⟩
            have kp3 : Kp (Sf m1 h) H1 (Sf (m ++ [a]) (h.take ah.length ++ [o])) H1 := fun b q e s => ⟨e, fun l => s (lv b l)⟩
            have hr5 : HR K ct (m ++ [a]) (h.take ah.length ++ [o]) H1 := by
              refine ⟨by rw [List.length_append, List.length_append, lt]; rfl, fun i j b f1 f2 => ?_, fun j b q f1 f2 => ?_⟩
              · by_cases hi : i < m.length
                · rw [List.getElem?_append_left hi] at f1
                  by_cases hj : j < m.length
                  · rw [List.getElem?_append_left hj] at f2
                    exact hr0.inj _ _ _ f1 f2
                  · rw [List.getElem?_append_right (by omega)] at f2
                    have z : j - m.length = 0 := by
                      have := (List.getElem?_eq_some_iff.mp f2).1
                      simpa using this
                    rw [z] at f2
                    have : a = b := by simpa using f2
                    subst this
                    exact absurd f1 (nin i)
                · rw [List.getElem?_append_right (by omega)] at f1
                  have z : i - m.length = 0 := by
                    have := (List.getElem?_eq_some_iff.mp f1).1
                    simpa using this
                  rw [z] at f1
                  have : a = b := by simpa using f1
                  subst this
                  by_cases hj : j < m.length
                  · rw [List.getElem?_append_left hj] at f2
                    exact absurd f2 (nin j)
                  · have := (List.getElem?_eq_some_iff.mp f2).1
                    rw [List.length_append, List.length_singleton] at this
                    omega
              · by_cases hj : j < m.length
                · rw [List.getElem?_append_left hj] at f1
                  rw [List.getElem?_append_left (by rw [lt]; exact hj), List.getElem?_take, if_pos (by rw [← hr0.len]; exact hj)] at f2
                  obtain ⟨v, g1, g2⟩ := hr.ob j b q (hm1 j b f1) f2
                  exact ⟨v, g1, g2.mono kp3⟩
                · rw [List.getElem?_append_right (by omega)] at f1
                  rw [List.getElem?_append_right (by rw [lt]; omega), lt] at f2
                  have z : j - m.length = 0 := by
                    have := (List.getElem?_eq_some_iff.mp f1).1
                    simpa using this
                  rw [z] at f1 f2
                  have f1' : a = b := by simpa using f1
                  have f2' : o = q := by simpa using f2
                  subst f1' f2'
                  exact ⟨w, hw, ow.mono kp3⟩
            refine p (m ++ [a]) H1 (.ref a) hr5 ⟨⟨[a], rfl⟩, ex.kp.trans kp3⟩ ⟨a, ?_, rfl⟩
            rw [← hr0.len, List.getElem?_append_right (Nat.le_refl _), Nat.sub_self]; rfl
end

/-! ### all defs keep their promises -/
/-- one def: where it stands, its names, its parameters -/
structure Fn where
  f : Addr
  fd : FuncData
  ps : List Str
structure CallOk (P : Program) (w : World) (K : PySem.W.Frag) (mg : Str → Option Value) (base : Heap) (ct : CT) (fns : List Fn) (call : CallT) (n : Nat) : Prop where
  ok : ∀ (i : Nat) F, fns[i]? = some F → FnOk P w K mg base (L2.CX P w) (2 * n) F.f F.fd F.ps (spC K ct call i)
/-- one def's body means what its MDef says -/
structure BodyOk (P : Program) (w : World) (K : PySem.W.Frag) (mg : Str → Option Value) (base : Heap) (ct : CT) (fns : List Fn) (F : Fn) (md : MDef) : Prop where
  ex : ∃ (x qual : Str) (params : Arguments) (body : List Stmt) (scope : Scope) (dvs : List V) (kws : List (Str × V)) (N : List Str), FunD K x qual params body scope dvs kws F.f F.fd ∧ FnScope N F.ps scope ∧ F.ps.length = md.np ∧ N.length = md.ns ∧ md.np ≤ md.ns ∧
    ∀ (call : CallT) (n : Nat), CallOk P w K mg base ct fns call n → ∀ (cdv : Value) (A : Around) (outer : List Env) (s : Shared) (H : Hp) (E : XK), Room (2 * n + 1) (A.deeper (PyProof.Rows.envOfC qual scope s.heap.objs.size F.f cdv)) →
      SSs (cxOf (L2.CX P w) P w K mg base N qual scope F.f cdv A outer s H E) ct (fun c d _ H' => E c d H') body (md.body call)
theorem all_ok {P : Program} {w : World} {K : PySem.W.Frag} {mg : Str → Option Value} {base : Heap} {ct : CT} {fns : List Fn} {defs : List MDef} (hl : fns.length = defs.length)
    (hb : ∀ (i : Nat) F md, fns[i]? = some F → defs[i]? = some md → BodyOk P w K mg base ct fns F md) : ∀ n, CallOk P w K mg base ct fns (callF defs n) n
  | 0 => ⟨fun i F _ => ⟨fun vs H Q E ⟨_, _, _, _, _, p⟩ => p.elim, fun A outer s H args us vs Q E hr e0 hb r ⟨_, _, _, _, _, p⟩ => p.elim⟩⟩
  | n + 1 => ⟨fun i F hF => by
    have hi : i < defs.length := by rw [← hl]; exact (List.getElem?_eq_some_iff.mp hF).1
    have hd : defs[i]? = some defs[i] := List.getElem?_eq_getElem hi
    obtain ⟨x, qual, params, body, scope, dvs, kws, N, FD, sc, e1, e2, e3, hB⟩ := (hb i F _ hF hd).ex
    have ih := all_ok hl hb n
    have len : ∀ {xs : List Vl} {h : Hs}, callF defs (n + 1) i xs h ≠ .bad → xs.length = F.ps.length := fun q => by rw [e1]; exact callF_len hd q
    have nb : ∀ {K : PySem.W.Frag} {W : WX} {m : List Addr} {ah : Hs} {H : Hp} {Q : VK} {r : Res Vl}, Po K ct W [] (VlR K ct) m ah H r Q → r ≠ .bad := fun p e => by subst e; exact p
    refine FunD.ok (k := 2 * n + 1) FD sc (fun vs H Q E ⟨m, ah, xs, hr, rs, p⟩ => by rw [← rs.length]; exact len (nb p)) fun cdv A outer s H vs Q E hr ⟨m, ah, xs, h1, rs, p⟩ => ?_
    have hx : xs.length = defs[i].np := callF_len hd (nb p)
    unfold callF at p
    rw [hd] at p
    dsimp only at p
    unfold runD at p
    rw [if_pos hx] at p
    refine ⟨_, hB (callF defs n) n ih cdv A outer s H E hr, m, ah, startL defs[i].ns xs, h1, ?_, fin_sound h1 p⟩
    rw [← e2]
    exact LR.start rs (by omega)⟩

/-! ### calls -/
def eCl (call : CallT) (i : Nat) (ds : List D) (fs : SemA) : SemE := fun σ h => rb (fs σ h) fun xs h1 => call i (xs ++ ds.map Vl.d) h1
theorem VlRs.append {K : PySem.W.Frag} {ct : CT} {m : List Addr} {ah : Hs} {H : Hp} : ∀ {xs vs ys ws}, VlRs K ct m ah H xs vs → VlRs K ct m ah H ys ws → VlRs K ct m ah H (xs ++ ys) (vs ++ ws)
  | _, _, _, _, .nil, s => s
  | _, _, _, _, .cons r t, s => .cons r (VlRs.append t s)
/-- the defaults that fill up: data that stands in no heap -/
def Dfl (K : PySem.W.Frag) (ct : CT) (ds : List D) (dvs : List V) : Prop := ∀ m ah H, VlRs K ct m ah H (ds.map Vl.d) dvs
theorem Dfl.nil {K : PySem.W.Frag} {ct : CT} : Dfl K ct [] [] := fun _ _ _ => .nil
theorem Po.stil {α β : Type} {K : PySem.W.Frag} {ct : CT} {W : WX} {σV : L2.St} {R : List Addr → Hs → Hp → α → β → Prop} {m : List Addr} {ah : Hs} {H : Hp} {r : Res α} {Q : β → Hp → Prop} (p : Po K ct W σV R m ah H r Q) : Po K ct (fun c d _ H' => W c d σV H') [] R m ah H r Q := by
  cases r with
  | ok x h => exact p
  | exc x h => exact p
  | bad => exact p
section
variable {X : Cx} {ct : CT} {W : WX} {pos p apos : Pos} {e o : Expr} {es : List Expr} {f : SemE} {fs : SemA} {call : CallT} {n i : Nat} {F : Fn} {x : Str} {ds : List D} {dvs : List V} {dus : List Value} {fns : List Fn}
theorem run_cl {pins : List (Addr × Obj)} {σ : L2.St} {H : Hp} {s : Shared} {Q : VK} {us : List Value} {vs : List V} (co : CallOk X.prog X.w X.K X.mg X.base ct fns call n) (hF : fns[i]? = some F) (hr : Room (2 * n) X.A) (hb : Binds X.K F.fd F.ps dus) (hd : Vals dvs dus) (tk : Takes X W)
    (I : Inv X pins σ H s) (r : Vals vs us) (h : spC X.K ct call i (vs ++ dvs) H Q (WE W σ)) : wpAny (model X.prog X.w) X.A (PySem.call (.ref F.f) us) (EP X pins σ Q) X.xe s :=
  run_fnSD (E := WE W) (co.ok i F hF) hr hb hd (passAt tk σ) I r h
theorem se_call (co : CallOk X.prog X.w X.K X.mg X.base ct fns call n) (tk : Takes X W) (hr : Room (2 * n) X.A) (hF : fns[i]? = some F) (hg : Gl X x) (hm : X.mg x = some (.ref F.f)) (hk : PySem.W.keepIn X.K (.ref F.f) = true) (hb : Binds X.K F.fd F.ps dus) (hd : Vals dvs dus) (hq : Dfl X.K ct ds dvs)
    (ha : SA X ct W (e :: es) fs) (hdb : (x == ("__debug__" : Str)) = false := by decide) (he : starEach (e :: es) X.env = (false, eval e X.env) :: starEach es X.env := by rfl) (hpl : (backTo pos (starEach es X.env)).any (·.1) = false := by rfl) :
    SE X ct W (.Call (.Name x p) (e :: es) [] pos) (eCl call i ds fs) := by
  refine ⟨fun pins s σV H Q I ⟨m, ah, σ, hr0, lr, p⟩ => ?_⟩
  refine wpAny_Call_Name_kw (ld_glob I hg hm ?_ hdb)
  refine PySem.W.callWith_K (h₀ := X.base) I.ok.mod.kin hk (thn (ha.run pos pins s σV H _ I ⟨m, ah, σ, hr0, lr, Po.bind (R := VlRs X.K ct) p⟩) fun us s1 ⟨vs, H1, I1, r, m1, h1, xs, hr1, e1, r1, p1⟩ => ⟨I1.kIn, ?_⟩) he hpl
  exact run_cl co hF hr hb hd tk I1 r ⟨m1, h1, _, hr1, r1.append (hq _ _ _), Po.stil p1⟩
theorem se_call0 (co : CallOk X.prog X.w X.K X.mg X.base ct fns call n) (tk : Takes X W) (hr : Room (2 * n) X.A) (hF : fns[i]? = some F) (hg : Gl X x) (hm : X.mg x = some (.ref F.f)) (hk : PySem.W.keepIn X.K (.ref F.f) = true) (hb : Binds X.K F.fd F.ps dus) (hd : Vals dvs dus) (hq : Dfl X.K ct ds dvs)
    (hdb : (x == ("__debug__" : Str)) = false := by decide) : SE X ct W (.Call (.Name x p) [] [] pos) (eCl call i ds aNil) := by
  refine ⟨fun pins s σV H Q I ⟨m, ah, σ, hr0, lr, p⟩ => ?_⟩
  refine wpAny_Call_Name_kw (ld_glob I hg hm ?_ hdb)
  refine PySem.W.callWith_K0 I.kIn hk ?_
  exact run_cl (us := []) (vs := []) co hF hr hb hd tk I .nil ⟨m, ah, _, hr0, VlRs.append .nil (hq _ _ _), Po.stil p⟩
/-- the instance behind a value -/
def insOf (x : Vl) (h : Hs) : Option (Nat × List (Nat × D)) := match x with
  | .d (.ins C fs) => some (C, fs)
  | .r k => (match h[k]? with
    | some (.ins C fs) => some (C, fs)
    | _ => none)
  | _ => none
theorem ins_of {K : PySem.W.Frag} {m : List Addr} {ah : Hs} {H : Hp} (h : HR K ct m ah H) {x : Vl} {C : Nat} {fs : List (Nat × D)} {v : V} (e : insOf x ah = some (C, fs)) (r : VlR K ct m ah H x v) : ∃ a dx vs, v = .ref a ∧ H a = some (.ins (ct.ca C) dx vs) ∧ DRf K ct (Sf m ah) H fs vs := by
  unfold insOf at e
  split at e
  · cases e
    cases r with
    | ins h1 _ h2 => exact ⟨_, _, _, rfl, h1, h2⟩
  · rename_i k
    split at e
    · rename_i C' fs' hk
      cases e
      obtain ⟨a, h1, rfl⟩ := r
      obtain ⟨u, h2, h3⟩ := h.ob k a _ h1 hk
      cases h3 with
      | ins t => exact ⟨a, _, _, rfl, h2, t⟩
    · cases e
  · cases e
theorem lookup_drf {K : PySem.W.Frag} {S : Addr → Prop} {H : Hp} {n : Nat} : ∀ {fs : List (Nat × D)} {vs : List (Str × V)}, DRf K ct S H fs vs → (∀ d, fs.lookup n = some d → ∃ v, vs.lookup (ct.nm n) = some v ∧ DR K ct S H d v) ∧ (fs.lookup n = none → vs.lookup (ct.nm n) = none)
  | _, _, .nil => ⟨fun d e => (by cases e), fun _ => rfl⟩
  | _, _, .cons (n := k) (d := d0) (v := v0) r t => by
    obtain ⟨i1, i2⟩ := lookup_drf (n := n) t
    by_cases q : n = k
    · subst q
      have b1 : (n == n) = true := beq_self_eq_true n
      have b2 : (ct.nm n == ct.nm n) = true := beq_self_eq_true _
      refine ⟨fun d e => ?_, fun e => ?_⟩
      · simp only [List.lookup, b1] at e
        cases e
        exact ⟨_, by simp only [List.lookup, b2], r⟩
      · simp only [List.lookup, b1] at e
        cases e
    · have b1 : (n == k) = false := beq_eq_false_iff_ne.mpr q
      have b2 : (ct.nm n == ct.nm k) = false := beq_eq_false_iff_ne.mpr fun z => q (ct.inj _ _ z)
      refine ⟨fun d e => ?_, fun e => ?_⟩
      · simp only [List.lookup, b1] at e
        obtain ⟨v, h1, h2⟩ := i1 d e
        exact ⟨v, by simp only [List.lookup, b2]; exact h1, h2⟩
      · simp only [List.lookup, b1] at e
        simp only [List.lookup, b2]; exact i2 e
theorem lookup_none {K : PySem.W.Frag} {S : Addr → Prop} {H : Hp} {mm : Str} (hn : ∀ n, ct.nm n ≠ mm) : ∀ {fs : List (Nat × D)} {vs : List (Str × V)}, DRf K ct S H fs vs → vs.lookup mm = none
  | _, _, .nil => rfl
  | _, _, .cons (n := k) r t => by
    have b : (mm == ct.nm k) = false := beq_eq_false_iff_ne.mpr fun z => hn k z.symm
    simp only [List.lookup, b]
    exact lookup_none hn t
def putN (n : Nat) (d : D) : List (Nat × D) → List (Nat × D)
  | [] => [(n, d)]
  | (k, x) :: r => if k = n then (k, d) :: r else (k, x) :: putN n d r
theorem putN_drf {K : PySem.W.Frag} {S : Addr → Prop} {H : Hp} {n : Nat} {d : D} {v : V} (r : DR K ct S H d v) : ∀ {fs : List (Nat × D)} {vs : List (Str × V)}, DRf K ct S H fs vs → DRf K ct S H (putN n d fs) (putF (ct.nm n) v vs)
  | _, _, .nil => .cons r .nil
  | _, _, .cons (n := k) r0 t => by
    unfold putN putF
    by_cases q : k = n
    · subst q
      rw [if_pos rfl, if_pos rfl]
      exact .cons r t
    · rw [if_neg q, if_neg fun z => q (ct.inj _ _ z)]
      exact .cons r0 (putN_drf r t)
/-- e.f -/
def eFd (ok : Nat → Bool) (n : Nat) (f : SemE) : SemE := fun σ h => rb (f σ h) fun x h1 => match insOf x h1 with
  | some (C, fs) => if ok C = true then (match fs.lookup n with
    | some d => .ok (.d d) h1
    | none => .bad) else .bad
  | none => .bad
theorem se_fld {ok : Nat → Bool} {k : Nat} {fl : Str} (he : SE X ct W e f) (hf : ct.nm k = fl) (hok : ∀ C, ok C = true → Cls X.K (ct.ca C) ∧ NoAttr X.K (ct.ca C) fl) (hb : attributeBase e fl X.env (eval e X.env) = eval e X.env := by rfl) : SE X ct W (.Attribute e fl pos) (eFd ok k f) := by
  subst hf
  exact PE.imp (pe_fld he hb) fun σV H Q ⟨m, ah, σ, hr, lr, p⟩ => ⟨m, ah, σ, hr, lr, (Po.bind (R := VlR X.K ct) p).imp fun v H1 ⟨m1, h1, x, hr1, e1, r1, p1⟩ => by
    dsimp only at p1
    cases q : insOf x h1 with
    | none => rw [q] at p1; exact p1.elim
    | some z =>
      obtain ⟨C, fs⟩ := z
      rw [q] at p1
      dsimp only at p1
      split at p1
      · rename_i hc
        obtain ⟨a, dx, vs, rfl, h2, r2⟩ := ins_of hr1 q r1
        cases q2 : fs.lookup k with
        | none => rw [q2] at p1; exact p1.elim
        | some d =>
          rw [q2] at p1
          obtain ⟨v, h3, r3⟩ := (lookup_drf r2).1 d q2
          exact ⟨a, _, dx, vs, v, rfl, h2, (hok C hc).1, (hok C hc).2, h3, p1 m1 H1 v hr1 (Ext.refl _ _ _) r3⟩
      · exact p1.elim⟩
/-- self.f = e -/
def sFd (ok : Nat → Bool) (n : Nat) (f : SemE) (g : SemE) : SemS := fun σ h => sb (g σ h) σ fun y h1 => match toD y h1 with
  | none => .bad
  | some (d, h2) => sb (f σ h2) σ fun x h3 => match x with
    | .r k => (match h3[k]? with
      | some (.ins C fs) => if ok C = true ∧ fs.length < 900 then .ok .nx σ (h3.set k (.ins C (putN n d fs))) else .bad
      | _ => .bad)
    | _ => .bad
theorem ss_fld {ok : Nat → Bool} {k : Nat} {fl : Str} {g : SemE} {pos' : Pos} (he : SE X ct W o f) (hv : SE X ct W e g) (hf : ct.nm k = fl) (hok : ∀ C, ok C = true → Cls X.K (ct.ca C) ∧ NoAttr X.K (ct.ca C) fl)
    (hs : swapsWith e (some (.Attribute o fl pos')) pos.line X.env = pure false := by rfl) : SS X ct W (.Assign [.Attribute o fl pos'] e pos) (sFd ok k f g) := by
  subst hf
  exact PS.imp (ps_fld he hv hs) fun D σV H ⟨m, ah, σ, hr, lr, p⟩ => ⟨m, ah, σ, hr, lr, (PoS.bind (R := VlR X.K ct) lr p).imp fun y H1 ⟨m1, h1, y', hr1, e1, r1, p1⟩ => by
    dsimp only at p1
    cases q : toD y' h1 with
    | none => rw [q] at p1; exact p1.elim
    | some z =>
      obtain ⟨d, h2⟩ := z
      rw [q] at p1
      dsimp only at p1
      obtain ⟨hr2, e2, r2⟩ := toD_sound hr1 q r1
      have l2 := (lr.ext e1).ext e2
      refine ⟨m1, h2, σ, hr2, l2, (PoS.bind (R := VlR X.K ct) l2 (PoS.ext (r := sb (f σ h2) σ fun x h3 => _) p1 e2)).imp fun x H2 ⟨m3, h3, x', hr3, e3, r3, p3⟩ => ?_⟩
      dsimp only at p3
      split at p3
      · rename_i k0
        split at p3
        · rename_i C fs hk
          split at p3
          · rename_i hc
            obtain ⟨a, ha, rfl⟩ := r3
            obtain ⟨u, h4, h5⟩ := hr3.ob k0 a _ ha hk
            cases h5 with
            | ins t =>
              have t2 := putN_drf (n := k) (r2.mono e3.kp) t
              obtain ⟨hr6, e6⟩ := hr3.write ha hk (by simp) (OR.ins t2)
              refine ⟨a, _, _, _, rfl, h4, (hok C hc.1).1, (hok C hc.1).2, by rw [← t.length]; exact Nat.lt_trans hc.2 (by decide), ?_⟩
              exact p3 m3 _ σV hr6 e6 ((l2.ext e3).ext e6)
          · exact p3.elim
        · exact p3.elim
      · exact p3.elim⟩
/-- o.m(..) of an instance of class C -/
def eMe (call : CallT) (i C : Nat) (ds : List D) (f : SemE) (fs : SemA) : SemE := fun σ h => rb (f σ h) fun x h1 => match insOf x h1 with
  | some (C', _) => if C' = C then rb (fs σ h1) fun xs h2 => call i (x :: (xs ++ ds.map Vl.d)) h2 else .bad
  | none => .bad
theorem se_meth {mm : Str} {C : Nat} {pl : Sem Bool} (co : CallOk X.prog X.w X.K X.mg X.base ct fns call n) (tk : Takes X W) (hr : Room (2 * n) X.A) (hF : fns[i]? = some F) (he : SE X ct W o f) (c : Cls X.K (ct.ca C)) (hm : Meth X.K (ct.ca C) mm F.f) (hn : ∀ n, ct.nm n ≠ mm)
    (hb : Binds X.K F.fd F.ps dus) (hd : Vals dvs dus) (hq : Dfl X.K ct ds dvs) (ha : SA X ct W (e :: es) fs)
    (hst : starEach (e :: es) X.env = (false, eval e X.env) :: starEach es X.env := by rfl) (hpl : (backTo pos (starEach es X.env)).any (·.1) = false := by rfl)
    (ht : eval (.Call (.Attribute o mm apos) (e :: es) [] pos) X.env = (do
      let ov ← eval o X.env
      standAt apos.atName
      let (f, first) ← holding [ov] (getMethod ov mm pl)
      callWith pos f first (backTo pos (starEach (e :: es) X.env)) (backToKw pos (keywordEach [] X.env))) := by rfl) :
    SE X ct W (.Call (.Attribute o mm apos) (e :: es) [] pos) (eMe call i C ds f fs) := by
  refine ⟨fun pins s σV H Q I ⟨m, ah, σ, hr0, lr, p⟩ => ?_⟩
  refine PySem.W.methodCall_KW (pl := pl) (thn (he.run pins s σV H _ I ⟨m, ah, σ, hr0, lr, Po.bind (R := VlR X.K ct) p⟩) fun u s1 ⟨v, H1, I1, rx, m1, h1, x, hr1, e1, r1, p1⟩ => ?_) ht
  dsimp only at p1
  cases q : insOf x h1 with
  | none => rw [q] at p1; exact p1.elim
  | some z =>
    obtain ⟨C', fl⟩ := z
    rw [q] at p1
    dsimp only at p1
    split at p1
    · rename_i hC
      subst hC
      obtain ⟨a, dx, vs, rfl, h2, r2⟩ := ins_of hr1 q r1
      obtain rfl : u = Value.ref a := rx
      refine getmeth_ok I1 h2 c hm (lookup_none hn r2) ?_
      refine PySem.W.callWith_K (first := [.ref a]) (h₀ := X.base) I.ok.mod.kin hm.kp (thn (ha.run pos pins s1 σV H1 _ I1 ⟨m1, h1, σ, hr1, lr.ext e1, Po.bind (R := VlRs X.K ct) p1⟩) fun us s2 ⟨ws, H2, I2, r, m2, h2', xs, hr2, e2, r3, p2⟩ => ⟨I2.kIn, ?_⟩) hst hpl
      exact run_cl (us := .ref a :: us) (vs := .ref a :: ws) co hF hr hb hd tk I2 (.cons rfl r) ⟨m2, h2', _, hr2, .cons (r1.ext e2) (r3.append (hq _ _ _)), Po.stil p2⟩
    · exact p1.elim
theorem se_meth0 {mm : Str} {C : Nat} {pl : Sem Bool} (co : CallOk X.prog X.w X.K X.mg X.base ct fns call n) (tk : Takes X W) (hr : Room (2 * n) X.A) (hF : fns[i]? = some F) (he : SE X ct W o f) (c : Cls X.K (ct.ca C)) (hm : Meth X.K (ct.ca C) mm F.f) (hn : ∀ n, ct.nm n ≠ mm)
    (hb : Binds X.K F.fd F.ps dus) (hd : Vals dvs dus) (hq : Dfl X.K ct ds dvs)
    (ht : eval (.Call (.Attribute o mm apos) [] [] pos) X.env = (do
      let ov ← eval o X.env
      standAt apos.atName
      let (f, first) ← holding [ov] (getMethod ov mm pl)
      callWith pos f first (backTo pos (starEach [] X.env)) (backToKw pos (keywordEach [] X.env))) := by rfl) :
    SE X ct W (.Call (.Attribute o mm apos) [] [] pos) (eMe call i C ds f aNil) := by
  refine ⟨fun pins s σV H Q I ⟨m, ah, σ, hr0, lr, p⟩ => ?_⟩
  refine PySem.W.methodCall_KW (pl := pl) (thn (he.run pins s σV H _ I ⟨m, ah, σ, hr0, lr, Po.bind (R := VlR X.K ct) p⟩) fun u s1 ⟨v, H1, I1, rx, m1, h1, x, hr1, e1, r1, p1⟩ => ?_) ht
  dsimp only at p1
  cases q : insOf x h1 with
  | none => rw [q] at p1; exact p1.elim
  | some z =>
    obtain ⟨C', fl⟩ := z
    rw [q] at p1
    dsimp only at p1
    split at p1
    · rename_i hC
      subst hC
      obtain ⟨a, dx, vs, rfl, h2, r2⟩ := ins_of hr1 q r1
      obtain rfl : u = Value.ref a := rx
      refine getmeth_ok I1 h2 c hm (lookup_none hn r2) ?_
      refine PySem.W.callWith_K0 (first := [.ref a]) I1.kIn hm.kp ?_
      exact run_cl (us := [.ref a]) (vs := [.ref a]) co hF hr hb hd tk I1 (.cons rfl .nil) ⟨m1, h1, _, hr1, .cons r1 (VlRs.append .nil (hq _ _ _)), Po.stil p1⟩
    · exact p1.elim
/-- C(..) -/
def mkI (call : CallT) (i C : Nat) (xs : List Vl) (h : Hs) : Res Vl := match call i (.r h.length :: xs) (h ++ [.ins C []]) with
  | .ok (.d .non) h2 => (match h2[h.length]? with
    | some (.ins C' fs) => .ok (.d (.ins C' fs)) (h2.take h.length)
    | _ => .bad)
  | .exc e h2 => .exc e (h2.take h.length)
  | _ => .bad
def eMk (call : CallT) (i C : Nat) (ds : List D) (fs : SemA) : SemE := fun σ h => rb (fs σ h) fun xs h1 => mkI call i C (xs ++ ds.map Vl.d) h1
theorem run_makeS {pins : List (Addr × Obj)} {σ : L2.St} {H : Hp} {s : Shared} {Q : VK} {us : List Value} {vs : List V} {C f : Addr} {k : Nat} {fd : FuncData} {ps : List Str} {sp : Sp} {CX : CXT} {E : XK} (M : Mk X.K C f) (F : FnOk X.prog X.w X.K X.mg X.base CX k f fd ps sp) (hr : Room (k + 1) X.A) (hb : Binds X.K fd ps dus) (hd : Vals dvs dus)
    (hx : PassesAt CX X σ E) (I : Inv X pins σ H s) (r : Vals vs us)
    (h : ∀ x dx, H x = none → H dx = none → dx ≠ x → sp (.ref x :: (vs ++ dvs)) (upd (upd H dx (.own x)) x (.ins C dx [])) (fun v H2 => v = .non ∧ Q (.ref x) H2) E) :
    wpAny (model X.prog X.w) X.A (PySem.call (.ref C) us) (EP X pins σ Q) X.xe s := by
  have hq := h (s.heap.objs.size + 1) s.heap.objs.size (I.hok.fresh (Nat.le_succ _)) (I.hok.fresh (Nat.le_refl _)) (Nat.ne_of_lt (Nat.lt_succ_self _))
  have I2 := Inv.made (C := C) I
  have r2 : Vals (V.ref (s.heap.objs.size + 1) :: (vs ++ dvs)) (Value.ref (s.heap.objs.size + 1) :: (us ++ dus)) := .cons rfl (r.append hd)
  have hl : (Value.ref (s.heap.objs.size + 1) :: us ++ dus).length = ps.length := by
    have e := r2.length
    rw [F.len _ _ _ _ hq] at e
    exact e.symm
  refine wpAny_call (make_map (f := f) I.kIn M.makes M.init (beq_iff_eq.mp M.fn) (codeAny_mono (F.run _ X.stack _ _ ⟨Value.ref (s.heap.objs.size + 1) :: us, []⟩ (Value.ref (s.heap.objs.size + 1) :: (us ++ dus)) _ _ E (hr.make C us [])
    (I2.env0.make C us []) (hb _ (Value.ref (s.heap.objs.size + 1) :: us) I2.kIn hl) r2 hq) fun r s' hq' => ?_))
  cases r with
  | error e => exact hx pins _ _ e s' I2 hq'
  | ok fl =>
    cases fl with
    | ret u =>
      obtain ⟨v, H', I3, rv, ev, q3⟩ := I2.after hq'
      subst ev
      exact ⟨rv, ⟨V.ref (s.heap.objs.size + 1), H', I3, rfl, q3⟩⟩
    | next => exact False.elim hq'
    | brk => exact False.elim hq'
    | cont => exact False.elim hq'
theorem mkI_sound {K : PySem.W.Frag} {m : List Addr} {ah : Hs} {H : Hp} {xs : List Vl} {vs : List V} {Q : VK} {E : XK} {C : Nat} (hr : HR K ct m ah H) (rs : VlRs K ct m ah H xs vs) (p : Po K ct (fun c d _ H' => E c d H') [] (VlR K ct) m ah H (mkI call i C xs ah) Q) :
    ∀ x dx, H x = none → H dx = none → dx ≠ x → spC K ct call i (.ref x :: vs) (upd (upd H dx (.own x)) x (.ins (ct.ca C) dx [])) (fun v H2 => v = .non ∧ Q (.ref x) H2) E := by
  intro x dx hx hdx ne
  obtain ⟨hr1, e1⟩ := hr.more (upd_more (o := .own x) hdx)
  have hx1 : upd H dx (.own x) x = none := by rw [upd_ne ne.symm]; exact hx
  obtain ⟨hr2, e2⟩ := hr1.alloc hx1 (OR.ins (ct := ct) (C := C) (dx := dx) .nil)
  have e12 := e1.trans e2
  refine ⟨_, _, .r ah.length :: xs, hr2, .cons ⟨x, at_new hr1, rfl⟩ (rs.ext e12), ?_⟩
  unfold mkI at p
  cases q : call i (.r ah.length :: xs) (ah ++ [.ins C []]) with
  | bad => rw [q] at p; exact p.elim
  | exc ex h2 =>
    rw [q] at p
    refine fun m3 H3 c d hr3 e3 x3 => ?_
    obtain ⟨hr4, e4⟩ := HR.trim' hr hr3 (e12.trans e3)
    refine p m H3 c d hr4 e4 ?_
    obtain ⟨x1, ws, x2, x3⟩ := x3
    have kp := (hr3.trim m.length).2
    obtain ⟨t, rfl⟩ := (e12.trans e3).pre
    rw [List.take_left' rfl, hr.len] at kp
    exact ⟨x1, ws, x2.mono kp, x3.imp id fun ⟨dx, y1, y2, y3⟩ => ⟨dx, y1, (kp _ _ y2 y3).1, (kp _ _ y2 y3).2⟩⟩
  | ok v h2 =>
    rw [q] at p
    cases v with
    | r k => exact p.elim
    | d v =>
      cases v with
      | non =>
        dsimp only at p
        refine fun m3 H3 w hr3 e3 rw3 => ?_
        cases rw3
        refine ⟨rfl, ?_⟩
        have hx3 : m3[ah.length]? = some x := e3.at (at_new hr1)
        cases q2 : h2[ah.length]? with
        | none => rw [q2] at p; exact p.elim
        | some o =>
          rw [q2] at p
          cases o with
          | ins C' fs =>
            dsimp only at p
            obtain ⟨u, h4, h5⟩ := hr3.ob _ x _ hx3 q2
            cases h5 with
            | ins t =>
              obtain ⟨hr4, e4⟩ := HR.trim' hr hr3 (e12.trans e3)
              have kp := (hr3.trim m.length).2
              obtain ⟨tt, et⟩ := (e12.trans e3).pre
              rw [et, List.take_left' rfl, hr.len, ← et] at kp
              refine p m H3 (.ref x) hr4 e4 (.ins h4 (fun ⟨j, o, f1, f2, f3⟩ => ?_) (t.mono kp))
              have := hr3.inj _ _ _ ((e12.trans e3).at f1) hx3
              have hj := (List.getElem?_eq_some_iff.mp f1).1
              rw [hr.len] at hj
              omega
          | _ => exact p.elim
      | _ => exact p.elim
theorem se_make {C : Nat} (co : CallOk X.prog X.w X.K X.mg X.base ct fns call n) (tk : Takes X W) (hr : Room (2 * n + 1) X.A) (hF : fns[i]? = some F) (M : Mk X.K (ct.ca C) F.f) (hg : Gl X x) (hm : X.mg x = some (.ref (ct.ca C))) (hb : Binds X.K F.fd F.ps dus) (hd : Vals dvs dus) (hq : Dfl X.K ct ds dvs)
    (ha : SA X ct W (e :: es) fs) (hdb : (x == ("__debug__" : Str)) = false := by decide) (he : starEach (e :: es) X.env = (false, eval e X.env) :: starEach es X.env := by rfl) (hpl : (backTo pos (starEach es X.env)).any (·.1) = false := by rfl) :
    SE X ct W (.Call (.Name x p) (e :: es) [] pos) (eMk call i C ds fs) := by
  refine ⟨fun pins s σV H Q I ⟨m, ah, σ, hr0, lr, p⟩ => ?_⟩
  refine wpAny_Call_Name_kw (ld_glob I hg hm ?_ hdb)
  refine PySem.W.callWith_K (h₀ := X.base) I.ok.mod.kin M.kp (thn (ha.run pos pins s σV H _ I ⟨m, ah, σ, hr0, lr, Po.bind (R := VlRs X.K ct) p⟩) fun us s1 ⟨vs, H1, I1, r, m1, h1, xs, hr1, e1, r1, p1⟩ => ⟨I1.kIn, ?_⟩) he hpl
  exact run_makeS (E := WE W σV) M (co.ok i F hF) hr hb hd (passAt tk σV) I1 r (mkI_sound hr1 (r1.append (hq _ _ _)) (Po.stil p1))
theorem se_make0 {C : Nat} (co : CallOk X.prog X.w X.K X.mg X.base ct fns call n) (tk : Takes X W) (hr : Room (2 * n + 1) X.A) (hF : fns[i]? = some F) (M : Mk X.K (ct.ca C) F.f) (hg : Gl X x) (hm : X.mg x = some (.ref (ct.ca C))) (hb : Binds X.K F.fd F.ps dus) (hd : Vals dvs dus) (hq : Dfl X.K ct ds dvs)
    (hdb : (x == ("__debug__" : Str)) = false := by decide) : SE X ct W (.Call (.Name x p) [] [] pos) (eMk call i C ds aNil) := by
  refine ⟨fun pins s σV H Q I ⟨m, ah, σ, hr0, lr, p⟩ => ?_⟩
  refine wpAny_Call_Name_kw (ld_glob I hg hm ?_ hdb)
  refine PySem.W.callWith_K0 I.kIn M.kp ?_
  exact run_makeS (us := []) (vs := []) (E := WE W σV) M (co.ok i F hF) hr hb hd (passAt tk σV) I .nil (mkI_sound hr0 (VlRs.append .nil (hq _ _ _)) (Po.stil p))
end
end Mi

/-! Mi7: list comprehensions -/
namespace Mi
open PySem PySem.Spec L2

def wipeL (σ : Lo) : List Nat → Lo
  | [] => σ
  | v :: vs => (wipeL σ vs).set v none
abbrev W0 : WX := fun _ _ _ _ => False
section
variable {K : PySem.W.Frag} {ct : CT} {m : List Addr} {ah : Hs} {H : Hp}
theorem LR.none {σ : Lo} {σV : L2.St} (lr : LR K ct m ah H σ σV) (i : Nat) : LR K ct m ah H (σ.set i Option.none) (σV.set i Option.none) := by
  refine ⟨by rw [List.length_set, List.length_set, lr.len], fun j y hy => ?_⟩
  by_cases e : i = j
  · subst e
    by_cases hi : i < σ.length
    · rw [List.getElem?_set_self hi] at hy; cases hy
    · rw [List.getElem?_eq_none (by rw [List.length_set]; omega)] at hy; cases hy
  · rw [List.getElem?_set_ne e] at hy ⊢
    exact lr.at_ j y hy
theorem LR.wipe {σ : Lo} {σV : L2.St} (lr : LR K ct m ah H σ σV) : ∀ vs : List Nat, LR K ct m ah H (wipeL σ vs) (L2.wipe σV vs)
  | [] => lr
  | v :: vs => (LR.wipe lr vs).none v
theorem wipe_set {σV : L2.St} {i : Nat} {x : Option V} : ∀ {vs : List Nat}, L2.wipe (σV.set i x) vs = if i ∈ vs then L2.wipe σV vs else (L2.wipe σV vs).set i x
  | [] => by simp [L2.wipe]
  | v :: vs => by
    unfold L2.wipe
    rw [wipe_set (vs := vs)]
    by_cases h : i ∈ vs
    · rw [if_pos h, if_pos (List.mem_cons_of_mem _ h)]
    · rw [if_neg h]
      by_cases e : i = v
      · subst e
        rw [if_pos List.mem_cons_self, List.set_set]
      · rw [if_neg (by simp [e, h])]
        rw [List.set_comm _ _ e]
end
/-! ### targets of a block's own names -/
def PoGc (K : PySem.W.Frag) (ct : CT) (vs : List Nat) (σ0 : L2.St) (m : List Addr) (ah : Hs) (H : Hp) (o : Option (Lo × Hs)) (Q : L2.St → Hp → Prop) : Prop := match o with
  | some (σ', h) => ∀ m' H' σV', HR K ct m' h H' → Ext m ah H m' h H' → LR K ct m' h H' σ' σV' → L2.wipe σV' vs = L2.wipe σ0 vs → Q σV' H'
  | none => False
def rdGc (K : PySem.W.Frag) (ct : CT) (vs : List Nat) (g : SemG) : TG := fun v σV H Q => ∃ m ah σ x, HR K ct m ah H ∧ LR K ct m ah H σ σV ∧ VlR K ct m ah H x v ∧ PoGc K ct vs σV m ah H (g x σ ah) Q
def rdGsc (K : PySem.W.Frag) (ct : CT) (vs : List Nat) (g : SemGs) : TGs := fun ws σV H Q => ∃ m ah σ xs, HR K ct m ah H ∧ LR K ct m ah H σ σV ∧ DRs K ct (Sf m ah) H xs ws ∧ PoGc K ct vs σV m ah H (g xs σ ah) Q
abbrev SGc (X : Cx) (ct : CT) (vs : List Nat) (e : Expr) (g : SemG) : Prop := PG X e (rdGc X.K ct vs g)
abbrev SGsc (X : Cx) (ct : CT) (vs : List Nat) (e : List Expr) (g : SemGs) : Prop := PGs X e (rdGsc X.K ct vs g)
section
variable {X : Cx} {ct : CT} {pos : Pos} {e : Expr} {es : List Expr} {g : SemG} {gs : SemGs} {vs : List Nat}
theorem sgc_name {i : Nat} {x : Str} (hN : X.N.Nodup) (hi : X.N[i]? = some x) (hx : Loc X.env.scope x) (hm : i ∈ vs) (hf : X.fn x = true ∨ X.env.scope.names.lookup x = some .local := by first | exact .inl rfl | exact .inr rfl | assumption) : SGc X ct vs (.Name x pos) (gNm i) :=
  PG.imp (pg_name hN hi hx hf) fun v σV H Q ⟨m, ah, σ, x, hr, lr, r, p⟩ => p m H _ hr (Ext.refl _ _ _) (lr.set r i) (by rw [wipe_set, if_pos hm])
theorem sgsc_nil : SGsc X ct vs [] gNi := PGs.imp pgs_nil fun ws σV H Q ⟨m, ah, σ, xs, hr, lr, r, p⟩ => by
  unfold gNi at p
  split at p
  · cases r
    exact ⟨rfl, p m H _ hr (Ext.refl _ _ _) lr rfl⟩
  · exact p.elim
theorem sgsc_cons (h1 : SGc X ct vs e g) (h2 : SGsc X ct vs es gs) (hs : (assignEach (e :: es) X.env).map (·.2) = assign e X.env :: (assignEach es X.env).map (·.2) := by rfl) : SGsc X ct vs (e :: es) (gCo g gs) :=
  PGs.imp (pgs_cons h1 h2 hs) fun ws σV H Q ⟨m, ah, σ, xs, hr, lr, r, p⟩ => by
    unfold gCo at p
    split at p
    · cases r with
      | cons r t =>
        refine ⟨_, _, rfl, m, ah, σ, .d _, hr, lr, r, ?_⟩
        cases q : g (.d _) σ ah with
        | none => rw [q] at p; exact p.elim
        | some z =>
          obtain ⟨σ', h'⟩ := z
          rw [q] at p
          refine fun m2 H2 σ2 h2 e2 l2 w2 => ⟨m2, h', σ', _, h2, l2, t.mono e2.kp, ?_⟩
          dsimp only [Option.bind_some] at p
          revert p
          cases gs _ σ' h' with
          | none => exact fun p => p.elim
          | some z => exact fun p m3 H3 σ3 h3 e3 l3 w3 => p m3 H3 σ3 h3 (e2.trans e3) l3 (w3.trans w2)
    · exact p.elim
theorem sgc_tup {k n : Nat} (hc : X.calm = true) (h : SGsc X ct vs es gs) (hn : (assignEach es X.env).length = n := by rfl) (hst : (assignEach es X.env).findIdx? (·.1) = none := by rfl) : SGc X ct vs (.Tuple es k pos) (gTp n gs) :=
  PG.imp (pg_tup hc h hn hst) fun v σV H Q ⟨m, ah, σ, x, hr, lr, r, p⟩ => by
    unfold gTp at p
    split at p
    · obtain ⟨l, ws, rfl, h1, r1⟩ := tup_of r
      split at p
      · rename_i hl
        exact ⟨l, ws, rfl, h1, by rw [← r1.length]; exact hl, m, ah, σ, _, hr, lr, r1, p⟩
      · exact p.elim
    · exact p.elim
end
/-! ### the tests of a clause -/
abbrev SPT (X : Cx) (ct : CT) (W : WX) (es : List Expr) (f : SemT) : Prop := PTs X es (rdT X.K ct W f)
theorem PTs.imp {X : Cx} {e : List Expr} {t t' : TT} (h : PTs X e t) (i : ∀ σ H Q, t' σ H Q → t σ H Q) : PTs X e t' := ⟨fun pins s σ H Q I q => h.run pins s σ H Q I (i _ _ _ q)⟩
def tYs : SemT := fun _ h => .ok true h
theorem spt_nil {X : Cx} {ct : CT} {W : WX} : SPT X ct W [] tYs := PTs.imp pts_nil fun σV H Q ⟨m, ah, σ, hr, lr, p⟩ => p m H true hr (Ext.refl _ _ _) rfl
theorem spt_one {X : Cx} {ct : CT} {W : WX} {c : Expr} {t : SemT} (h : ST X ct W c t) : SPT X ct W [c] t := pts_one h

/-! ### what is made -/
def cmpAdd (n0 : Nat) (y : Vl) (h : Hs) : Option Hs := match toD y h with
  | some (d, h') => (match h'[n0]? with
    | some (.lst acc) => if acc.length < sizeLine then some ((h'.set n0 (.lst (acc ++ [d]))).take (n0 + 1)) else none
    | _ => none)
  | none => none
def cmpL (vs : List Nat) (g : SemG) (t : SemT) (f : SemE) (n0 : Nat) : List D → Lo → Hs → Option Hs
  | [], _, h => some h
  | d :: ds, σ, h => match g (.d d) (wipeL σ vs) h with
    | none => none
    | some (σ1, h1) => match t σ1 h1 with
      | .ok b h2 => if b = true then (match f σ1 h2 with
          | .ok y h3 => (match cmpAdd n0 y h3 with
            | some h4 => cmpL vs g t f n0 ds σ h4
            | none => none)
          | _ => none)
        else cmpL vs g t f n0 ds σ (h2.take (n0 + 1))
      | _ => none
def lcEnd (mu : Bool) (n0 : Nat) (h : Hs) : Res Vl := match mu with
  | true => .ok (.r n0) h
  | false => (match h[n0]? with
    | some (.lst acc) => .ok (.d (.lv acc)) (h.take n0)
    | _ => .bad)
def eLc (mu : Bool) (vs : List Nat) (it : SemI) (g : SemG) (t : SemT) (f : SemE) : SemE := fun σ h => rb (it σ h) fun ds h1 => match cmpL vs g t f h1.length ds σ (h1 ++ [.lst []]) with
  | some h2 => lcEnd mu h1.length h2
  | none => .bad
/-- [f for g in it if t for g1 in it1 if t1] -/
def cm2L (vs vs1 : List Nat) (g : SemG) (t : SemT) (it1 : SemI) (g1 : SemG) (t1 : SemT) (f : SemE) (n0 : Nat) : List D → Lo → Hs → Option Hs
  | [], _, h => some h
  | d :: ds, σ, h => match g (.d d) (wipeL σ vs) h with
    | none => none
    | some (σ1, h1) => match t σ1 h1 with
      | .ok b h2 => if b = true then (match it1 σ1 h2 with
          | .ok es h3 => (match cmpL vs1 g1 t1 f n0 es (clr (n0 + 1) σ1) (h3.take (n0 + 1)) with
            | some h4 => cm2L vs vs1 g t it1 g1 t1 f n0 ds σ h4
            | none => none)
          | _ => none)
        else cm2L vs vs1 g t it1 g1 t1 f n0 ds σ (h2.take (n0 + 1))
      | _ => none
def eLc2 (mu : Bool) (vs vs1 : List Nat) (it : SemI) (g : SemG) (t : SemT) (it1 : SemI) (g1 : SemG) (t1 : SemT) (f : SemE) : SemE := fun σ h => rb (it σ h) fun ds h1 => match cm2L vs vs1 g t it1 g1 t1 f h1.length ds σ (h1 ++ [.lst []]) with
  | some h2 => lcEnd mu h1.length h2
  | none => .bad

section
variable {K : PySem.W.Frag} {ct : CT} {m m' : List Addr} {ah ah' : Hs} {H H' : Hp}
/-- one more -/
theorem cmpAdd_sound {Dd : Addr} {h : Hs} (hr1 : HR K ct m ah H) (hrA : HR K ct (m ++ [Dd]) ah' H') {m5 : List Addr} {h5 : Hs} {H5 : Hp} (hr5 : HR K ct m5 h5 H5) (e5 : Ext (m ++ [Dd]) ah' H' m5 h5 H5) (hl : ah'.length = ah.length + 1) {y : Vl} {v : V} (r : VlR K ct m5 h5 H5 y v) (q : cmpAdd ah.length y h5 = some h) :
    ∃ acc, H5 Dd = some (.lst acc) ∧ acc.length < sizeLine ∧ HR K ct (m ++ [Dd]) h (upd H5 Dd (.lst (acc ++ [v]))) ∧ Ext (m ++ [Dd]) ah' H' (m ++ [Dd]) h (upd H5 Dd (.lst (acc ++ [v]))) := by
  unfold cmpAdd at q
  cases q1 : toD y h5 with
  | none => rw [q1] at q; cases q
  | some z =>
    obtain ⟨d, h6⟩ := z
    rw [q1] at q
    dsimp only at q
    obtain ⟨hr6, e6, r6⟩ := toD_sound hr5 q1 r
    have hD : m5[ah.length]? = some Dd := e5.at (at_new hr1)
    cases q2 : h6[ah.length]? with
    | none => rw [q2] at q; cases q
    | some o =>
      rw [q2] at q
      cases o with
      | lst acc =>
        dsimp only at q
        split at q
        · rename_i hz
          cases q
          obtain ⟨u, hu, ou⟩ := hr6.ob _ _ _ hD q2
          cases ou with
          | lst t =>
            obtain ⟨hr7, e7⟩ := hr6.write hD q2 (by simp) (OR.lst (t.append (.cons r6 .nil)))
            obtain ⟨hr8, e8⟩ := HR.trim' hrA hr7 ((e5.trans e6).trans e7)
            rw [hl] at hr8 e8
            exact ⟨_, hu, by rw [← t.length]; exact hz, hr8, e8⟩
        · cases q
      | _ => cases q
/-- the list is made -/
theorem lcEnd_sound {W : WX} {σV : L2.St} {Dd : Addr} {h : Hs} {mu : Bool} {Q : VK} (hr1 : HR K ct m ah H) (hD : H Dd = none) (hr : HR K ct (m ++ [Dd]) h H') (e : Ext m ah H (m ++ [Dd]) h H') (p : Po K ct W σV (VlR K ct) m ah H (lcEnd mu ah.length h) Q) : Q (.ref Dd) H' := by
  cases mu with
  | true => exact p _ H' _ hr e ⟨Dd, at_new hr1, rfl⟩
  | false =>
    unfold lcEnd at p
    dsimp only at p
    cases q : h[ah.length]? with
    | none => rw [q] at p; exact p.elim
    | some o =>
      rw [q] at p
      cases o with
      | lst acc =>
        dsimp only at p
        obtain ⟨u, hu, ou⟩ := hr.ob _ _ _ (at_new hr1) q
        cases ou with
        | lst t =>
          obtain ⟨hr2, e2⟩ := HR.trim' hr1 hr e
          have kp := (hr.trim m.length).2
          rw [List.take_left' rfl, hr1.len] at kp
          exact p m H' _ hr2 e2 (.lv hu (fun ⟨j, o, f1, f2, f3⟩ => hr1.fresh hD j f1) (t.mono kp))
      | _ => exact p.elim
end

section
variable {X : Cx} {ct : CT} {W : WX} {pos : Pos} {it it1 : SemI} {g g1 : SemG} {t t1 : SemT} {f : SemE} {vs vs1 : List Nat} {mu : Bool}
theorem wipe_wipe (σV : L2.St) (us : List Nat) : L2.wipe (L2.wipe σV us) us = L2.wipe σV us := by
  have key : ∀ (us : List Nat) (τ : L2.St), (∀ v ∈ us, τ[v]? = none ∨ τ[v]? = some Option.none) → L2.wipe τ us = τ := by
    intro us
    induction us with
    | nil => intro τ _; rfl
    | cons v us ih =>
      intro τ hτ
      unfold L2.wipe
      rw [ih τ fun w hw => hτ w (List.mem_cons_of_mem _ hw)]
      rcases hτ v List.mem_cons_self with z | z
      · rw [List.set_eq_of_length_le (List.getElem?_eq_none_iff.mp z)]
      · apply List.ext_getElem?
        intro j
        by_cases e : v = j
        · subst e; rw [List.getElem?_set_self (List.getElem?_eq_some_iff.mp z).1, z]
        · rw [List.getElem?_set_ne e]
  refine key us _ fun v hv => ?_
  cases e : (L2.wipe σV us)[v]? with
  | none => exact .inl rfl
  | some o =>
    cases o with
    | none => exact .inr rfl
    | some y => exact absurd hv (wipe_some e).2
theorem rd_lc {σV : L2.St} {H : Hp} {Q : VK} (h : rdE X.K ct W (eLc mu vs it g t f) σV H Q) : tLc (rdI X.K ct W it) (rdGc X.K ct vs g) (rdT X.K ct W0 t) (rdE X.K ct W0 f) vs σV H Q := by
  obtain ⟨m, ah, σ, hr, lr, p⟩ := h
  refine ⟨m, ah, σ, hr, lr, (Po.bind (R := fun m1 h1 H1 ds J => Wks X.K ct ds m1 h1 H1 J) p).imp fun J H1 ⟨m1, h1, ds, hr1, e1, w1, p1⟩ Dd hD => ?_⟩
  dsimp only at p1 w1
  cases q : cmpL vs g t f h1.length ds σ (h1 ++ [.lst []]) with
  | none => rw [q] at p1; exact p1.elim
  | some hE =>
    rw [q] at p1
    dsimp only at p1
    obtain ⟨hrA, eA⟩ := hr1.alloc hD (OR.lst (ct := ct) .nil)
    have lrA := (lr.ext e1).ext eA
    refine ⟨fun i n H => n = ds.length - i ∧ i ≤ ds.length ∧ ∃ h2, HR X.K ct (m1 ++ [Dd]) h2 H ∧ Ext (m1 ++ [Dd]) (h1 ++ [.lst []]) (upd H1 Dd (.lst [])) (m1 ++ [Dd]) h2 H ∧ cmpL vs g t f h1.length (ds.drop i) σ h2 = some hE,
      ⟨ds.length, by simp, Nat.zero_le _, _, hrA, Ext.refl _ _ _, by rw [List.drop_zero]; exact q⟩, ?_⟩
    rintro i n H2 ⟨rfl, hi, h2, hr2, e2, q2⟩
    obtain ⟨ws, wg⟩ := w1 _ h2 H2 hr2 (eA.trans e2).kp
    by_cases hlt : i < ds.length
    · rw [List.drop_eq_getElem_cons hlt] at q2
      obtain ⟨go, wy⟩ := wg i _ (List.getElem?_eq_getElem hlt)
      refine .inr ⟨go, fun H3 => ∃ h3, HR X.K ct (m1 ++ [Dd]) h3 H3 ∧ Ext (m1 ++ [Dd]) (h1 ++ [.lst []]) (upd H1 Dd (.lst [])) (m1 ++ [Dd]) h3 H3 ∧ cmpL vs g t f h1.length (ds.drop (i + 1)) σ h3 = some hE,
        fun H3 ⟨h3, a1, a2, a3⟩ => ⟨ds.length - (i + 1), by omega, rfl, hlt, h3, a1, a2, a3⟩, fun x H3 hy => ?_⟩
      obtain ⟨hr3, e3, rd⟩ := wy x H3 hy
      refine ⟨_, h2, _, .d _, hr3, ((lrA.ext e2).ext e3).wipe vs, rd, ?_⟩
      rw [cmpL] at q2
      cases q3 : g (.d ds[i]) (wipeL σ vs) h2 with
      | none => rw [q3] at q2; cases q2
      | some z =>
        obtain ⟨σ4, h4⟩ := z
        rw [q3] at q2
        dsimp only at q2
        refine fun m4 H4 σV4 hr4 e4 l4 w4 => ⟨w4.trans ?_, m4, h4, σ4, hr4, l4, ?_⟩
        · exact wipe_wipe _ _
        cases q4 : t σ4 h4 with
        | bad => rw [q4] at q2; cases q2
        | exc e h5 => rw [q4] at q2; cases q2
        | ok b h5 =>
          rw [q4] at q2
          dsimp only at q2
          refine fun m5 H5 b' hr5 e5 rb5 => ?_
          subst rb5
          have e25 := (e3.trans e4).trans e5
          cases b with
          | false =>
            rw [if_neg Bool.false_ne_true] at q2
            obtain ⟨hr6, e6⟩ := HR.trim' hr2 hr5 e25
            have hl : h2.length = h1.length + 1 := by rw [← hr2.len, ← hr1.len, List.length_append]; rfl
            rw [hl] at hr6 e6
            exact ⟨_, hr6, e2.trans e6, q2⟩
          | true =>
            rw [if_pos rfl] at q2
            refine ⟨m5, h5, σ4, hr5, l4.ext e5, ?_⟩
            cases q5 : f σ4 h5 with
            | bad => rw [q5] at q2; cases q2
            | exc e h6 => rw [q5] at q2; cases q2
            | ok y h6 =>
              rw [q5] at q2
              dsimp only at q2
              cases q6 : cmpAdd h1.length y h6 with
              | none => rw [q6] at q2; cases q2
              | some h7 =>
                rw [q6] at q2
                dsimp only at q2
                refine fun m6 H6 v hr6 e6 r6 => ?_
                have hl : h2.length = h1.length + 1 := by rw [← hr2.len, ← hr1.len, List.length_append]; rfl
                obtain ⟨acc, a1, a2, a3, a4⟩ := cmpAdd_sound hr1 hr2 hr6 (e25.trans e6) hl r6 q6
                exact ⟨acc, a1, a2, h7, a3, e2.trans a4, q2⟩
    · have e : i = ds.length := by omega
      subst e
      rw [List.drop_length, cmpL] at q2
      cases q2
      exact .inl ⟨ws _ (Nat.le_refl _), lcEnd_sound hr1 hD hr2 (eA.trans e2) p1⟩
theorem rd_lc2 {σV : L2.St} {H : Hp} {Q : VK} (h : rdE X.K ct W (eLc2 mu vs vs1 it g t it1 g1 t1 f) σV H Q) : tLc2 (rdI X.K ct W it) (rdGc X.K ct vs g) (rdT X.K ct W0 t) (rdI X.K ct W0 it1) (rdGc X.K ct vs1 g1) (rdT X.K ct W0 t1) (rdE X.K ct W0 f) vs vs1 σV H Q := by
  obtain ⟨m, ah, σ, hr, lr, p⟩ := h
  refine ⟨m, ah, σ, hr, lr, (Po.bind (R := fun m1 h1 H1 ds J => Wks X.K ct ds m1 h1 H1 J) p).imp fun J H1 ⟨m1, h1, ds, hr1, e1, w1, p1⟩ Dd hD => ?_⟩
  dsimp only at p1 w1
  cases q : cm2L vs vs1 g t it1 g1 t1 f h1.length ds σ (h1 ++ [.lst []]) with
  | none => rw [q] at p1; exact p1.elim
  | some hE =>
    rw [q] at p1
    dsimp only at p1
    obtain ⟨hrA, eA⟩ := hr1.alloc hD (OR.lst (ct := ct) .nil)
    have lrA := (lr.ext e1).ext eA
    refine ⟨fun i n H => n = ds.length - i ∧ i ≤ ds.length ∧ ∃ h2, HR X.K ct (m1 ++ [Dd]) h2 H ∧ Ext (m1 ++ [Dd]) (h1 ++ [.lst []]) (upd H1 Dd (.lst [])) (m1 ++ [Dd]) h2 H ∧ cm2L vs vs1 g t it1 g1 t1 f h1.length (ds.drop i) σ h2 = some hE,
      ⟨ds.length, by simp, Nat.zero_le _, _, hrA, Ext.refl _ _ _, by rw [List.drop_zero]; exact q⟩, ?_⟩
    rintro i n H2 ⟨rfl, hi, h2, hr2, e2, q2⟩
    have hl2 : h2.length = h1.length + 1 := by rw [← hr2.len, ← hr1.len, List.length_append]; rfl
    obtain ⟨ws, wg⟩ := w1 _ h2 H2 hr2 (eA.trans e2).kp
    by_cases hlt : i < ds.length
    · rw [List.drop_eq_getElem_cons hlt] at q2
      obtain ⟨go, wy⟩ := wg i _ (List.getElem?_eq_getElem hlt)
      refine .inr ⟨go, fun H3 => ∃ h3, HR X.K ct (m1 ++ [Dd]) h3 H3 ∧ Ext (m1 ++ [Dd]) (h1 ++ [.lst []]) (upd H1 Dd (.lst [])) (m1 ++ [Dd]) h3 H3 ∧ cm2L vs vs1 g t it1 g1 t1 f h1.length (ds.drop (i + 1)) σ h3 = some hE,
        fun H3 ⟨h3, a1, a2, a3⟩ => ⟨ds.length - (i + 1), by omega, rfl, hlt, h3, a1, a2, a3⟩, fun x H3 hy => ?_⟩
      obtain ⟨hr3, e3, rd⟩ := wy x H3 hy
      refine ⟨_, h2, _, .d _, hr3, ((lrA.ext e2).ext e3).wipe vs, rd, ?_⟩
      rw [cm2L] at q2
      cases q3 : g (.d ds[i]) (wipeL σ vs) h2 with
      | none => rw [q3] at q2; cases q2
      | some z =>
        obtain ⟨σ4, h4⟩ := z
        rw [q3] at q2
        dsimp only at q2
        refine fun m4 H4 σV4 hr4 e4 l4 w4 => ⟨w4.trans (wipe_wipe _ _), m4, h4, σ4, hr4, l4, ?_⟩
        cases q4 : t σ4 h4 with
        | bad => rw [q4] at q2; cases q2
        | exc e h5 => rw [q4] at q2; cases q2
        | ok b h5 =>
          rw [q4] at q2
          dsimp only at q2
          refine fun m5 H5 b' hr5 e5 rb5 => ?_
          subst rb5
          have e25 := (e3.trans e4).trans e5
          cases b with
          | false =>
            rw [if_neg Bool.false_ne_true] at q2
            obtain ⟨hr6, e6⟩ := HR.trim' hr2 hr5 e25
            rw [hl2] at hr6 e6
            exact ⟨_, hr6, e2.trans e6, q2⟩
          | true =>
            rw [if_pos rfl] at q2
            have l5 := l4.ext e5
            refine ⟨m5, h5, σ4, hr5, l5, ?_⟩
            cases q5 : it1 σ4 h5 with
            | bad => rw [q5] at q2; cases q2
            | exc e h6 => rw [q5] at q2; cases q2
            | ok es h6 =>
              rw [q5] at q2
              dsimp only at q2
              cases q6 : cmpL vs1 g1 t1 f h1.length es (clr (h1.length + 1) σ4) (h6.take (h1.length + 1)) with
              | none => rw [q6] at q2; cases q2
              | some h7 =>
                rw [q6] at q2
                dsimp only at q2
                refine fun m6 H6 J1 hr6 e6 w6 => ?_
                have e26 := e25.trans e6
                obtain ⟨hrB, eB⟩ := HR.trim' hr2 hr6 e26
                rw [hl2] at hrB eB
                have kpB : Kp (Sf m6 h6) H6 (Sf (m1 ++ [Dd]) (h6.take (h1.length + 1))) H6 := by
                  have := (hr6.trim (m1 ++ [Dd]).length).2
                  obtain ⟨tt, et⟩ := e26.pre
                  rw [et, List.take_left' rfl, hr2.len, hl2, ← et] at this
                  exact this
                have lB : LR X.K ct (m1 ++ [Dd]) (h6.take (h1.length + 1)) H6 (clr (h1.length + 1) σ4) σV4 := by
                  have := LR.clr hr6 e26 hr2.len (l5.ext e6)
                  rw [hl2] at this
                  exact this
                refine ⟨fun j k H => k = es.length - j ∧ j ≤ es.length ∧ ∃ h8, HR X.K ct (m1 ++ [Dd]) h8 H ∧ Ext (m1 ++ [Dd]) (h6.take (h1.length + 1)) H6 (m1 ++ [Dd]) h8 H ∧ cmpL vs1 g1 t1 f h1.length (es.drop j) (clr (h1.length + 1) σ4) h8 = some h7,
                  ⟨es.length, by simp, Nat.zero_le _, _, hrB, Ext.refl _ _ _, by rw [List.drop_zero]; exact q6⟩, ?_⟩
                rintro j k H8 ⟨rfl, hj, h8, hr8, e8, q8⟩
                obtain ⟨ws1, wg1⟩ := w6 _ h8 H8 hr8 (kpB.trans e8.kp)
                by_cases hlt1 : j < es.length
                · rw [List.drop_eq_getElem_cons hlt1] at q8
                  obtain ⟨go1, wy1⟩ := wg1 j _ (List.getElem?_eq_getElem hlt1)
                  refine .inr ⟨go1, fun H9 => ∃ h9, HR X.K ct (m1 ++ [Dd]) h9 H9 ∧ Ext (m1 ++ [Dd]) (h6.take (h1.length + 1)) H6 (m1 ++ [Dd]) h9 H9 ∧ cmpL vs1 g1 t1 f h1.length (es.drop (j + 1)) (clr (h1.length + 1) σ4) h9 = some h7,
                    fun H9 ⟨h9, a1, a2, a3⟩ => ⟨es.length - (j + 1), by omega, rfl, hlt1, h9, a1, a2, a3⟩, fun x1 H9 hy1 => ?_⟩
                  obtain ⟨hr9, e9, rd9⟩ := wy1 x1 H9 hy1
                  refine ⟨_, h8, _, .d _, hr9, ((lB.ext e8).ext e9).wipe vs1, rd9, ?_⟩
                  rw [cmpL] at q8
                  cases q9 : g1 (.d es[j]) (wipeL (clr (h1.length + 1) σ4) vs1) h8 with
                  | none => rw [q9] at q8; cases q8
                  | some z =>
                    obtain ⟨σA, hA⟩ := z
                    rw [q9] at q8
                    dsimp only at q8
                    refine fun mA HA σVA hrA' eA' lA' wA' => ⟨wA'.trans (wipe_wipe _ _), mA, hA, σA, hrA', lA', ?_⟩
                    have hl8 : h8.length = h1.length + 1 := by rw [← hr8.len, ← hr1.len, List.length_append]; rfl
                    cases qA : t1 σA hA with
                    | bad => rw [qA] at q8; cases q8
                    | exc e h5 => rw [qA] at q8; cases q8
                    | ok b hB =>
                      rw [qA] at q8
                      dsimp only at q8
                      refine fun mB HB b' hrB' eB' rb5 => ?_
                      subst rb5
                      have e9B := (e9.trans eA').trans eB'
                      cases b with
                      | false =>
                        rw [if_neg Bool.false_ne_true] at q8
                        obtain ⟨hrC, eC⟩ := HR.trim' hr8 hrB' e9B
                        rw [hl8] at hrC eC
                        exact ⟨_, hrC, e8.trans eC, q8⟩
                      | true =>
                        rw [if_pos rfl] at q8
                        refine ⟨mB, hB, σA, hrB', lA'.ext eB', ?_⟩
                        cases qB : f σA hB with
                        | bad => rw [qB] at q8; cases q8
                        | exc e h6 => rw [qB] at q8; cases q8
                        | ok y hC =>
                          rw [qB] at q8
                          dsimp only at q8
                          cases qC : cmpAdd h1.length y hC with
                          | none => rw [qC] at q8; cases q8
                          | some hD' =>
                            rw [qC] at q8
                            dsimp only at q8
                            refine fun mC HC v hrC eC rC => ?_
                            obtain ⟨acc, a1, a2, a3, a4⟩ := cmpAdd_sound hr1 hr8 hrC (e9B.trans eC) hl8 rC qC
                            exact ⟨acc, a1, a2, hD', a3, e8.trans a4, q8⟩
                · have e : j = es.length := by omega
                  subst e
                  rw [List.drop_length, cmpL] at q8
                  cases q8
                  exact .inl ⟨ws1 _ (Nat.le_refl _), _, hr8, e2.trans (eB.trans e8), q2⟩
    · have e : i = ds.length := by omega
      subst e
      rw [List.drop_length, cm2L] at q2
      cases q2
      exact .inl ⟨ws _ (Nat.le_refl _), lcEnd_sound hr1 hD hr2 (eA.trans e2) p1⟩
variable {elt tg iter tg1 iter1 : Expr} {ifs ifs1 : List Expr} {scope : Scope} {own : List (Str × Nat)}
abbrev BlkA (X : Cx) (scope : Scope) (φ : Cx → Prop) : Prop := ∀ (s : Shared) (H : Hp) (C : Addr) (cl : List (Str × Addr)) (fp : List Addr), φ (X.blk s H scope (compEnvC scope cl C X.env) fp)
theorem se_lc (mu : Bool) (hc : X.calm = true) (hN : X.N.Nodup) (hi : SI X ct W tg iter it) (ok : BlkOk X.N X.env.scope scope own) (hvs : own.map (·.2) = vs)
    (hg : BlkA X scope fun Y => SGc Y ct vs tg g) (ht : BlkA X scope fun Y => SPT Y ct W0 ifs t) (he : BlkA X scope fun Y => SE Y ct W0 elt f) (hs : ∀ x, foldedSetIterable iter X.env x = pure x := by intro _; rfl) :
    SE X ct W (.ListComp elt [⟨tg, iter, ifs, 0⟩] scope pos) (eLc mu vs it g t f) := by
  subst hvs
  exact PE.imp (pe_lc hc hN hi ok hg ht he hs) fun _ _ _ h => rd_lc h
theorem ss_setLc (mu : Bool) {i : Nat} {y : Str} {py spos : Pos} (hc : X.calm = true) (hN : X.N.Nodup) (hy : X.N[i]? = some y) (hyl : X.env.scope.names.lookup y = some .local)
    (hsw : swapsWith (.ListComp elt [⟨tg, iter, ifs, 0⟩] scope pos) (some (.Name y py)) spos.line X.env = pure true) (hi : SI X ct W tg iter it) (ok : BlkOk X.N X.env.scope scope own) (hvs : own.map (·.2) = vs)
    (hg : BlkA X scope fun Y => SGc Y ct vs tg g) (ht : BlkA X scope fun Y => SPT Y ct W0 ifs t) (he : BlkA X scope fun Y => SE Y ct W0 elt f) (hs : ∀ x, foldedSetIterable iter X.env x = pure x := by intro _; rfl) :
    SS X ct W (.Assign [.Name y py] (.ListComp elt [⟨tg, iter, ifs, 0⟩] scope pos) spos) (sAs (eLc mu vs it g t f) (gNm i)) := by
  subst hvs
  refine PS.imp (ps_setLc (g := rdGc X.K ct (own.map (·.2)) g) (tt := rdT X.K ct W0 t) (te := rdE X.K ct W0 f) hc hN hy hyl hsw hi ok hg ht he hs) fun D σV H ⟨m, ah, σ, hr, lr, p⟩ => ?_
  exact rd_lc ⟨m, ah, σ, hr, lr, (PoS.bind (R := VlR X.K ct) lr p).imp fun x H1 ⟨m1, h1, y, hr1, e1, r1, p1⟩ => p1 m1 H1 _ hr1 (Ext.refl _ _ _) ((lr.ext e1).set r1 i)⟩
theorem se_lc2 (mu : Bool) (hc : X.calm = true) (hN : X.N.Nodup) (hi : SI X ct W tg iter it) (ok : BlkOk X.N X.env.scope scope own) (hvs : own.map (·.2) = vs) (hv : ∀ i ∈ vs1, i ∈ own.map (·.2))
    (hg : BlkA X scope fun Y => SGc Y ct vs tg g) (ht : BlkA X scope fun Y => SPT Y ct W0 ifs t)
    (hi1 : BlkA X scope fun Y => SI Y ct W0 tg1 iter1 it1) (hg1 : BlkA X scope fun Y => SGc Y ct vs1 tg1 g1) (ht1 : BlkA X scope fun Y => SPT Y ct W0 ifs1 t1)
    (he : BlkA X scope fun Y => SE Y ct W0 elt f) (hs : ∀ x, foldedSetIterable iter X.env x = pure x := by intro _; rfl) (hs1 : ∀ env x, foldedSetIterable iter1 env x = pure x := by intro _ _; rfl) :
    SE X ct W (.ListComp elt [⟨tg, iter, ifs, 0⟩, ⟨tg1, iter1, ifs1, 0⟩] scope pos) (eLc2 mu vs vs1 it g t it1 g1 t1 f) := by
  subst hvs
  exact PE.imp (pe_lc2 hc hN hi ok hv hg ht hi1 hg1 ht1 he hs hs1) fun _ _ _ h => rd_lc2 h
theorem ss_setLc2 (mu : Bool) {i : Nat} {y : Str} {py spos : Pos} (hc : X.calm = true) (hN : X.N.Nodup) (hy : X.N[i]? = some y) (hyl : X.env.scope.names.lookup y = some .local)
    (hsw : swapsWith (.ListComp elt [⟨tg, iter, ifs, 0⟩, ⟨tg1, iter1, ifs1, 0⟩] scope pos) (some (.Name y py)) spos.line X.env = pure true) (hi : SI X ct W tg iter it) (ok : BlkOk X.N X.env.scope scope own) (hvs : own.map (·.2) = vs) (hv : ∀ i ∈ vs1, i ∈ own.map (·.2))
    (hg : BlkA X scope fun Y => SGc Y ct vs tg g) (ht : BlkA X scope fun Y => SPT Y ct W0 ifs t)
    (hi1 : BlkA X scope fun Y => SI Y ct W0 tg1 iter1 it1) (hg1 : BlkA X scope fun Y => SGc Y ct vs1 tg1 g1) (ht1 : BlkA X scope fun Y => SPT Y ct W0 ifs1 t1)
    (he : BlkA X scope fun Y => SE Y ct W0 elt f) (hs : ∀ x, foldedSetIterable iter X.env x = pure x := by intro _; rfl) (hs1 : ∀ env x, foldedSetIterable iter1 env x = pure x := by intro _ _; rfl) :
    SS X ct W (.Assign [.Name y py] (.ListComp elt [⟨tg, iter, ifs, 0⟩, ⟨tg1, iter1, ifs1, 0⟩] scope pos) spos) (sAs (eLc2 mu vs vs1 it g t it1 g1 t1 f) (gNm i)) := by
  subst hvs
  refine PS.imp (ps_setLc2 (g := rdGc X.K ct (own.map (·.2)) g) (tt := rdT X.K ct W0 t) (wi1 := rdI X.K ct W0 it1) (g1 := rdGc X.K ct vs1 g1) (tt1 := rdT X.K ct W0 t1) (te := rdE X.K ct W0 f) hc hN hy hyl hsw hi ok hv hg ht hi1 hg1 ht1 he hs hs1) fun D σV H ⟨m, ah, σ, hr, lr, p⟩ => ?_
  exact rd_lc2 ⟨m, ah, σ, hr, lr, (PoS.bind (R := VlR X.K ct) lr p).imp fun x H1 ⟨m1, h1, y, hr1, e1, r1, p1⟩ => p1 m1 H1 _ hr1 (Ext.refl _ _ _) ((lr.ext e1).set r1 i)⟩
end
end Mi

/-! Mi8: more operations: min, max, append, extend, stores, tuples of ranges, in for tuples, isinstance, own == -/
namespace Mi
open PySem PySem.Spec L2

section
variable {X : Cx} {ct : CT} {W : WX} {pos p apos : Pos} {e o : Expr} {es : List Expr} {f g : SemE} {fs : SemA}
/-! ### min, max of two ints -/
def n2 (k : Int → Int → Int) : OpN := fun xs h => match xs with
  | [.d (.int i), .d (.int j)] => some (.d (.int (k i j)), h)
  | _ => none
def nMin2 : OpN := n2 fun i j => if j < i then j else i
def nMax2 : OpN := n2 fun i j => if j > i then j else i
theorem n2_sound {id : String} {k : Int → Int → Int} (hc : CallR X (.builtin id) (fun xs H Q => ∃ i j, xs = [.int i, .int j] ∧ Q (.int (k i j)) H)) : CallR X (.builtin id) (rN X.K ct (n2 k)) := by
  refine CallR.imp hc fun vs H Q ⟨m, ah, xs, hr, rs, p⟩ => ?_
  unfold n2 at p
  split at p
  · cases rs with
    | cons r t =>
      cases t with
      | cons r2 t => cases t; cases r; cases r2; exact ⟨_, _, rfl, p.same hr (.int _)⟩
  · exact p.elim
theorem min2_sound (hc : X.calm = true) : CallR X (.builtin "min") (rN X.K ct nMin2) := n2_sound (call_min2 hc)
theorem max2_sound (hc : X.calm = true) : CallR X (.builtin "max") (rN X.K ct nMax2) := n2_sound (call_max2 hc)

/-! ### methods of a changeable list -/
def eLm (op : List D → List D → Hs → Option (List D × Vl)) (f : SemE) (fs : SemA) : SemE := fun σ h => rb (f σ h) fun x h1 => match x with
  | .r k => (match h1[k]? with
    | some (.lst _) => rb (fs σ h1) fun ys h2 => (match h2[k]? with
      | some (.lst xs) => (match toDs ys h2 with
        | some (ds, h3) => (match h3[k]? with
          | some (.lst _) => (match op xs ds h3 with
            | some (xs', v) => .ok v (h3.set k (.lst xs'))
            | none => .bad)
          | _ => .bad)
        | none => .bad)
      | _ => .bad)
    | _ => .bad)
  | _ => .bad
def lmAppend : List D → List D → Hs → Option (List D × Vl) := fun xs ds _ => match ds with
  | [d] => if xs.length < sizeLine then some (xs ++ [d], .d .non) else none
  | _ => none
theorem toDs_keep {k : Nat} {xs : List D} : ∀ {ys : List Vl} {h : Hs} {ds : List D} {h' : Hs}, toDs ys h = some (ds, h') → h'[k]? = some (.lst xs) → h[k]? = some (.lst xs)
  | [], h, ds, h', e, q => by cases e; exact q
  | y :: ys, h, ds, h', e, q => by
    unfold toDs at e
    cases e1 : toD y h with
    | none => rw [e1] at e; cases e
    | some z =>
      obtain ⟨d, h1⟩ := z
      rw [e1] at e
      simp only [Option.bind_some] at e
      cases e2 : toDs ys h1 with
      | none => rw [e2] at e; cases e
      | some z2 =>
        obtain ⟨ds2, h2⟩ := z2
        rw [e2] at e
        simp only [Option.map_some, Option.some.injEq, Prod.mk.injEq] at e
        obtain ⟨_, rfl⟩ := e
        have q1 := toDs_keep (k := k) (xs := xs) e2 q
        unfold toD at e1
        split at e1
        · cases e1; exact q1
        · rename_i j
          have hj : ∀ o : O, h1 = h.set j .dead → h[k]? = some (.lst xs) := fun _ z => by
            subst z
            by_cases hk : j = k
            · subst hk
              by_cases hl : j < h.length
              · rw [List.getElem?_set_self hl] at q1; cases q1
              · rw [List.getElem?_eq_none (by rw [List.length_set]; omega)] at q1; cases q1
            · rw [List.getElem?_set_ne hk] at q1; exact q1
          split at e1 <;> first | (cases e1; exact hj .dead rfl) | cases e1
theorem se_append {cpos : Pos} (he : SE X ct W o f) (ha : SA X ct W [e] fs)
    (hbase : attributeBase o "append" X.env (eval o X.env) = eval o X.env := by rfl)
    (hfew : ((backTo cpos (starEach [e] X.env)).all (fun x => !x.1) && (backToKw cpos (keywordEach [] X.env)).all (fun x => x.1.isSome)
      && decide ([e].length + ([] : List Keyword).length + (if ([] : List Keyword).isEmpty then 0 else 1) < 30)) = true := by rfl)
    (hline : (apos.endLine == cpos.line) = true := by rfl) (hs : starEach [e] X.env = (false, eval e X.env) :: starEach [] X.env := by rfl) (hplain : (backTo cpos (starEach [] X.env)).any (·.1) = false := by rfl) :
    SE X ct W (.Call (.Attribute o "append" apos) [e] [] cpos) (eLm lmAppend f fs) :=
  PE.imp (pe_bm PySem.F.plainAttrs_list PySem.F.slot_list_append PySem.F.type_list_append (r := rAppend) mt_append he ha hbase hfew hline hs hplain) fun σV H Q ⟨m, ah, σ, hr, lr, p⟩ => by
    refine ⟨m, ah, σ, hr, lr, (Po.bind (R := VlR X.K ct) p).imp fun v H1 ⟨m1, h1, x, hr1, e1, r1, p1⟩ => ?_⟩
    dsimp only at p1
    split at p1
    · rename_i k
      split at p1
      · rename_i ys hk
        obtain ⟨a, vs, ha, rfl, g1, g2⟩ := hr1.lstK hk r1
        refine ⟨.inl ⟨rfl, vs, .of g1⟩, m1, h1, σ, hr1, lr.ext e1, (Po.bind (R := VlRs X.K ct) p1).imp fun us H2 ⟨m2, h2, ys2, hr2, e2, r2, p2⟩ => ?_⟩
        dsimp only at p2
        split at p2
        · rename_i xs hk2
          split at p2
          · rename_i ds h3 q3
            obtain ⟨hr3, e3, r3⟩ := toDs_sound hr2 q3 r2
            split at p2
            · rename_i xs2 hk3
              have ee := toDs_keep q3 hk3
              rw [hk2] at ee
              cases ee
              unfold lmAppend at p2
              split at p2
              · rename_i xs' v hop
                split at hop
                · split at hop
                  · rename_i hz
                    cases hop
                    have ha2 := e2.at ha
                    obtain ⟨u, g3, g4⟩ := hr3.ob k a _ ha2 hk3
                    cases g4 with
                    | lst t =>
                      cases r3 with
                      | cons r3 tt =>
                        cases tt
                        obtain ⟨hr4, e4⟩ := hr3.write ha2 hk3 (by simp) (OR.lst (t.append (.cons r3 .nil)))
                        refine ⟨a, _, _, rfl, rfl, g3, by rw [← t.length]; exact hz, p2 m2 _ _ hr4 (e3.trans e4) .non⟩
                  · cases hop
                · cases hop
              · exact p2.elim
            · exact p2.elim
          · exact p2.elim
        · exact p2.elim
      · exact p1.elim
    · exact p1.elim
/-- x.extend(y), y a list or tuple of data -/
theorem ext_tup (l : Addr) (items : Array Value) (n : Nat) (b : Addr) (items2 : Array Value) (n2 : Nat) (dct : Option Addr) (sl : Array (Option Value)) (h0 : (!items.isEmpty && Builtin.List.listTooLong (items.size + items2.size)) = false) (h1 : items.size ≤ sizeLine) (h2 : items.size + items2.size ≤ sizeLine + 1) :
    Meets (Builtin.«list.extend» ⟨[.ref l, .ref b], []⟩) (fun _ R s => s.heap.get? l = some { cls := .type "list", data := .seq items n } ∧ s.heap.get? b = some { cls := .type "tuple", dict := dct, data := .seq items2 n2, slots := sl } ∧
      R (.ok (.ret .none)) { s with heap := s.heap.update l (Obj.mapSeq fun x => x ++ items2) }) :=
  .of_wp fun prog w A R s ⟨hl, hb, h⟩ => by
    obtain ⟨hp, g, d, tk, os⟩ := s
    have f1 := AutoSeq1.idx_int
    have f2 := AutoSeq1.sub_tuple_tuple
    have f3 := AutoSeq1.sub_list_list
    have f4 := AutoSeq1.sub_tuple_list
    have f5 := AutoSeq1.sub_list_tuple
    have hs0 : ¬ (!items.isEmpty && Builtin.List.listTooLong (items.size + items2.size)) = true := by rw [h0]; exact Bool.false_ne_true
    have hz' : (items ++ items2).size ≤ sizeLine + 1 := by rw [Array.size_append]; exact h2
    wp_walk using (wpAny_updateSeq hl rfl (hz := h1) (_hz' := hz')), AutoSeq1.wpAny_loadPart' hl, AutoSeq1.wpAny_loadPart' hb
    exact ⟨_, rfl, h⟩
def rExtS (K : PySem.W.Frag) : V → List V → Hp → VK → Prop := fun x vs H Q => ∃ l b xs zs, x = .ref l ∧ vs = [.ref b] ∧ H l = some (.lst xs) ∧ (H b = some (.lst zs) ∨ SqT K H b zs) ∧ xs.length + zs.length ≤ sizeLine ∧ Q .non (upd H l (.lst (xs ++ zs)))
theorem mt_extS : MtM X "list.extend" (rExtS X.K) := by
  intro pins s σ H x vs v us Q I rx rv h
  obtain ⟨l, b, xs, zs, rfl, rfl, hH, hB | hB, hz, q⟩ := h
  · exact mt_extend pins s σ H _ _ v us Q I rx rv ⟨l, b, xs, zs, rfl, rfl, hH, hB, hz, q⟩
  · cases rx
    obtain ⟨u, rfl, ru⟩ := rv.one
    cases ru
    obtain ⟨z, its, n, r, hl, e⟩ := I.lstM hH
    obtain ⟨its2, r2, ⟨⟨c2, d2, dt2, sl2⟩, e2, hc2, n2, hd2⟩, hz2⟩ := I.tuple hB
    dsimp only at hc2 hd2
    subst hc2 hd2
    have l2 := r2.length
    have hsz : its.toArray.size + its2.toArray.size ≤ sizeLine := by rw [List.size_toArray, List.size_toArray]; omega
    refine call_meets PySem.F.slot_list_extend ⟨_, e, rfl⟩ PySem.F.entry_list_extend (PySem.F.args_list_extend_2 _ _)
      (ext_tup l its.toArray n b its2.toArray n2 d2 sl2 (by rw [notLongL hsz, Bool.and_false]) (by rw [List.size_toArray]; omega) (by omega)) ⟨e, e2, ?_⟩
    refine ⟨.non, _, I.lset (its' := its ++ its2) (t' := s.toks) hH e (by simp) (r.append r2) ?_, rfl, q⟩
    rw [List.length_append]
    omega
def eXt (f : SemE) (fs : SemA) : SemE := fun σ h => rb (f σ h) fun x h1 => match x with
  | .r k => (match h1[k]? with
    | some (.lst _) => rb (fs σ h1) fun ys h2 => (match ys, h2[k]? with
      | [y], some (.lst xs) => (match pureSeq y with
        | some zs => if xs.length + zs.length ≤ sizeLine then .ok (.d .non) (h2.set k (.lst (xs ++ zs))) else .bad
        | none => .bad)
      | _, _ => .bad)
    | _ => .bad)
  | _ => .bad
theorem se_extend {cpos : Pos} (he : SE X ct W o f) (ha : SA X ct W [e] fs)
    (hbase : attributeBase o "extend" X.env (eval o X.env) = eval o X.env := by rfl)
    (hfew : ((backTo cpos (starEach [e] X.env)).all (fun x => !x.1) && (backToKw cpos (keywordEach [] X.env)).all (fun x => x.1.isSome)
      && decide ([e].length + ([] : List Keyword).length + (if ([] : List Keyword).isEmpty then 0 else 1) < 30)) = true := by rfl)
    (hline : (apos.endLine == cpos.line) = true := by rfl) (hs : starEach [e] X.env = (false, eval e X.env) :: starEach [] X.env := by rfl) (hplain : (backTo cpos (starEach [] X.env)).any (·.1) = false := by rfl) :
    SE X ct W (.Call (.Attribute o "extend" apos) [e] [] cpos) (eXt f fs) :=
  PE.imp (pe_bm PySem.F.plainAttrs_list PySem.F.slot_list_extend PySem.F.type_list_extend (r := rExtS X.K) mt_extS he ha hbase hfew hline hs hplain) fun σV H Q ⟨m, ah, σ, hr, lr, p⟩ => by
    refine ⟨m, ah, σ, hr, lr, (Po.bind (R := VlR X.K ct) p).imp fun v H1 ⟨m1, h1, x, hr1, e1, r1, p1⟩ => ?_⟩
    dsimp only at p1
    split at p1
    · rename_i k
      split at p1
      · rename_i ys hk
        obtain ⟨a, vs, ha, rfl, g1, g2⟩ := hr1.lstK hk r1
        refine ⟨.inl ⟨rfl, vs, .of g1⟩, m1, h1, σ, hr1, lr.ext e1, (Po.bind (R := VlRs X.K ct) p1).imp fun us H2 ⟨m2, h2, ys2, hr2, e2, r2, p2⟩ => ?_⟩
        dsimp only at p2
        split at p2
        · rename_i y xs hk2
          split at p2
          · rename_i zs hzs
            split at p2
            · rename_i hz
              have ha2 := e2.at ha
              obtain ⟨u, g3, g4⟩ := hr2.ob k a _ ha2 hk2
              cases g4 with
              | lst t =>
                cases r2 with
                | @cons _ w _ _ r2 tt =>
                  cases tt
                  have key : ∃ b ws, w = V.ref b ∧ (H2 b = some (.lst ws) ∨ SqT X.K H2 b ws) ∧ DRs X.K ct (Sf m2 h2) H2 zs ws := by
                    unfold pureSeq at hzs
                    split at hzs
                    · cases hzs
                      obtain ⟨b, ws, rfl, q1, q2⟩ := tup_of r2
                      exact ⟨b, ws, rfl, .inr q1, q2⟩
                    · cases hzs
                      cases r2 with
                      | lv b1 b2 b3 => exact ⟨_, _, rfl, .inl b1, b3⟩
                    · cases hzs
                  obtain ⟨b, ws, rfl, q1, q2⟩ := key
                  obtain ⟨hr4, e4⟩ := hr2.write ha2 hk2 (by simp) (OR.lst (t.append q2))
                  refine ⟨a, b, _, ws, rfl, rfl, g3, q1, by rw [← t.length, ← q2.length]; exact hz, p2 m2 _ _ hr4 e4 .non⟩
            · exact p2.elim
          · exact p2.elim
        · exact p2.elim
      · exact p1.elim
    · exact p1.elim

/-! ### xs[i] = v -/
/-- the store into a list at a name -/
def gSt (f g : SemE) : SemG := fun x σ h => match toD x h with
  | none => none
  | some (d, h0) => match f σ h0 with
    | .ok (.r k) h1 => (match g σ h1 with
      | .ok (.d (.int i)) h2 => (match h2[k]? with
        | some (.lst xs) => (match ixN xs.length i with
          | some j => some (σ, h2.set k (.lst (xs.set j d)))
          | none => none)
        | _ => none)
      | _ => none)
    | _ => none
theorem sg_store {i : Expr} (ho : SE X ct W0 o f) (hi : SE X ct W0 i g)
    (ha : ∀ v, assign (.Subscript o i pos) X.env v = (do
      let ov ← holding [v] (eval o X.env)
      let iv ← holding [v, ov] (eval i X.env)
      standAt pos
      holding [v, ov, iv] (setItem ov iv v)
      release [v, ov, iv] []) := by intro _; rfl) : SG X ct (.Subscript o i pos) (gSt f g) :=
  PG.imp (pg_sub ho hi set_list ha) fun v σV H Q ⟨m, ah, σ, x, hr, lr, r, p⟩ => by
    unfold gSt at p
    cases q : toD x ah with
    | none => rw [q] at p; exact p.elim
    | some z =>
      obtain ⟨d, h0⟩ := z
      rw [q] at p
      dsimp only at p
      obtain ⟨hr0, e0, r0⟩ := toD_sound hr q r
      refine ⟨m, h0, σ, hr0, lr.ext e0, ?_⟩
      cases q1 : f σ h0 with
      | bad => rw [q1] at p; exact p.elim
      | exc ex h1 => rw [q1] at p; exact p.elim
      | ok y h1 =>
        rw [q1] at p
        cases y with
        | d y => exact p.elim
        | r k =>
          dsimp only at p
          refine fun m1 H1 ov hr1 e1 r1 => ⟨m1, h1, σ, hr1, (lr.ext e0).ext e1, ?_⟩
          cases q2 : g σ h1 with
          | bad => rw [q2] at p; exact p.elim
          | exc ex h2 => rw [q2] at p; exact p.elim
          | ok y h2 =>
            rw [q2] at p
            split at p
            · rename_i y2 i h2' heq
              cases heq
              refine fun m2 H2 iv hr2 e2 r2 => ?_
              cases r2
              split at p
              · rename_i xs hk
                split at p
                · rename_i j hj
                  obtain ⟨a, hm, rfl⟩ := VlR.ext e2 r1
                  obtain ⟨u, g3, g4⟩ := hr2.ob k a _ hm hk
                  cases g4 with
                  | lst t =>
                    obtain ⟨hr4, e4⟩ := hr2.write hm hk (by simp) (OR.lst (t.set (r0.mono (e1.trans e2).kp) j))
                    refine ⟨a, _, _, j, rfl, rfl, g3, by rw [← t.length]; exact hj, ?_⟩
                    exact p m2 _ _ hr4 (((e0.trans e1).trans e2).trans e4) ((((lr.ext e0).ext e1).ext e2).ext e4)
                · exact p.elim
              · exact p.elim
            · exact p.elim

/-! ### tuple(range(n)) -/
def smR (n : Int) : Bool := decide (0 ≤ n) && Nat.ble n.natAbs 16777216
theorem smR_ok {n : Int} (h : smR n = true) : 0 ≤ n ∧ n ≤ 16777216 := by
  unfold smR at h
  simp only [Bool.and_eq_true, decide_eq_true_eq] at h
  have := Nat.le_of_ble_eq_true h.2
  omega
def eTR (f : SemE) : SemE := fun σ h => rb (f σ h) fun x h1 => match x with
  | .d (.int n) => if smR n = true then .ok (.d (.tup (rngD 0 n.toNat))) h1 else .bad
  | _ => .bad
theorem rngD_drs {K : PySem.W.Frag} {S : Addr → Prop} {H : Hp} {n : Int} (h : 0 ≤ n) : DRs K ct S H (rngD 0 n.toNat) (rgV 0 n) := by
  unfold rngD rgV
  rw [show n - 0 = n by omega]
  generalize List.range n.toNat = l
  induction l with
  | nil => exact .nil
  | cons a l ih => exact .cons (.int _) ih
theorem se_tupR {p2 pos2 : Pos} (hc : X.calm = true) (hg : Gl X "tuple") (hm : X.mg "tuple" = none) (hg2 : Gl X "range") (hm2 : X.mg "range" = none) (he : SE X ct W e f)
    (na : starEach [Expr.Call (.Name "range" p2) [e] [] pos2] X.env = (false, eval (.Call (.Name "range" p2) [e] [] pos2) X.env) :: starEach [] X.env := by rfl) (na2 : starEach [e] X.env = (false, eval e X.env) :: starEach [] X.env := by rfl) :
    SE X ct W (.Call (.Name "tuple" p) [.Call (.Name "range" p2) [e] [] pos2] [] pos) (eTR f) :=
  PE.imp (pe_tupRg hc hg hm (prg_1 hg2 hm2 he na2) na) fun σV H Q ⟨m, ah, σ, hr, lr, p⟩ => ⟨m, ah, σ, hr, lr, (Po.bind (R := VlR X.K ct) p).imp fun v H1 ⟨m1, h1, x, hr1, e1, r1, p1⟩ => by
    dsimp only at p1
    split at p1
    · rename_i n
      cases r1
      split at p1
      · rename_i hn
        replace hn := smR_ok hn
        refine ⟨_, rfl, RgOk.of_le (by omega) hn.2 (by omega) hn.1, fun a ha => ?_⟩
        exact p1 m1 _ _ (hr1.pure (o := .tup (rgV 0 n)) ha).1 (hr1.pure (o := .tup (rgV 0 n)) ha).2.1 (new_tup (rngD_drs hn.1) (hr1.pure (o := .tup (rgV 0 n)) ha).2.1.kp (hr1.freshS ha))
      · exact p1.elim
    · exact p1.elim⟩

/-! ### x in a list or tuple of flat data -/
def flD : D → Bool
  | .non => true
  | .bl _ => true
  | .int _ => true
  | .str _ => true
  | _ => false
def eqF : D → D → Bool
  | .non, .non => true
  | .bl a, .bl b => a == b
  | .bl a, .int b => (if a then 1 else 0) == b
  | .int a, .bl b => a == (if b then 1 else 0)
  | .int a, .int b => a == b
  | .str a, .str b => a == b
  | _, _ => false
theorem fl_of {K : PySem.W.Frag} {S : Addr → Prop} {H : Hp} {d : D} {v : V} (h : flD d = true) (r : DR K ct S H d v) : flatV v = true := by
  cases r <;> first | rfl | cases h
theorem eqF_of {K : PySem.W.Frag} {S : Addr → Prop} {H : Hp} {d d' : D} {v v' : V} (h : flD d = true) (h' : flD d' = true) (r : DR K ct S H d v) (r' : DR K ct S H d' v') : eqV v v' = eqF d d' := by
  cases r <;> first | (cases h; done) | (cases r' <;> first | rfl | (cases h'; done))
def inF (x y : Vl) (h : Hs) : Option Bool := match x, seqOf y h with
  | .d d, some ds => if flD d = true ∧ ds.all flD = true then some (ds.any fun z => eqF z d) else none
  | _, _ => none
def oInF (neg : Bool) : Op2 := fun x y h => (inF x y h).map fun c => (.d (.bl (if neg then !c else c)), h)
theorem inV_of {K : PySem.W.Frag} {S : Addr → Prop} {H : Hp} {d : D} {v : V} (h : flD d = true) (r : DR K ct S H d v) : ∀ {ds : List D} {vs : List V}, ds.all flD = true → DRs K ct S H ds vs → vs.all flatV = true ∧ inV v vs = ds.any fun z => eqF z d
  | _, _, _, .nil => ⟨rfl, rfl⟩
  | _, _, hs, .cons r1 t => by
    rw [List.all_cons, Bool.and_eq_true] at hs
    obtain ⟨i1, i2⟩ := inV_of h r hs.2 t
    unfold inV at i2 ⊢
    rw [List.all_cons, List.any_cons, List.any_cons, i1, i2, fl_of hs.1 r1, eqF_of hs.1 h r1 r]
    exact ⟨rfl, rfl⟩
theorem inF_sound {op : CmpOp} {neg : Bool} (ho : OpR X (compareOp op) (rIn X.K neg)) : OpR X (compareOp op) (rOp X.K ct (oInF neg)) := by
  refine OpR.imp ho fun x y H Q ⟨m, ah, a, b, hr, ra, rb, p⟩ => ?_
  unfold oInF at p
  cases e : inF a b ah with
  | none => rw [e] at p; exact p.elim
  | some c =>
  rw [e] at p
  unfold inF at e
  split at e
  · rename_i d ds hs
    by_cases hc : flD d = true ∧ ds.all flD = true
    · rw [if_pos hc] at e
      cases e
      obtain ⟨l, vs, rfl, h1, r1⟩ := seq_of hr hs rb
      obtain ⟨i1, i2⟩ := inV_of hc.1 ra hc.2 r1
      refine ⟨l, vs, rfl, h1, fl_of hc.1 ra, i1, ?_⟩
      rw [i2]
      cases neg <;> exact p.same hr (.bl _)
    · rw [if_neg hc] at e; cases e
  · cases e
theorem inT_sound : OpR X (compareOp .In) (rOp X.K ct (oInF false)) := inF_sound op_in_seq
theorem notInT_sound : OpR X (compareOp .NotIn) (rOp X.K ct (oInF true)) := inF_sound op_notIn_seq
end

/-! ### isinstance -/
inductive Ty where
  | b (n : String) | c (C : Nat)
deriving DecidableEq
def tyD (x : Vl) (h : Hs) : Option Ty := match insOf x h with
  | some (C, _) => some (.c C)
  | none => (tyO x h).map .b
def tyW (ct : CT) : Ty → Value
  | .b n => .type n
  | .c C => .ref (ct.ca C)
/-- what isinstance asks of an own class -/
structure IsiC (K : PySem.W.Frag) (C : Addr) : Prop where
  cl : Cls K C
  ha : PySem.W.findIn K (.ref C) "__class__" = some (some (.builtin "object.__class__"))
  hn : PySem.W.specialIn K (.builtin "object.__class__") "__get__" = some (some (.builtin "getset_descriptor.__get__"))
  htk : PySem.W.takesIn K (.builtin "object.__class__") = some true
  hm : PySem.W.mroIn K C (.type "object") = some true
def lookT (t : Ty) : List (Ty × Bool) → Option Bool
  | [] => none
  | (s, b) :: r => if s = t then some b else lookT t r
/-- the answers of isinstance for the types that may come -/
def IsiOk (K : PySem.W.Frag) (ct : CT) (u : Value) (l : List (Ty × Bool)) : Prop := ∀ t b, lookT t l = some b → PySem.W.kitOne K (tyW ct t) u = some b ∧ ∀ C, t = .c C → IsiC K (ct.ca C)
theorem IsiOk.nil {K : PySem.W.Frag} {ct : CT} {u : Value} : IsiOk K ct u [] := fun t b h => nomatch h
theorem IsiOk.cons {K : PySem.W.Frag} {ct : CT} {u : Value} {s : Ty} {b : Bool} {l : List (Ty × Bool)} (h1 : PySem.W.kitOne K (tyW ct s) u = some b) (h2 : ∀ C, s = .c C → IsiC K (ct.ca C)) (h : IsiOk K ct u l) : IsiOk K ct u ((s, b) :: l) := fun t b' e => by
  unfold lookT at e
  split at e
  · rename_i q
    subst q
    cases e
    exact ⟨h1, h2⟩
  · exact h t b' e
theorem IsiOk.consB {K : PySem.W.Frag} {ct : CT} {u : Value} {s : String} {b : Bool} {l : List (Ty × Bool)} (h1 : PySem.W.kitOne K (.type s) u = some b) (h : IsiOk K ct u l) : IsiOk K ct u ((.b s, b) :: l) := .cons h1 (fun _ e => nomatch e) h
theorem IsiOk.consC {K : PySem.W.Frag} {ct : CT} {u : Value} {s : Nat} {b : Bool} {l : List (Ty × Bool)} (h1 : PySem.W.kitOne K (.ref (ct.ca s)) u = some b) (h2 : IsiC K (ct.ca s)) (h : IsiOk K ct u l) : IsiOk K ct u ((.c s, b) :: l) := .cons h1 (fun _ e => by cases e; exact h2) h
theorem isi_any {K : PySem.W.Frag} {ct : CT} {b : String} (h : kitB b b = some true) : ∀ l : List (String × Bool), (l.all fun p => decide (kitB p.1 b = some p.2)) = true → IsiOk K ct (.type b) (l.map fun p => (Ty.b p.1, p.2))
  | [], _ => .nil
  | p :: l, e => by
    simp only [List.all_cons, Bool.and_eq_true, decide_eq_true_eq] at e
    exact .consB (kit_ty e.1) (isi_any h l (by simpa using e.2))
def eIsi (l : List (Ty × Bool)) (f : SemE) : SemE := fun σ h => rb (f σ h) fun x h1 => match tyD x h1 with
  | some t => (match lookT t l with
    | some b => .ok (.d (.bl b)) h1
    | none => .bad)
  | none => .bad
theorem tyD_sound {K : PySem.W.Frag} {ct : CT} {m : List Addr} {ah : Hs} {H : Hp} (hr : HR K ct m ah H) {x : Vl} {v : V} {t : Ty} (r : VlR K ct m ah H x v) (e : tyD x ah = some t) (hc : ∀ C, t = .c C → IsiC K (ct.ca C)) : TyX K H v (tyW ct t) := by
  unfold tyD at e
  split at e
  · rename_i C fs q
    cases e
    obtain ⟨a, dx, vs, rfl, h1, _⟩ := ins_of hr q r
    have z := hc C rfl
    exact .base (.ins h1 z.cl z.ha z.hn z.htk z.hm)
  · cases q : tyO x ah with
    | none => rw [q] at e; cases e
    | some n => rw [q] at e; cases e; exact tyO_sound hr r q
section
variable {X : Cx} {ct : CT} {W : WX} {pos p p2 : Pos} {e : Expr} {f : SemE} {x : Str} {l : List (Ty × Bool)}
theorem pe_isi {c : V} {u : Value} (hk : ClsV c u) (h2 : PE X (.Name x p2) (tC c)) (ho : IsiOk X.K ct u l) (hg : Gl X "isinstance") (hm : X.mg "isinstance" = none) (he : SE X ct W e f)
    (h1 : starEach [e, .Name x p2] X.env = (false, eval e X.env) :: starEach [.Name x p2] X.env := by rfl) : SE X ct W (.Call (.Name "isinstance" p) [e, .Name x p2] [] pos) (eIsi l f) :=
  PE.imp (pe_callB call_isi hg hm PyProof.Rows.boot_isinstance (pa_cons he (pa_cons h2 pa_nil (by rfl)) h1) (by decide) (by decide) h1 (by rfl)) fun σV H Q ⟨m, ah, σ, hr, lr, p⟩ => ⟨m, ah, σ, hr, lr, (Po.bind (R := VlR X.K ct) p).imp fun v H1 ⟨m1, h1, x, hr1, e1, r1, p1⟩ => by
    dsimp only at p1
    cases q : tyD x h1 with
    | none => rw [q] at p1; exact p1.elim
    | some t =>
      rw [q] at p1
      dsimp only at p1
      cases q2 : lookT t l with
      | none => rw [q2] at p1; exact p1.elim
      | some b =>
        rw [q2] at p1
        obtain ⟨k1, k2⟩ := ho t b q2
        exact ⟨v, c, _, u, b, rfl, hk, tyD_sound hr1 r1 q k2, k1, p1 m1 H1 _ hr1 (Ext.refl _ _ _) (.bl b)⟩⟩
/-- isinstance(e, T), T built in -/
theorem se_isiB {T : String} (hg2 : Gl X x) (hm2 : X.mg x = none) (hv : bootBuiltins x = some (.type T)) (ho : IsiOk X.K ct (.type T) l) (hg : Gl X "isinstance") (hm : X.mg "isinstance" = none) (he : SE X ct W e f) (hn : x ≠ "__name__" := by decide) (hd : (x == ("__debug__" : Str)) = false := by decide)
    (h1 : starEach [e, .Name x p2] X.env = (false, eval e X.env) :: starEach [.Name x p2] X.env := by rfl) : SE X ct W (.Call (.Name "isinstance" p) [e, .Name x p2] [] pos) (eIsi l f) :=
  pe_isi (.ty T) (pe_bltn hg2 hm2 hv (v := .ty T) rfl hn hd) ho hg hm he h1
/-- isinstance(e, C), C own -/
theorem se_isiC {C : Addr} (hg2 : Gl X x) (hm2 : X.mg x = some (.ref C)) (ho : IsiOk X.K ct (.ref C) l) (hg : Gl X "isinstance") (hm : X.mg "isinstance" = none) (he : SE X ct W e f) (hd : (x == ("__debug__" : Str)) = false := by decide)
    (h1 : starEach [e, .Name x p2] X.env = (false, eval e X.env) :: starEach [.Name x p2] X.env := by rfl) : SE X ct W (.Call (.Name "isinstance" p) [e, .Name x p2] [] pos) (eIsi l f) :=
  pe_isi (.own C) (pe_glob hg2 hm2 (v := .ref C) rfl hd) ho hg hm he h1

/-! ### == of two instances of an own class -/
def oOwn (call : CallT) (i C : Nat) : Op2 := fun x y h => match insOf x h, insOf y h with
  | some (C1, _), some (C2, _) => if C1 = C ∧ C2 = C then (match call i [x, y] h with
    | .ok (.d (.bl b)) h' => some (.d (.bl b), h')
    | _ => none) else none
  | _, _ => none
theorem own_sound {call : CallT} {i C n : Nat} {fns : List Fn} {F : Fn} (co : CallOk X.prog X.w X.K X.mg X.base ct fns call n) (hr : Room (2 * n) X.A) (hF : fns[i]? = some F)
    (hs : PySem.W.findIn X.K (.ref (ct.ca C)) "__eq__" = some (some (.ref F.f))) (hf : PySem.W.isFn X.K (.ref F.f) = true) (hb : Binds X.K F.fd F.ps []) : OpR X (compareOp .Eq) (rOp X.K ct (oOwn call i C)) := by
  intro pins s σ H x y v u Q I rx ry ⟨m, ah, a, b, h1, ra, rb, p⟩
  unfold oOwn at p
  split at p
  · rename_i C1 f1 C2 f2 q1 q2
    split at p
    · rename_i hc
      obtain ⟨rfl, rfl⟩ := hc
      obtain ⟨l1, d1, v1, rfl, g1, _⟩ := ins_of h1 q1 ra
      obtain ⟨l2, d2, v2, rfl, g2, _⟩ := ins_of h1 q2 rb
      cases rx
      cases ry
      obtain ⟨mA, J, _⟩ := ins_get I.hok g1
      obtain ⟨mB, J', _⟩ := ins_get I.hok g2
      obtain ⟨od, J, _⟩ := J.look
      obtain ⟨od', J', _⟩ := J'.look
      obtain ⟨mm, hFr⟩ := I.fr
      refine PySem.W.cmp_K (op := .Eq) (tb := .ref (ct.ca C2)) hr.units0 hFr I.ok.mod.kin J J'.type (by simp [PySem.W.notFirst]) hs hf ?_
      cases q : call i [a, b] ah with
      | bad => rw [q] at p; exact p.elim
      | exc ex h2 => rw [q] at p; exact p.elim
      | ok z h2 =>
        rw [q] at p
        split at p
        · rename_i z' bb h3 heq
          cases heq
          refine wpAny_mono (run_cl (W := W0) (Q := fun v H' => v = .bl bb ∧ Q (.bl bb) H') (us := [.ref l1, .ref l2]) (vs := [.ref l1, .ref l2]) (dvs := []) co hF hr hb .nil (fun _ _ ⟨_, _, _, _, _, _, _, _, _, _, _, _, _, _, _, _, w⟩ => w.elim) I (.cons rfl (.cons rfl .nil))
            ⟨m, ah, [a, b], h1, .cons ra (.cons rb .nil), ?_⟩) (fun w s' ⟨x, H', I', rw', e1, q'⟩ => ?_) fun _ _ z => z
          · rw [q]
            refine fun m2 H2 v2 hr2 e2 r2 => ?_
            cases r2
            exact ⟨rfl, p m2 H2 _ hr2 e2 (.bl bb)⟩
          · subst e1
            cases rw'
            exact ⟨.bl bb, H', I', rfl, q'⟩
        · exact p.elim
    · exact p.elim
  · exact p.elim
end
end Mi

/-! Mi9: enumerate over a tuple -/
namespace Mi
open PySem PySem.Spec L2

/-- the tuple at a, each item in a new pair -/
def IteT (K : PySem.W.Frag) (a : Addr) : It :=
  { go := fun i H => ∃ (xs : List V) (x : V), SqT K H a xs ∧ xs[i]? = some x
    yld := fun i H v H' => ∃ T x, v = .ref T ∧ H T = none ∧ H' = upd H T (.tup [.int (i : Nat), x]) ∧ ∀ xs, SqT K H a xs → xs[i]? = some x
    stop := fun i H => ∃ xs : List V, SqT K H a xs ∧ xs.length ≤ i }
theorem SqT.uniq {X : Cx} {pins : List (Addr × Obj)} {σ : L2.St} {H : Hp} {s : Shared} {a : Addr} {xs ys : List V} (I : Inv X pins σ H s) (h : SqT X.K H a xs) (g : SqT X.K H a ys) : xs = ys := I.tuple_inj h g
theorem turn_enumT {P : Program} {w : World} {K : PySem.W.Frag} {elts : List Expr} {kk : Nat} {tpos : Pos} (a e it : Addr) :
    Turn P w K (.Tuple elts kk tpos) (IteT K a) [e, it] e (fun i h => (∃ old, IsEnum h e it ((i : Nat) : Int) old) ∧ h.IsTupleIter it a i ∧ e ≠ it) where
  mem := List.mem_cons_self
  obj := fun i h st b hb => by
    obtain ⟨⟨old, he⟩, ⟨o, ho, hc, hd⟩, _⟩ := st
    rcases List.mem_cons.mp hb with rfl | hb
    · exact ⟨_, he, fun v q => nomatch q⟩
    · obtain rfl := List.mem_singleton.mp hb
      exact ⟨o, ho, fun v q => by rw [hd] at q; cases q⟩
  keep := fun i h h' ⟨⟨old, he⟩, hi, hne⟩ k => ⟨⟨old, k e List.mem_cons_self _ he⟩, hi.at fun o q => k it (List.mem_cons_of_mem _ (List.mem_singleton.mpr rfl)) o q, hne⟩
  item := by
    rintro X rfl rfl rfl hc i pins s σ H E I hf ⟨⟨old, he⟩, hit, hne⟩ ⟨xs, x, hq, hx⟩
    obtain ⟨its, rv, p, hz⟩ := I.tuple hq
    obtain ⟨u, hu, ru⟩ := rv.get hx
    have hel : e < s.heap.objs.size := Heap.lt_size he
    have hil : it < s.heap.objs.size := by obtain ⟨_, q, _⟩ := hit; exact Heap.lt_size q
    have nae : a ≠ e := fun z => by
      obtain ⟨o, ho, hcl, _⟩ := p
      rw [z] at ho
      have := (Option.some.inj (ho.symm.trans he))
      subst this
      exact absurd (Value.type.inj hcl) (by decide)
    have nai : a ≠ it := fun z => by
      obtain ⟨o, ho, hcl, _⟩ := p
      obtain ⟨o2, ho2, hcl2, _⟩ := hit
      rw [z] at ho
      have := (Option.some.inj (ho.symm.trans ho2))
      subst this
      exact absurd (Value.type.inj (hcl.symm.trans hcl2)) (by decide)
    have hh : X.A.in1.handled = none := I.ok.hd hc
    refine wpAny_pyNext_enum_itemD (Draws.tuple hh it a nai its.toArray) he ⟨hit, p⟩ (by have := (List.getElem?_eq_some_iff.mp hu).1; simpa using this) hne
      (fun z => by rcases List.mem_cons.mp z with q | q; exact hne q; exact nae (List.mem_singleton.mp q).symm) fun y h' tk hy ho hs' hT hsz hk => ?_
    obtain ⟨hit', hpt⟩ := hs'
    have ey : y = u := by
      have e2 : its.toArray[i]? = some u := by simpa using hu
      rw [e2] at hy
      exact (Option.some.inj hy).symm
    subst ey
    refine ⟨_, rfl, wpAny_letOwnedTupleGo_enum (s := { s with heap := h', toks := tk + 1 }) ho fun h'' he' sb => ?_⟩
    have hT2 : h''.get? s.heap.objs.size = some { cls := .type "tuple", data := .seq #[.int i tk, y] } := (sb.2 _ (Nat.ne_of_gt hel)).trans hT
    have new : ObjOk X.prog X.w (upd H s.heap.objs.size (.tup [.int (i : Nat), x])) h'' s.heap.objs.size (.tup [.int (i : Nat), x]) :=
      ⟨by show 2 ≤ sizeLine; decide, [.int i tk, y], .cons ⟨_, rfl⟩ (.cons ru .nil), ⟨_, hT2, rfl, _, rfl⟩⟩
    have mem : ∀ b, b ∉ [e, it] → b ≠ e ∧ b ≠ it := fun b hb => ⟨fun z => hb (z ▸ List.mem_cons_self), fun z => hb (z ▸ List.mem_cons_of_mem _ (List.mem_singleton.mpr rfl))⟩
    have I1 : Inv X pins σ (upd H s.heap.objs.size (.tup [.int (i : Nat), x])) { s with heap := h'', toks := tk + 1 } :=
      I.turnedNew (ch := [e, it]) (fun b ob hb q => (sb.2 b (mem b hb).1).trans (hk b ob (mem b hb).1 (mem b hb).2 q)) hf (Nat.le_refl _) new
    refine ⟨.ref s.heap.objs.size, _, I1, rfl, ⟨_, x, rfl, I.hok.fresh (Nat.le_refl _), rfl, fun ys hy => by rw [SqT.uniq I hy hq]; exact hx⟩, ⟨⟨y, ?_⟩, hit'.at fun o q => (sb.2 it (Ne.symm hne)).trans q, hne⟩, fun b hb => ?_⟩
    · rw [show ((i + 1 : Nat) : Int) = (i : Int) + 1 by omega]; exact he'
    · have hb' : b < s.heap.objs.size := by
        rcases List.mem_cons.mp hb with rfl | hb
        · exact hel
        · obtain rfl := List.mem_singleton.mp hb; exact hil
      rw [upd_ne (Nat.ne_of_lt hb')]
      exact (hf b hb).1
  done := by
    rintro X rfl rfl rfl hc i pins s σ H E I hf ⟨⟨old, he⟩, hit, hne⟩ ⟨xs, hq, hx⟩
    obtain ⟨its, rv, p, hz⟩ := I.tuple hq
    obtain ⟨f0, f1, f2, f3, f4, f5⟩ := hf it (List.mem_cons_of_mem _ (List.mem_singleton.mpr rfl))
    have hl := rv.length
    have nai : a ≠ it := fun z => by
      obtain ⟨o, ho, hcl, _⟩ := p
      obtain ⟨o2, ho2, hcl2, _⟩ := hit
      rw [z] at ho
      have := (Option.some.inj (ho.symm.trans ho2))
      subst this
      exact absurd (Value.type.inj (hcl.symm.trans hcl2)) (by decide)
    have hh : X.A.in1.in1.handled = none := I.ok.hd hc
    unfold pyNext
    refine wpAny_bind (wpAny_attempt (wpAny_callSpecial?_slot (name := Str.ofString "__next__") ⟨_, he, rfl⟩ F.slot_enumerate_next
      (wpAny_call_entry F.slot_enumerate_next ⟨_, he, rfl⟩ F.entry_enumerate_next ?_ (F.args_enumerate_next_1 _))))
    show wpAny _ _ (field (.ref e) 2 >>= _) _ _ _
    refine wpAny_bind (wpAny_field he rfl (x := .ref it) rfl ?_)
    refine wpAny_bind (wpAny_nextOf_tuple_end (A := X.A.in1) hh hit p (by simp; omega) fun h' x he' hx' => ?_)
    obtain ⟨o, ho, hc'⟩ := hx'
    refine wpAny_bind (wpAny_isInstance (T := "StopIteration") (b := true) ⟨o, ho, hc'⟩ isSubtype_stop ?_)
    exact wpAny_pure ⟨rfl, I.turned (t' := s.toks) (fun b o hb q => he' b o hb q) f0 f1 f3 f4 f5⟩
  self := fun A i s Q E ⟨⟨_, he⟩, _⟩ h => wpAny_pyIter_enum he h

abbrev tupIt (t : Addr) : Obj := { cls := .type "tuple_iterator", data := .fields #[.ref t, .int 0 0] }
abbrev enRec (it : Addr) : Obj := { cls := .type "enumerate", data := .fields #[.none, .bool false, .ref it, rawInt 0, .none, .none] }
theorem enum_newT (t : Addr) (items : Array Value) :
    Meets (Builtin.«enumerate.__new__» ⟨[.type "enumerate", .ref t], []⟩) (fun _ R s => s.heap.IsTuple t items ∧
      R (.ok (.ret (.ref (s.heap.push (tupIt t)).objs.size))) { s with heap := (s.heap.push (tupIt t)).push (enRec s.heap.objs.size) }) :=
  .of_wp fun prog w A R s h => by
    obtain ⟨hp, g, d, tk, os⟩ := s; obtain ⟨h1, h⟩ := h
    have hsub := sub_enumerate
    have q1 : ∀ {A' : Around} {E : Value → Shared → Prop} {Q : Value → Shared → Prop}, Q (.ref hp.objs.size) ⟨hp.push (tupIt t), g, d, tk, os⟩ → wpAny (model prog w) A' (pyIter (.ref t)) Q E ⟨hp, g, d, tk, os⟩ :=
      fun q => wpAny_pyIter_tuple h1 q
    wp_walk using q1
    refine wpAny_stack_any fun st => wpAny_pure ?_
    split
    · rename_i c _ _ _ _ _
      cases (c == Value.type "enumerate") <;> (wp_walk using q1; exact ⟨_, rfl, h⟩)
    · wp_walk using q1
      exact ⟨_, rfl, h⟩
theorem call_enumT {prog : Program} {w : World} {A : Around} {E : Value → Shared → Prop} {s : Shared} {t : Addr} {items : Array Value} {Q : Value → Shared → Prop} (hL : s.heap.IsTuple t items)
    (h : ∀ h', IsEnum h' (s.heap.objs.size + 1) s.heap.objs.size 0 .none → h'.IsTupleIter s.heap.objs.size t 0 →
      (∀ b o, s.heap.get? b = some o → h'.get? b = some o) → Q (.ref (s.heap.objs.size + 1)) { s with heap := h' }) :
    wpAny (model prog w) A (call (.type "enumerate") [.ref t]) Q E s := by
  refine callType_new F.called_enumerate (by decide) (F.typeCall_enumerate_1 _) (F.newCall_enumerate_1 _) (fun obj => F.args_object_init_2 obj _) F.entry_enumerate_new (enum_newT t items) ⟨hL, ?_⟩
  have hz : (s.heap.push (tupIt t)).objs.size = s.heap.objs.size + 1 := Heap.size_push ..
  have he : ((s.heap.push (tupIt t)).push (enRec s.heap.objs.size)).get? (s.heap.objs.size + 1) = some (enRec s.heap.objs.size) := by
    rw [← hz]; exact Heap.get?_push_size _ rfl
  show _ ∧ _
  rw [hz]
  exact ⟨⟨_, he, rfl⟩, h _ he ⟨_, Heap.get?_push_of_some _ (Heap.get?_push_size _ rfl), rfl, rfl⟩ fun b o x => Heap.get?_push_of_some _ (Heap.get?_push_of_some _ x)⟩

def iEnumT (K : PySem.W.Frag) (ta : TA) : TI := fun σ H R => ta σ H fun vs H1 => ∃ a xs, vs = [.ref a] ∧ SqT K H1 a xs ∧ R (IteT K a) H1
section
variable {X : Cx} {ct : CT} {W : WX} {e : Expr} {ta : TA} {p pos tpos : Pos} {elts : List Expr} {kk : Nat} {fs : SemA}
theorem pi_enumT (hg : Gl X "enumerate") (hm : X.mg "enumerate" = none) (ha : PA X [e] ta) (hs : starEach [e] X.env = [(false, eval e X.env)] := by rfl) :
    PI X (.Tuple elts kk tpos) (.Call (.Name "enumerate" p) [e] [] pos) (iEnumT X.K ta) := by
  refine ⟨fun pins s σ H R I h => ?_⟩
  refine PyProof.Rows.Call_ (ld_blt I hg hm PyProof.Rows.boot_enumerate (PyProof.Rows.callWith_type1 (thn (ha.run pos pins s σ H _ I h) fun us s1 ⟨vs, H1, I1, r1, a, xs, ex, hq, q⟩ => ?_) hs rfl))
  subst ex
  obtain ⟨u, rfl, r⟩ := r1.one
  cases r
  obtain ⟨its, rv, p', hz⟩ := I1.tuple hq
  refine call_enumT p' fun h' he hit hk => wpAny_pyIter_enum he ?_
  refine ⟨s1.heap.objs.size + 1, [s1.heap.objs.size + 1, s1.heap.objs.size], _, _, H1, rfl, I1.kept (t' := s1.toks) hk, turn_enumT a (s1.heap.objs.size + 1) s1.heap.objs.size, ⟨⟨.none, he⟩, hit, Nat.succ_ne_self _⟩, fun b hb => ?_, q⟩
  have hle : s1.heap.objs.size ≤ b := by
    rcases List.mem_cons.mp hb with rfl | hb
    · exact Nat.le_add_right _ _
    · obtain rfl := List.mem_singleton.mp hb; exact Nat.le_refl _
  exact I1.fpOk hle (I1.hok.fresh hle)
theorem wks_enumT {K : PySem.W.Frag} {m : List Addr} {ah : Hs} {H : Hp} {a : Addr} {ds : List D} {vs : List V} (h : (Rd H a (.tup vs) ∧ Sf m ah a) ∨ TupW K a vs) (r : DRs K ct (Sf m ah) H ds vs) : Wks K ct (enumD ds) m ah H (IteT K a) := fun m2 h2 H2 hr ex => by
  have h' : SqT K H2 a vs := sqT_of (sqT_ext ex h)
  have r' := r.mono ex
  refine ⟨fun i hi => ⟨vs, h', by rw [← r.length]; rw [enumD_len] at hi; exact hi⟩, fun i d hd => ?_⟩
  rw [enumD_get] at hd
  cases q : ds[i]? with
  | none => rw [q] at hd; cases hd
  | some d0 =>
    rw [q] at hd; cases hd
    obtain ⟨y, hy, ry⟩ := r'.get q
    refine ⟨⟨vs, y, h', hy⟩, fun x H3 hx => ?_⟩
    obtain ⟨T, x1, rfl, hT, rfl, hx⟩ := hx
    have e := hx vs h'
    rw [hy] at e
    cases e
    exact pair_new hr hT (.int _) ry
def iEnT (f : SemA) : SemI := fun σ h => rb (f σ h) fun xs h1 => match xs with
  | [.d (.tup ds)] => .ok (enumD ds) h1
  | _ => .bad
theorem si_enumT (hg : Gl X "enumerate") (hm : X.mg "enumerate" = none) (ha : SA X ct W [e] fs) (hs : starEach [e] X.env = [(false, eval e X.env)] := by rfl) : SI X ct W (.Tuple elts kk tpos) (.Call (.Name "enumerate" p) [e] [] pos) (iEnT fs) :=
  PI.imp (pi_enumT hg hm ha hs) fun σV H R ⟨m, ah, σ, hr, lr, p⟩ => ⟨m, ah, σ, hr, lr, (Po.bind (R := VlRs X.K ct) p).imp fun vs H1 ⟨m1, h1, xs, hr1, e1, r1, p1⟩ => by
    dsimp only at p1
    split at p1
    · cases r1 with
      | cons r t =>
        cases t
        cases r with
        | tup h r => exact ⟨_, _, rfl, sqT_of h, p1 m1 H1 _ hr1 (Ext.refl _ _ _) (wks_enumT h r)⟩
    · exact p1.elim⟩
end
end Mi

/-! Mi10: what the printed parts lean on: names, facts, the head's own hook, the law's end -/
namespace Mi
open PySem PySem.Spec L2

/-! ### a list or a tuple is walked -/
def iSeq (f : SemE) : SemI := iOf pureSeq f
theorem si_seq {X : Cx} {ct : CT} {W : WX} {tg e : Expr} {f : SemE} (he : SE X ct W e f) : SI X ct W tg e (iSeq f) :=
  ⟨fun pins s σV H R I ⟨m, ah, σ, hr, lr, p⟩ => by
    unfold iSeq iOf at p
    cases q : f σ ah with
    | bad => rw [q] at p; exact p.elim
    | exc e h => rw [q] at p; exact (si_list he).run pins s σV H R I ⟨m, ah, σ, hr, lr, by unfold iLs iOf; rw [q]; exact p⟩
    | ok x h =>
      rw [q] at p
      cases q2 : pureLst x with
      | some ds =>
        refine (si_list he).run pins s σV H R I ⟨m, ah, σ, hr, lr, ?_⟩
        unfold iLs iOf
        rw [q]
        have e3 : pureSeq x = some ds := by
          cases x with
          | r k => cases q2
          | d d => cases d <;> first | exact q2 | cases q2
        simp only [rb_ok, e3] at p
        simp only [rb_ok, q2]
        exact p
      | none =>
        cases q3 : pureTup x with
        | some ds =>
          refine (si_tup he).run pins s σV H R I ⟨m, ah, σ, hr, lr, ?_⟩
          unfold iTu iOf
          rw [q]
          have e3 : pureSeq x = some ds := by
            cases x with
            | r k => cases q3
            | d d => cases d <;> first | exact q3 | cases q3
          simp only [rb_ok, e3] at p
          simp only [rb_ok, q3]
          exact p
        | none =>
          have e3 : pureSeq x = none := by
            cases x with
            | r k => rfl
            | d d => cases d <;> first | rfl | (cases q2; done) | (cases q3; done)
          simp only [rb_ok, e3] at p
          exact p.elim⟩

/-! ### names of attributes -/
def nmL (l : List Str) (n : Nat) : Str := match l[n]? with
  | some x => x
  | none => ⟨Array.replicate (n + 1) 0⟩
def okL (l : List Str) : Bool := decide l.Nodup && l.all fun x => x.cps[0]? != some 0
theorem nmL_new {l : List Str} {x : Str} (h1 : x ∉ l) (h2 : x.cps[0]? ≠ some 0) (n : Nat) : nmL l n ≠ x := fun e => by
  unfold nmL at e
  split at e
  · rename_i y hy
    subst e
    exact h1 (List.mem_of_getElem? hy)
  · subst e
    exact h2 (by simp)
theorem nmL_inj {l : List Str} (h : okL l = true) (a b : Nat) (e : nmL l a = nmL l b) : a = b := by
  unfold okL at h
  simp only [Bool.and_eq_true, decide_eq_true_eq, List.all_eq_true, bne_iff_ne, ne_eq] at h
  obtain ⟨nd, nz⟩ := h
  unfold nmL at e
  cases ha : l[a]? with
  | some x =>
    rw [ha] at e
    cases hb : l[b]? with
    | some y =>
      rw [hb] at e
      dsimp only at e
      subst e
      have la := (List.getElem?_eq_some_iff.mp ha).1
      exact (List.getElem?_inj la nd).mp (ha.trans hb.symm)
    | none =>
      rw [hb] at e
      dsimp only at e
      exact absurd (by rw [e]; simp) (nz x (List.mem_of_getElem? ha))
  | none =>
    rw [ha] at e
    cases hb : l[b]? with
    | some y =>
      rw [hb] at e
      dsimp only at e
      exact absurd (by rw [← e]; simp) (nz y (List.mem_of_getElem? hb))
    | none =>
      rw [hb] at e
      dsimp only at e
      have := congrArg (fun z : Str => z.cps.size) e
      simpa using this

/-! ### what is known of the written part -/
/-- the answers of isinstance with a built-in class -/
abbrev isiL (t : List String) : List (Ty × Bool) := ["NoneType", "bool", "int", "str", "tuple", "list", "dict"].map fun a => (Ty.b a, decide (a ∈ t))
theorem isi_int {K : PySem.W.Frag} {ct : CT} : IsiOk K ct (.type "int") (isiL ["int", "bool"]) := isi_any (by decide +kernel) [("NoneType", false), ("bool", true), ("int", true), ("str", false), ("tuple", false), ("list", false), ("dict", false)] (by decide +kernel)
theorem isi_bool {K : PySem.W.Frag} {ct : CT} : IsiOk K ct (.type "bool") (isiL ["bool"]) := isi_any (by decide +kernel) [("NoneType", false), ("bool", true), ("int", false), ("str", false), ("tuple", false), ("list", false), ("dict", false)] (by decide +kernel)
theorem isi_str {K : PySem.W.Frag} {ct : CT} : IsiOk K ct (.type "str") (isiL ["str"]) := isi_any (by decide +kernel) [("NoneType", false), ("bool", false), ("int", false), ("str", true), ("tuple", false), ("list", false), ("dict", false)] (by decide +kernel)
theorem isi_tuple {K : PySem.W.Frag} {ct : CT} : IsiOk K ct (.type "tuple") (isiL ["tuple"]) := isi_any (by decide +kernel) [("NoneType", false), ("bool", false), ("int", false), ("str", false), ("tuple", true), ("list", false), ("dict", false)] (by decide +kernel)
theorem isi_list {K : PySem.W.Frag} {ct : CT} : IsiOk K ct (.type "list") (isiL ["list"]) := isi_any (by decide +kernel) [("NoneType", false), ("bool", false), ("int", false), ("str", false), ("tuple", false), ("list", true), ("dict", false)] (by decide +kernel)
theorem isi_dict {K : PySem.W.Frag} {ct : CT} : IsiOk K ct (.type "dict") (isiL ["dict"]) := isi_any (by decide +kernel) [("NoneType", false), ("bool", false), ("int", false), ("str", false), ("tuple", false), ("list", false), ("dict", true)] (by decide +kernel)
/-- what a call of a def leans on -/
structure FnI (K : PySem.W.Frag) (F : Fn) : Prop where
  kp : PySem.W.keepIn K (.ref F.f) = true
  bi : Binds K F.fd F.ps []
/-- .. of the context -/
structure Cq (X : Cx) (ct : CT) (fns : List Fn) (call : CallT) (n : Nat) : Prop where
  co : CallOk X.prog X.w X.K X.mg X.base ct fns call n
  ro : Room (2 * n + 1) X.A
theorem takesW {X : Cx} : Takes X W0 := fun _ _ ⟨_, _, _, _, _, _, _, _, _, _, _, _, _, _, _, _, w⟩ => w.elim
section
variable {X : Cx} {ct : CT} {W : WX} {pos p apos : Pos} {e o : Expr} {es : List Expr} {f : SemE} {fs : SemA} {call : CallT} {n i : Nat} {F : Fn} {x : Str} {fns : List Fn}
theorem sc_call (c : Cq X ct fns call n) (tk : Takes X W) (fi : FnI X.K F) (hm : X.mg x = some (.ref F.f)) (hF : fns[i]? = some F) (hg : Gl X x) (ha : SA X ct W (e :: es) fs) (hdb : (x == ("__debug__" : Str)) = false := by decide)
    (he : starEach (e :: es) X.env = (false, eval e X.env) :: starEach es X.env := by rfl) (hpl : (backTo pos (starEach es X.env)).any (·.1) = false := by rfl) : SE X ct W (.Call (.Name x p) (e :: es) [] pos) (eCl call i [] fs) :=
  se_call c.co tk (c.ro.mono (Nat.le_succ _)) hF hg hm fi.kp fi.bi .nil Dfl.nil ha hdb he hpl
theorem sc_call0 (c : Cq X ct fns call n) (tk : Takes X W) (fi : FnI X.K F) (hm : X.mg x = some (.ref F.f)) (hF : fns[i]? = some F) (hg : Gl X x) (hdb : (x == ("__debug__" : Str)) = false := by decide) : SE X ct W (.Call (.Name x p) [] [] pos) (eCl call i [] aNil) :=
  se_call0 c.co tk (c.ro.mono (Nat.le_succ _)) hF hg hm fi.kp fi.bi .nil Dfl.nil hdb
theorem sc_make {C : Nat} (c : Cq X ct fns call n) (tk : Takes X W) (fi : FnI X.K F) (M : Mk X.K (ct.ca C) F.f) (hm : X.mg x = some (.ref (ct.ca C))) (hF : fns[i]? = some F) (hg : Gl X x) (ha : SA X ct W (e :: es) fs) (hdb : (x == ("__debug__" : Str)) = false := by decide)
    (he : starEach (e :: es) X.env = (false, eval e X.env) :: starEach es X.env := by rfl) (hpl : (backTo pos (starEach es X.env)).any (·.1) = false := by rfl) : SE X ct W (.Call (.Name x p) (e :: es) [] pos) (eMk call i C [] fs) :=
  se_make c.co tk c.ro hF M hg hm fi.bi .nil Dfl.nil ha hdb he hpl
theorem sc_own {C : Nat} (c : Cq X ct fns call n) (fi : FnI X.K F) (M : Meth X.K (ct.ca C) "__eq__" F.f) (hF : fns[i]? = some F) : OpR X (compareOp .Eq) (rOp X.K ct (oOwn call i C)) :=
  own_sound c.co (c.ro.mono (Nat.le_succ _)) hF M.at_ M.fn fi.bi
theorem unR {k : Nat} {A : Around} (r : Room k A) : A.units + 64 < cLine := by have := r.un; omega
theorem unR5 {k : Nat} {A : Around} (r : Room k A) : A.units + 65 < cLine := by have := r.un; omega
theorem un (c : Cq X ct fns call n) : X.A.units + 65 < cLine := by have := c.ro.un; omega
theorem un' (c : Cq X ct fns call n) : X.A.units + 64 < cLine := by have := c.ro.un; omega
end

/-! ### a head that tells further facts -/
open He in
def obsM (xf : PySem.W.Frag → Bool) (fa : List Fa) (fn : List DefD) (K : PySem.W.Frag) : Bool × AlD := (xf K, obsD fa fn K)
open He in
def SaysM (xf : PySem.W.Frag → Bool) (fa : List Fa) (fn : List DefD) (K : PySem.W.Frag) : Prop := obsM xf fa fn K = (true, valD fn)
open He in
def obsMG (n : Nat) (xf : PySem.W.Frag → Bool) (fa : List Fa) (fn : List DefD) (g : Addr → Option Obj) : Bool × AlD := obsM xf fa fn (frG g (asD g n))
open He in
def hookM (n : Nat) (xf : PySem.W.Frag → Bool) (fa : List Fa) (fn : List DefD) : PySem.W.Hook where
  α := Bool × AlD
  obs := fun s => obsMG n xf fa fn s.heap.get?
  val := fun _ => (true, valD fn)
  says := fun _ h => ∃ K : PySem.W.Frag, K.In h ∧ SaysM xf fa fn K
  of := fun _ _ e => ⟨_, frG_in, e⟩
  keeps := fun _ _ _ ⟨K, hK, c⟩ k => ⟨K, PySem.W.Frag.In.keeps hK k, c⟩
open He in
theorem obsMG_eq {n : Nat} {xf : PySem.W.Frag → Bool} {fa : List Fa} {fn : List DefD} {g : Addr → Option Obj} {s : Shared} (h : ∀ a, g a = s.heap.get? a) : obsMG n xf fa fn g = (hookM n xf fa fn).obs s := by
  rw [show g = s.heap.get? from funext h]; rfl
theorem SaysM.d {xf : PySem.W.Frag → Bool} {fa : List He.Fa} {fn : List He.DefD} {K : PySem.W.Frag} (c : SaysM xf fa fn K) : He.SaysD fa fn K := congrArg (fun z : Bool × He.AlD => z.2) c
theorem SaysM.x {xf : PySem.W.Frag → Bool} {fa : List He.Fa} {fn : List He.DefD} {K : PySem.W.Frag} (c : SaysM xf fa fn K) : xf K = true := congrArg (fun z : Bool × He.AlD => z.1) c
/-- the facts of isinstance that a class has -/
def isiB (K : PySem.W.Frag) (C : Addr) : Bool := He.eqO (PySem.W.findIn K (.ref C) "__class__") (some (some (.builtin "object.__class__"))) &&
  (He.eqO (PySem.W.specialIn K (.builtin "object.__class__") "__get__") (some (some (.builtin "getset_descriptor.__get__"))) &&
    (decide (PySem.W.takesIn K (.builtin "object.__class__") = some true) && decide (PySem.W.mroIn K C (.type "object") = some true)))
theorem isiB_ok {K : PySem.W.Frag} {C : Addr} (c : Cls K C) (h : isiB K C = true) : IsiC K C := by
  unfold isiB at h
  simp only [Bool.and_eq_true, decide_eq_true_eq] at h
  exact ⟨c, He.eqO_ok h.1, He.eqO_ok h.2.1, h.2.2.1, h.2.2.2⟩
def kitA (K : PySem.W.Frag) (t u : Value) (b : Bool) : Bool := decide (PySem.W.kitOne K t u = some b)
theorem kitA_ok {K : PySem.W.Frag} {t u : Value} {b : Bool} (h : kitA K t u b = true) : PySem.W.kitOne K t u = some b := of_decide_eq_true h
def clsDef (s : Stmt) (i : Nat) : Stmt := match s with
  | .ClassDef _ _ _ b _ _ _ _ _ _ _ => b.getD i (.Pass ⟨0, 0, 0, 0⟩)
  | s => s

/-! ### the law's end -/
/-- the script as it comes in -/
theorem scr_in {K : PySem.W.Frag} {ct : CT} {H : Hp} {a : Addr} {ns : List Int} (hO : Only H) (h : SqL K H a (ns.map V.int)) : HR K ct [] [] H ∧ DR K ct (Sf [] []) H (.scr (ns.map D.int)) (.ref a) := by
  have r : DRs K ct (Sf [] []) H (ns.map D.int) (ns.map V.int) := by
    clear h hO
    induction ns with
    | nil => exact .nil
    | cons n ns ih => exact .cons (.int n) ih
  have s : Sf [] [] a := fun ⟨k, o, e, _⟩ => by simp at e
  refine ⟨⟨rfl, fun i j a e => by simp at e, fun k a o e => by simp at e⟩, ?_⟩
  refine .scr (h.imp (fun h => ⟨?_, s⟩) id) r
  rcases h with h | h
  · rcases hO a with z | ⟨o, xs, z⟩ <;> rw [z] at h <;> cases h
  · exact h
end Mi

/-! Mi11: the end of a law -/
namespace Mi
open PySem PySem.Spec L2

theorem FnOk.still {P : Program} {w : World} {K : PySem.W.Frag} {mg : Str → Option Value} {base : Heap} {k : Nat} {f : Addr} {fd : FuncData} {ps : List Str} {sp : Sp} (F : FnOk P w K mg base (L2.CX P w) k f fd ps sp) :
    FnOk P w K mg base L2.CX0 k f fd ps (fun vs H Q _ => sp vs H Q fun _ _ _ => False) :=
  ⟨fun vs H Q E h => F.len vs H Q _ h, fun A outer s H args us vs Q E hr e0 hb r h => codeAny_mono (F.run A outer s H args us vs Q _ hr e0 hb r h) fun r s' q => by
    cases r with
    | error e => obtain ⟨_, _, _, _, _, _, _, _, _, _, _, _, z⟩ := q; exact z.elim
    | ok fl => cases fl <;> exact q⟩
theorem law_sp {K : PySem.W.Frag} {ct : CT} {defs : List MDef} {n i : Nat} (hlaw : ∀ ns : List Int, ns.length ≤ 63 → ∃ h, callF defs n i [.d (.scr (ns.map D.int))] [] = .ok (.d (.bl true)) h)
    (H : Hp) (a : Addr) (ns : List Int) (hl : ns.length ≤ 63) (hO : Only H) (hS : SqL K H a (ns.map V.int)) : spC K ct (callF defs n) i [.ref a] H (fun v _ => v = .bl true) (fun _ _ _ => False) := by
  obtain ⟨h, e⟩ := hlaw ns hl
  refine ⟨[], [], [.d (.scr (ns.map D.int))], (scr_in (ct := ct) hO hS).1, .cons (scr_in hO hS).2 .nil, ?_⟩
  rw [e]
  intro m' H' v _ _ r
  cases r
  rfl
end Mi

/-! Mi12: meanings at work: what each combinator gives where it is applied; rules for loops; == of data -/
namespace Mi
open PySem

/-- what range(j) walks -/
def rngR (xs : List Vl) (h1 : Hs) : Res (List D) := match xs with
  | [.d (.int j)] => if smI j = true then .ok (rngD 0 j.toNat) h1 else .bad
  | _ => .bad
theorem rngR_int {i : Int} {h : Hs} (h0 : 0 ≤ i) (h1 : i < 16777216) : rngR [.d (.int i)] h = .ok (rngD 0 i.toNat) h := if_pos (Nat.ble_eq_true_of_le (by omega))
theorem rngR_nat {k : Nat} {h : Hs} (h1 : k < 16777216) : rngR [.d (.int (k : Int))] h = .ok (rngD 0 k) h := by
  rw [rngR_int (by omega) (by omega), Int.toNat_natCast]
/-- tuple(range(n)) -/
def trR (x : Vl) (h1 : Hs) : Res Vl := match x with
  | .d (.int n) => if smR n = true then .ok (.d (.tup (rngD 0 n.toNat))) h1 else .bad
  | _ => .bad
theorem trR_nat {k : Nat} {h : Hs} (h1 : k < 16777216) : trR (.d (.int (k : Int))) h = .ok (.d (.tup (rngD 0 k))) h := by
  unfold trR
  dsimp only
  rw [if_pos (by unfold smR; rw [decide_eq_true (by omega : (0 : Int) ≤ (k : Int)), Bool.true_and]; exact Nat.ble_eq_true_of_le (by omega)), Int.toNat_natCast]
section
variable {σ : Lo} {h : Hs} {f g k : SemE} {t u : SemT} {fs : SemA} {p q : SemS} {call : CallT}
@[simp] theorem ap_var (i : Nat) : eVar i σ h = (match σ[i]? with
  | some (some v) => .ok v h
  | _ => .bad) := rfl
@[simp] theorem ap_k (d : D) : eK d σ h = .ok (.d d) h := rfl
@[simp] theorem ap_bin (op : Op2) : eBin op f g σ h = rb (f σ h) fun x h1 => rb (g σ h1) fun y h2 => ro (op x y h2) := rfl
@[simp] theorem ap_un (op : Op1) : eUn op f σ h = rb (f σ h) fun x h1 => ro (op x h1) := rfl
@[simp] theorem ap_chain (o o' : Op2) : eChain o o' f g k σ h = rb (f σ h) fun x h1 => rb (g σ h1) fun y h2 => rb (ro (o x y h2)) fun z h3 => match z with
  | .d (.bl b) => if b = true then rb (k σ h3) fun w h4 => ro (o' y w h4) else .ok (.d (.bl false)) h3
  | _ => .bad := rfl
@[simp] theorem ap_if : eIf t f g σ h = rb (t σ h) fun b h1 => if b = true then f σ h1 else g σ h1 := rfl
@[simp] theorem ap_an : eAn f g σ h = rb (f σ h) fun x h1 => match truO x h1 with
  | some b => if b = true then g σ h1 else .ok x h1
  | none => .bad := rfl
@[simp] theorem ap_or : eOr f g σ h = rb (f σ h) fun x h1 => match truO x h1 with
  | some b => if b = true then .ok x h1 else g σ h1
  | none => .bad := rfl
@[simp] theorem ap_no : eNo f σ h = rb (f σ h) fun x h1 => match truO x h1 with
  | some b => .ok (.d (.bl (!b))) h1
  | none => .bad := rfl
@[simp] theorem ap_tru : tTru f σ h = rb (f σ h) fun x h1 => match truO x h1 with
  | some b => .ok b h1
  | none => .bad := rfl
@[simp] theorem ap_tbl : tBl f σ h = rb (f σ h) fun x h1 => match x with
  | .d (.bl b) => .ok b h1
  | _ => .bad := rfl
@[simp] theorem ap_tan : tAn t u σ h = rb (t σ h) fun b h1 => if b = true then u σ h1 else .ok false h1 := rfl
@[simp] theorem ap_tor : tOr' t u σ h = rb (t σ h) fun b h1 => if b = true then .ok true h1 else u σ h1 := rfl
@[simp] theorem ap_tno : tNo t σ h = rb (t σ h) fun b h1 => .ok (!b) h1 := rfl
@[simp] theorem ap_tys : tYs σ h = .ok true h := rfl
@[simp] theorem ap_nil : aNil σ h = .ok [] h := rfl
@[simp] theorem ap_cons : aCons f fs σ h = rb (f σ h) fun x h1 => rb (fs σ h1) fun xs h2 => .ok (x :: xs) h2 := rfl
@[simp] theorem ap_tup : eTup fs σ h = rb (fs σ h) fun xs h1 => match toDs xs h1 with
  | some (ds, h2) => if ds.length ≤ 1000 then .ok (.d (.tup ds)) h2 else .bad
  | none => .bad := rfl
@[simp] theorem ap_lv : eLv fs σ h = rb (fs σ h) fun xs h1 => match toDs xs h1 with
  | some (ds, h2) => if ds.length ≤ 1000 then .ok (.d (.lv ds)) h2 else .bad
  | none => .bad := rfl
@[simp] theorem ap_lst : eLst fs σ h = rb (fs σ h) fun xs h1 => match toDs xs h1 with
  | some (ds, h2) => if ds.length ≤ 1000 then .ok (.r h2.length) (h2 ++ [.lst ds]) else .bad
  | none => .bad := rfl
@[simp] theorem ap_onone : oNone σ h = .ok none h := rfl
@[simp] theorem ap_osome : oSome f σ h = rb (f σ h) fun x h1 => match x with
  | .d (.int i) => .ok (some i) h1
  | _ => .bad := rfl
@[simp] theorem ap_sl (lo hi : SemO) : eSl f lo hi σ h = rb (f σ h) fun x h1 => rb (lo σ h1) fun a h2 => rb (hi σ h2) fun b h3 => ro (slO x a b h3) := rfl
@[simp] theorem ap_n (op : OpN) : eN op fs σ h = rb (fs σ h) fun xs h1 => ro (op xs h1) := rfl
@[simp] theorem ap_cl (i : Nat) (ds : List D) : eCl call i ds fs σ h = rb (fs σ h) fun xs h1 => call i (xs ++ ds.map Vl.d) h1 := rfl
@[simp] theorem ap_mk (i C : Nat) (ds : List D) : eMk call i C ds fs σ h = rb (fs σ h) fun xs h1 => mkI call i C (xs ++ ds.map Vl.d) h1 := rfl
@[simp] theorem ap_fd (ok : Nat → Bool) (n : Nat) : eFd ok n f σ h = rb (f σ h) fun x h1 => match insOf x h1 with
  | some (C, fs) => if ok C = true then (match fs.lookup n with
    | some d => .ok (.d d) h1
    | none => .bad) else .bad
  | none => .bad := rfl
@[simp] theorem ap_isi (l : List (Ty × Bool)) : eIsi l f σ h = rb (f σ h) fun x h1 => match tyD x h1 with
  | some t => (match lookT t l with
    | some b => .ok (.d (.bl b)) h1
    | none => .bad)
  | none => .bad := rfl
@[simp] theorem ap_tr : eTR f σ h = rb (f σ h) trR := congrFun (funext fun (_ : Unit) => rfl : (fun _ => eTR f σ h) = fun _ : Unit => rb (f σ h) trR) ()
@[simp] theorem ap_lc (mu : Bool) (vs : List Nat) (it : SemI) (gg : SemG) : eLc mu vs it gg t f σ h = rb (it σ h) fun ds h1 => match cmpL vs gg t f h1.length ds σ (h1 ++ [.lst []]) with
  | some h2 => lcEnd mu h1.length h2
  | none => .bad := rfl
@[simp] theorem ap_lm (op : List D → List D → Hs → Option (List D × Vl)) : eLm op f fs σ h = rb (f σ h) fun x h1 => match x with
  | .r k => (match h1[k]? with
    | some (.lst _) => rb (fs σ h1) fun ys h2 => (match h2[k]? with
      | some (.lst xs) => (match toDs ys h2 with
        | some (ds, h3) => (match h3[k]? with
          | some (.lst _) => (match op xs ds h3 with
            | some (xs', v) => .ok v (h3.set k (.lst xs'))
            | none => .bad)
          | _ => .bad)
        | none => .bad)
      | _ => .bad)
    | _ => .bad)
  | _ => .bad := rfl
@[simp] theorem ap_xt : eXt f fs σ h = rb (f σ h) fun x h1 => match x with
  | .r k => (match h1[k]? with
    | some (.lst _) => rb (fs σ h1) fun ys h2 => (match ys, h2[k]? with
      | [y], some (.lst xs) => (match pureSeq y with
        | some zs => if xs.length + zs.length ≤ sizeLine then .ok (.d .non) (h2.set k (.lst (xs ++ zs))) else .bad
        | none => .bad)
      | _, _ => .bad)
    | _ => .bad)
  | _ => .bad := rfl
@[simp] theorem ap_snil : sNil σ h = .ok .nx σ h := rfl
@[simp] theorem ap_sq : sSq p q σ h = ss (p σ h) q := rfl
@[simp] theorem ap_ex : sEx f σ h = sb (f σ h) σ fun _ h1 => .ok .nx σ h1 := rfl
@[simp] theorem ap_rt : sRt f σ h = sb (f σ h) σ fun x h1 => .ok (.ret x) σ h1 := rfl
@[simp] theorem ap_rtn : sRtN σ h = .ok (.ret (.d .non)) σ h := rfl
@[simp] theorem ap_sif : sIf t p q σ h = sb (t σ h) σ fun b h1 => if b = true then p σ h1 else q σ h1 := rfl
@[simp] theorem ap_brk : sBrk σ h = .ok .brk σ h := rfl
@[simp] theorem ap_cnt : sCnt σ h = .ok .cnt σ h := rfl
@[simp] theorem ap_sbad : sBad σ h = .bad := rfl
@[simp] theorem ap_frz (i : Nat) : sFrz i σ h = (match σ[i]? with
  | some (some x) => (match toD x h with
    | some (d, h1) => .ok .nx (σ.set i (some (.d d))) h1
    | none => .bad)
  | _ => .bad) := rfl
@[simp] theorem ap_as (gg : SemG) : sAs f gg σ h = sb (f σ h) σ fun x h1 => match gg x σ h1 with
  | some (σ', h2) => .ok .nx σ' h2
  | none => .bad := rfl
@[simp] theorem ap_au (i : Nat) (op : Op2) : sAu i op f σ h = (match σ[i]? with
  | some (some x) => sb (f σ h) σ fun y h1 => match op x y h1 with
    | some (z, h2) => .ok .nx (σ.set i (some z)) h2
    | none => .bad
  | _ => .bad) := rfl
@[simp] theorem ap_sfd (ok : Nat → Bool) (n : Nat) : sFd ok n f g σ h = sb (g σ h) σ fun y h1 => match toD y h1 with
  | none => .bad
  | some (d, h2) => sb (f σ h2) σ fun x h3 => match x with
    | .r k => (match h3[k]? with
      | some (.ins C fs) => if ok C = true ∧ fs.length < 900 then .ok .nx σ (h3.set k (.ins C (putN n d fs))) else .bad
      | _ => .bad)
    | _ => .bad := rfl
@[simp] theorem ap_for (it : SemI) (gg : SemG) : sFor it gg p σ h = sb (it σ h) σ fun ds h1 => forL gg p ds σ h1 := rfl
@[simp] theorem ap_gnm (i : Nat) (x : Vl) : gNm i x σ h = some (σ.set i (some x), h) := rfl
@[simp] theorem ap_gni : gNi [] σ h = some (σ, h) := rfl
@[simp] theorem ap_gco (gg : SemG) (gs : SemGs) (x : D) (xs : List D) : gCo gg gs (x :: xs) σ h = (gg (.d x) σ h).bind fun p => gs xs p.1 p.2 := rfl
@[simp] theorem ap_gtp (n : Nat) (gs : SemGs) (xs : List D) : gTp n gs (.d (.tup xs)) σ h = if xs.length = n then gs xs σ h else none := rfl
@[simp] theorem ap_gst (x : Vl) : gSt f g x σ h = (match toD x h with
  | none => none
  | some (d, h0) => match f σ h0 with
    | .ok (.r k) h1 => (match g σ h1 with
      | .ok (.d (.int i)) h2 => (match h2[k]? with
        | some (.lst xs) => (match L2.ixN xs.length i with
          | some j => some (σ, h2.set k (.lst (xs.set j d)))
          | none => none)
        | _ => none)
      | _ => none)
    | _ => none) := rfl
@[simp] theorem ap_ia1 : iA1 fs σ h = rb (fs σ h) rngR := congrFun (funext fun (_ : Unit) => rfl : (fun _ => iA1 fs σ h) = fun _ : Unit => rb (fs σ h) rngR) ()
@[simp] theorem ap_ia2 : iA2 fs σ h = rb (fs σ h) fun xs h1 => match xs with
  | [.d (.int i), .d (.int j)] => if smI i = true ∧ smI j = true then .ok (rngD i (j - i).toNat) h1 else .bad
  | _ => .bad := rfl
@[simp] theorem ap_iseq : iSeq f σ h = rb (f σ h) fun x h1 => match pureSeq x with
  | some xs => .ok xs h1
  | none => .bad := rfl
@[simp] theorem ap_ient : iEnT fs σ h = rb (fs σ h) fun xs h1 => match xs with
  | [.d (.tup ds)] => .ok (enumD ds) h1
  | _ => .bad := rfl
end
@[simp] theorem toD_d (d : D) (h : Hs) : toD (.d d) h = some (d, h) := rfl
@[simp] theorem toDs_nil (h : Hs) : toDs [] h = some ([], h) := rfl
@[simp] theorem toDs_d (d : D) (xs : List Vl) (h : Hs) : toDs (.d d :: xs) h = (toDs xs h).map fun q => (d :: q.1, q.2) := rfl
@[simp] theorem pureSeq_tup (xs : List D) : pureSeq (.d (.tup xs)) = some xs := rfl
@[simp] theorem pureSeq_lv (xs : List D) : pureSeq (.d (.lv xs)) = some xs := rfl
@[simp] theorem seqOf_tup (xs : List D) (h : Hs) : seqOf (.d (.tup xs)) h = some xs := rfl
@[simp] theorem seqOf_lv (xs : List D) (h : Hs) : seqOf (.d (.lv xs)) h = some xs := rfl
@[simp] theorem lstOf_lv (xs : List D) (h : Hs) : lstOf (.d (.lv xs)) h = some xs := rfl
@[simp] theorem insOf_ins (C : Nat) (fs : List (Nat × D)) (h : Hs) : insOf (.d (.ins C fs)) h = some (C, fs) := rfl
@[simp] theorem insOf_r (k : Nat) (h : Hs) : insOf (.r k) h = (match h[k]? with
  | some (.ins C fs) => some (C, fs)
  | _ => none) := rfl
@[simp] theorem insOf_tup (xs : List D) (h : Hs) : insOf (.d (.tup xs)) h = none := rfl
@[simp] theorem insOf_lv (xs : List D) (h : Hs) : insOf (.d (.lv xs)) h = none := rfl
@[simp] theorem tyD_int (i : Int) (h : Hs) : tyD (.d (.int i)) h = some (.b "int") := rfl
@[simp] theorem tyD_bl (i : Bool) (h : Hs) : tyD (.d (.bl i)) h = some (.b "bool") := rfl
@[simp] theorem tyD_tup (xs : List D) (h : Hs) : tyD (.d (.tup xs)) h = some (.b "tuple") := rfl
@[simp] theorem tyD_lv (xs : List D) (h : Hs) : tyD (.d (.lv xs)) h = some (.b "list") := rfl
@[simp] theorem tyD_non (h : Hs) : tyD (.d .non) h = some (.b "NoneType") := rfl
@[simp] theorem tyD_str (x : Str) (h : Hs) : tyD (.d (.str x)) h = some (.b "str") := rfl
@[simp] theorem tyD_ins (C : Nat) (fs : List (Nat × D)) (h : Hs) : tyD (.d (.ins C fs)) h = some (.c C) := rfl
@[simp] theorem tru_bl (b : Bool) (h : Hs) : truO (.d (.bl b)) h = some b := rfl
@[simp] theorem tru_int (i : Int) (h : Hs) : truO (.d (.int i)) h = some (i != 0) := rfl
@[simp] theorem o_add (i j : Int) (h : Hs) : oAdd (.d (.int i)) (.d (.int j)) h = some (.d (.int (i + j)), h) := rfl
@[simp] theorem o_addT (a b : List D) (h : Hs) : oAdd (.d (.tup a)) (.d (.tup b)) h = if a.length + b.length ≤ sizeLine then some (.d (.tup (a ++ b)), h) else none := rfl
@[simp] theorem o_addL (a b : List D) (h : Hs) : oAdd (.d (.lv a)) (.d (.lv b)) h = if a.length + b.length ≤ sizeLine then some (.d (.lv (a ++ b)), h) else none := rfl
@[simp] theorem o_sub (i j : Int) (h : Hs) : oSub (.d (.int i)) (.d (.int j)) h = some (.d (.int (i - j)), h) := rfl
@[simp] theorem o_mul (i j : Int) (h : Hs) : oMulI (.d (.int i)) (.d (.int j)) h = if cMulW i j then some (.d (.int (i * j)), h) else none := rfl
@[simp] theorem o_div (i j : Int) (h : Hs) : oDiv (.d (.int i)) (.d (.int j)) h = if cDivW i j then some (.d (.int (i / j)), h) else none := rfl
@[simp] theorem o_mod (i j : Int) (h : Hs) : oMod (.d (.int i)) (.d (.int j)) h = if decide (0 < j) then some (.d (.int (i % j)), h) else none := rfl
@[simp] theorem o_pow (i j : Int) (h : Hs) : oPow (.d (.int i)) (.d (.int j)) h = if cPow i j then some (.d (.int (i ^ j.toNat)), h) else none := rfl
@[simp] theorem o_neg (i : Int) (h : Hs) : oNeg (.d (.int i)) h = some (.d (.int (-i)), h) := rfl
@[simp] theorem o_iadd (i j : Int) (h : Hs) : oIAdd (.d (.int i)) (.d (.int j)) h = some (.d (.int (i + j)), h) := rfl
@[simp] theorem o_lt (i j : Int) (h : Hs) : oLt (.d (.int i)) (.d (.int j)) h = some (.d (.bl (decide (i < j))), h) := rfl
@[simp] theorem o_le (i j : Int) (h : Hs) : oLe (.d (.int i)) (.d (.int j)) h = some (.d (.bl (decide (i ≤ j))), h) := rfl
@[simp] theorem o_gt (i j : Int) (h : Hs) : oGt (.d (.int i)) (.d (.int j)) h = some (.d (.bl (decide (j < i))), h) := rfl
@[simp] theorem o_ge (i j : Int) (h : Hs) : oGe (.d (.int i)) (.d (.int j)) h = some (.d (.bl (decide (j ≤ i))), h) := rfl
@[simp] theorem o_isn (x : Vl) (h : Hs) : oIsN x (.d .non) h = some (.d (.bl (isNon x)), h) := rfl
@[simp] theorem o_notn (x : Vl) (h : Hs) : oNotN x (.d .non) h = some (.d (.bl (!isNon x)), h) := rfl
@[simp] theorem isNon_non : isNon (.d .non) = true := rfl
@[simp] theorem isNon_str (x : Str) : isNon (.d (.str x)) = false := rfl
@[simp] theorem o_ixT (xs : List D) (i : Int) (h : Hs) : oIx (.d (.tup xs)) (.d (.int i)) h = (L2.atI xs i).map fun d => (.d d, h) := rfl
@[simp] theorem o_ixL (xs : List D) (i : Int) (h : Hs) : oIx (.d (.lv xs)) (.d (.int i)) h = (L2.atI xs i).map fun d => (.d d, h) := rfl
theorem o_ixR {k : Nat} {xs : List D} {h : Hs} (e : h[k]? = some (.lst xs)) (i : Int) : oIx (.r k) (.d (.int i)) h = (L2.atI xs i).map fun d => (.d d, h) := by
  show (match seqOf (.r k) h with
    | some xs => (L2.atI xs i).map fun d => (Vl.d d, h)
    | none => none) = _
  simp only [seqOf, e]
@[simp] theorem n_lenT (xs : List D) (h : Hs) : nLen [.d (.tup xs)] h = some (.d (.int xs.length), h) := rfl
@[simp] theorem n_lenL (xs : List D) (h : Hs) : nLen [.d (.lv xs)] h = some (.d (.int xs.length), h) := rfl
@[simp] theorem n_tupT (xs : List D) (h : Hs) : nTuple [.d (.tup xs)] h = some (.d (.tup xs), h) := rfl
@[simp] theorem n_tupL (xs : List D) (h : Hs) : nTuple [.d (.lv xs)] h = some (.d (.tup xs), h) := rfl
@[simp] theorem n_lstT (xs : List D) (h : Hs) : nListV [.d (.tup xs)] h = some (.d (.lv xs), h) := rfl
@[simp] theorem n_lstL (xs : List D) (h : Hs) : nListV [.d (.lv xs)] h = some (.d (.lv xs), h) := rfl
@[simp] theorem n_lstS (xs : List D) (h : Hs) : nListV [.d (.scr xs)] h = some (.d (.lv xs), h) := rfl
theorem n_tupR {k : Nat} {xs : List D} {h : Hs} (e : h[k]? = some (.lst xs)) : nTuple [.r k] h = some (.d (.tup xs), h) := by
  show (match seqOf (.r k) h with
    | some xs => some (Vl.d (.tup xs), h)
    | none => none) = _
  simp only [seqOf, e]
@[simp] theorem n_int (i : Int) (h : Hs) : nInt [.d (.int i)] h = some (.d (.int i), h) := rfl
@[simp] theorem n_min (i j : Int) (h : Hs) : nMin2 [.d (.int i), .d (.int j)] h = some (.d (.int (if j < i then j else i)), h) := rfl
@[simp] theorem sl_tup (xs : List D) (a b : Option Int) (h : Hs) : slO (.d (.tup xs)) a b h = some (.d (.tup (cutL xs a b)), h) := rfl
@[simp] theorem lmA (xs : List D) (d : D) (h : Hs) : lmAppend xs [d] h = if xs.length < sizeLine then some (xs ++ [d], .d .non) else none := rfl

/-! ### the heap's end -/
section
variable {h l : Hs} {a b : O}
@[simp] theorem at_len : (h ++ a :: l)[h.length]? = some a := by simp
@[simp] theorem set_len : (h ++ a :: l).set h.length b = h ++ b :: l := by
  rw [List.set_append_right _ _ (Nat.le_refl _), Nat.sub_self]; rfl
@[simp] theorem take_len : (h ++ l).take h.length = h := List.take_left' rfl
@[simp] theorem take_len1 : (h ++ a :: l).take (h.length + 1) = h ++ [a] := by
  rw [show h ++ a :: l = (h ++ [a]) ++ l by simp, show h.length + 1 = (h ++ [a]).length by simp, take_len]
@[simp] theorem take_len2 : (h ++ a :: b :: l).take (h.length + 2) = h ++ [a, b] := by
  rw [show h ++ a :: b :: l = (h ++ [a]) ++ b :: l by simp, show h.length + 2 = (h ++ [a]).length + 1 by simp, take_len1]; simp
@[simp] theorem at_len1 : (h ++ a :: b :: l)[h.length + 1]? = some b := by
  rw [show h ++ a :: b :: l = (h ++ [a]) ++ b :: l by simp, show h.length + 1 = (h ++ [a]).length by simp, at_len]
@[simp] theorem set_len1 {c : O} : (h ++ a :: b :: l).set (h.length + 1) c = h ++ a :: c :: l := by
  rw [show h ++ a :: b :: l = (h ++ [a]) ++ b :: l by simp, show h.length + 1 = (h ++ [a]).length by simp, set_len]; simp
end

def clr1 (n : Nat) (o : Option Vl) : Option Vl := match o with
  | some (.r k) => if k < n then some (.r k) else none
  | o => o
@[simp] theorem clr_nil (n : Nat) : clr n [] = [] := rfl
@[simp] theorem clr_cons (n : Nat) (o : Option Vl) (σ : Lo) : clr n (o :: σ) = clr1 n o :: clr n σ := rfl
@[simp] theorem clr1_d (n : Nat) (d : D) : clr1 n (some (.d d)) = some (.d d) := rfl
@[simp] theorem clr1_n (n : Nat) : clr1 n none = none := rfl
@[simp] theorem clr1_r (n k : Nat) : clr1 n (some (.r k)) = if k < n then some (.r k) else none := rfl

/-! ### calls -/
theorem callF_at {defs : List MDef} {n i : Nat} {md : MDef} {xs : List Vl} {h : Hs} (e : defs[i]? = some md) (hl : xs.length = md.np) : callF defs (n + 1) i xs h = fin md.keep h.length (md.body (callF defs n) (startL md.ns xs) h) := by
  show (match defs[i]? with
    | none => Res.bad
    | some md => runD md (callF defs n) xs h) = _
  rw [e]
  show runD md (callF defs n) xs h = _
  unfold runD
  rw [if_pos hl]
@[simp] theorem fin_ret (n0 : Nat) (d : D) (σ : Lo) (h : Hs) : fin false n0 (.ok (.ret (.d d)) σ h) = .ok (.d d) (h.take n0) := rfl
@[simp] theorem fin_nx (n0 : Nat) (keep : Bool) (σ : Lo) (h : Hs) : fin keep n0 (.ok .nx σ h) = .ok (.d .non) (h.take n0) := rfl
theorem fin_retR {n0 k : Nat} {σ : Lo} {h : Hs} {xs : List D} (e : h[k]? = some (.lst xs)) : fin false n0 (.ok (.ret (.r k)) σ h) = .ok (.d (.lv xs)) ((h.set k .dead).take n0) := by
  show (match toD (.r k) h with
    | some (d, h') => Res.ok (Vl.d d) (h'.take n0)
    | none => Res.bad) = _
  simp only [toD, e]

/-! ### loops -/
theorem forL_ind {g : SemG} {body : SemS} {R : RS → Prop} (P : Nat → Lo → Hs → Prop) : ∀ (ds : List D) (i : Nat) (σ : Lo) (h : Hs), P i σ h →
    (∀ j d σ h, ds[j]? = some d → P (i + j) σ h → ∃ σ1 h1, g (.d d) σ h = some (σ1, h1) ∧ match body σ1 h1 with
      | .ok .nx σ2 h2 => P (i + j + 1) (clr h.length σ2) (h2.take h.length)
      | .ok .cnt σ2 h2 => P (i + j + 1) (clr h.length σ2) (h2.take h.length)
      | .ok .brk σ2 h2 => R (.ok .nx (clr h.length σ2) (h2.take h.length))
      | .ok (.ret v) σ2 h2 => R (.ok (.ret v) σ2 h2)
      | _ => False) →
    (∀ σ h, P (i + ds.length) σ h → R (.ok .nx σ h)) → R (forL g body ds σ h)
  | [], i, σ, h, p, _, done => done σ h (by simpa using p)
  | d :: ds, i, σ, h, p, step, done => by
    obtain ⟨σ1, h1, e, q⟩ := step 0 d σ h rfl p
    unfold forL
    rw [e]
    dsimp only
    have st : ∀ j d' σ h, ds[j]? = some d' → P (i + 1 + j) σ h → _ := fun j d' σ h hj p => by
      have := step (j + 1) d' σ h (by simpa using hj) (by rw [show i + (j + 1) = i + 1 + j by omega]; exact p)
      rw [show i + (j + 1) + 1 = i + 1 + j + 1 by omega] at this
      exact this
    have dn : ∀ σ h, P (i + 1 + ds.length) σ h → R (.ok .nx σ h) := fun σ h p => done σ h (by rw [List.length_cons, show i + (ds.length + 1) = i + 1 + ds.length by omega]; exact p)
    cases e2 : body σ1 h1 with
    | bad => rw [e2] at q; exact q.elim
    | exc x σ2 h2 => rw [e2] at q; exact q.elim
    | ok f σ2 h2 =>
      rw [e2] at q
      cases f with
      | nx => exact forL_ind P ds (i + 1) _ _ q st dn
      | cnt => exact forL_ind P ds (i + 1) _ _ q st dn
      | brk => exact q
      | ret v => exact q
theorem for_ind {g : SemG} {body : SemS} {R : RS → Prop} {ds : List D} {σ : Lo} {h : Hs} (P : Nat → Lo → Hs → Prop) (p : P 0 σ h)
    (step : ∀ j d σ h, ds[j]? = some d → P j σ h → ∃ σ1 h1, g (.d d) σ h = some (σ1, h1) ∧ match body σ1 h1 with
      | .ok .nx σ2 h2 => P (j + 1) (clr h.length σ2) (h2.take h.length)
      | .ok .cnt σ2 h2 => P (j + 1) (clr h.length σ2) (h2.take h.length)
      | .ok .brk σ2 h2 => R (.ok .nx (clr h.length σ2) (h2.take h.length))
      | .ok (.ret v) σ2 h2 => R (.ok (.ret v) σ2 h2)
      | _ => False)
    (done : ∀ σ h, P ds.length σ h → R (.ok .nx σ h)) : R (forL g body ds σ h) :=
  forL_ind P ds 0 σ h p (fun j d σ h hj q => by
    have := step j d σ h hj (by rw [Nat.zero_add] at q; exact q)
    rw [Nat.zero_add]; exact this) fun σ h q => done σ h (by rw [Nat.zero_add] at q; exact q)
/-- a while with an invariant and turns left -/
theorem whL_ind {t : SemT} {body : SemS} {R : RS → Prop} (P : Nat → Lo → Hs → Prop)
    (step : ∀ n σ h, P n σ h → match t σ h with
      | .ok false h1 => R (.ok .nx σ h1)
      | .ok true h1 => ∃ m, n = m + 1 ∧ match body σ h1 with
        | .ok .nx σ2 h2 => P m (clr h.length σ2) (h2.take h.length)
        | .ok .cnt σ2 h2 => P m (clr h.length σ2) (h2.take h.length)
        | .ok .brk σ2 h2 => R (.ok .nx (clr h.length σ2) (h2.take h.length))
        | .ok (.ret v) σ2 h2 => R (.ok (.ret v) σ2 h2)
        | _ => False
      | _ => False) : ∀ (n : Nat) (σ : Lo) (h : Hs), P n σ h → ∃ r, whL t body (n + 1) σ h = r ∧ r ≠ .bad ∧ R r
  | n, σ, h, p => by
    have q := step n σ h p
    unfold whL
    cases e : t σ h with
    | bad => rw [e] at q; exact q.elim
    | exc x h1 => rw [e] at q; exact q.elim
    | ok b h1 =>
      rw [e] at q
      cases b with
      | false => exact ⟨_, rfl, by simp, q⟩
      | true =>
        obtain ⟨m, rfl, q⟩ := q
        simp only [sb_ok, if_true]
        cases e2 : body σ h1 with
        | bad => rw [e2] at q; exact q.elim
        | exc x σ2 h2 => rw [e2] at q; exact q.elim
        | ok f σ2 h2 =>
          rw [e2] at q
          cases f with
          | nx => exact whL_ind P step m _ _ q
          | cnt => exact whL_ind P step m _ _ q
          | brk => exact ⟨_, rfl, by simp, q⟩
          | ret v => exact ⟨_, rfl, by simp, q⟩
theorem wh_ind {t : SemT} {body : SemS} {R : RS → Prop} (P : Nat → Lo → Hs → Prop) {n : Nat} {σ : Lo} {h : Hs} (p : P n σ h) (hn : n < 1000000000)
    (step : ∀ n σ h, P n σ h → match t σ h with
      | .ok false h1 => R (.ok .nx σ h1)
      | .ok true h1 => ∃ m, n = m + 1 ∧ match body σ h1 with
        | .ok .nx σ2 h2 => P m (clr h.length σ2) (h2.take h.length)
        | .ok .cnt σ2 h2 => P m (clr h.length σ2) (h2.take h.length)
        | .ok .brk σ2 h2 => R (.ok .nx (clr h.length σ2) (h2.take h.length))
        | .ok (.ret v) σ2 h2 => R (.ok (.ret v) σ2 h2)
        | _ => False
      | _ => False) : R (sWh t body σ h) := by
  obtain ⟨r, e, hb, q⟩ := whL_ind P step n σ h p
  have hm : n + 1 ≤ most := Nat.le_trans (by omega : n + 1 ≤ 1000000000) (by unfold most; decide)
  rw [sWh_of e hb hm]
  exact q
theorem cmpL_ind {vs : List Nat} {g : SemG} {t : SemT} {f : SemE} {n0 : Nat} {σ : Lo} {R : Hs → Prop} (P : Nat → Hs → Prop) : ∀ (ds : List D) (i : Nat) (h : Hs), P i h →
    (∀ j d h, ds[j]? = some d → P (i + j) h → ∃ σ1 h1 b h2, g (.d d) (wipeL σ vs) h = some (σ1, h1) ∧ t σ1 h1 = .ok b h2 ∧ if b = true then ∃ y h3 h4, f σ1 h2 = .ok y h3 ∧ cmpAdd n0 y h3 = some h4 ∧ P (i + j + 1) h4 else P (i + j + 1) (h2.take (n0 + 1))) →
    (∀ h, P (i + ds.length) h → R h) → ∃ h', cmpL vs g t f n0 ds σ h = some h' ∧ R h'
  | [], i, h, p, _, done => ⟨h, rfl, done h (by simpa using p)⟩
  | d :: ds, i, h, p, step, done => by
    obtain ⟨σ1, h1, b, h2, e1, e2, q⟩ := step 0 d h rfl p
    have st : ∀ j d' h, ds[j]? = some d' → P (i + 1 + j) h → _ := fun j d' h hj p => by
      have := step (j + 1) d' h (by simpa using hj) (by rw [show i + (j + 1) = i + 1 + j by omega]; exact p)
      rw [show i + (j + 1) + 1 = i + 1 + j + 1 by omega] at this
      exact this
    have dn : ∀ h, P (i + 1 + ds.length) h → R h := fun h p => done h (by rw [List.length_cons, show i + (ds.length + 1) = i + 1 + ds.length by omega]; exact p)
    unfold cmpL
    rw [e1]
    dsimp only
    rw [e2]
    dsimp only
    cases b with
    | true =>
      rw [if_pos rfl] at q ⊢
      obtain ⟨y, h3, h4, e3, e4, q⟩ := q
      rw [e3]
      dsimp only
      rw [e4]
      exact cmpL_ind P ds (i + 1) h4 q st dn
    | false =>
      rw [if_neg Bool.false_ne_true] at q ⊢
      exact cmpL_ind P ds (i + 1) _ q st dn
/-- one more in the list that is made -/
theorem cmpAdd_d {h : Hs} {acc : List D} {d : D} (hz : acc.length < sizeLine) : cmpAdd h.length (.d d) (h ++ [.lst acc]) = some (h ++ [.lst (acc ++ [d])]) := by
  unfold cmpAdd
  simp only [toD_d, at_len, if_pos hz, set_len]
  rw [List.take_of_length_le (by simp)]
/-- a comprehension of values that change nothing -/
theorem cmpL_map {vs : List Nat} {g : SemG} {t : SemT} {f : SemE} {σ : Lo} {h : Hs} {ds : List D} {keep : D → Bool} {k : D → D} (hz : ds.length < sizeLine)
    (step : ∀ d h', d ∈ ds → ∃ σ1, g (.d d) (wipeL σ vs) h' = some (σ1, h') ∧ t σ1 h' = .ok (keep d) h' ∧ (keep d = true → f σ1 h' = .ok (.d (k d)) h')) :
    cmpL vs g t f h.length ds σ (h ++ [.lst []]) = some (h ++ [.lst ((ds.filter keep).map k)]) := by
  have key : ∃ h', cmpL vs g t f h.length ds σ (h ++ [.lst []]) = some h' ∧ h' = h ++ [.lst ((ds.filter keep).map k)] := by
    refine cmpL_ind (fun i h' => h' = h ++ [.lst (((ds.take i).filter keep).map k)]) ds 0 _ (by simp) (fun j d h' hj p => ?_) (fun h' p => by rw [p, Nat.zero_add, List.take_length])
    rw [Nat.zero_add] at p ⊢
    subst p
    obtain ⟨σ1, e1, e2, e3⟩ := step d (h ++ [.lst (((ds.take j).filter keep).map k)]) (List.mem_of_getElem? hj)
    have ej : ds.take (j + 1) = ds.take j ++ [d] := by
      rw [List.take_add_one, hj]; rfl
    refine ⟨σ1, _, keep d, _, e1, e2, ?_⟩
    cases q : keep d with
    | true =>
      rw [if_pos rfl]
      refine ⟨_, _, _, e3 q, cmpAdd_d ?_, ?_⟩
      · rw [List.length_map]
        refine Nat.lt_of_le_of_lt (List.length_filter_le _ _) (Nat.lt_of_le_of_lt ?_ hz)
        rw [List.length_take]; omega
      · rw [ej, List.filter_append, List.map_append, List.filter_cons, if_pos q]; rfl
    | false =>
      rw [if_neg Bool.false_ne_true, ej, List.filter_append, List.filter_cons, if_neg (by simp [q])]
      rw [List.take_of_length_le (by simp)]
      simp
  obtain ⟨h', e, rfl⟩ := key
  exact e

/-! ### == of data -/
def fl0 : D → Prop
  | .non => True
  | .bl _ => True
  | .int _ => True
  | .str x => PyData.strOk x = true
  | _ => False
/-- data of depth n at most -/
def Sm : Nat → D → Prop
  | 0, d => fl0 d
  | n + 1, .tup xs => ∀ x ∈ xs, Sm n x
  | n + 1, .lv xs => ∀ x ∈ xs, Sm n x
  | _ + 1, d => fl0 d
theorem all_lay : ∀ {xs : List D}, (∀ x ∈ xs, x.pd.canLay0 = true) → PyData.canLayAll0 (D.pds xs) = true
  | [], _ => rfl
  | x :: xs, h => by
    rw [D.pds, PyData.canLayAll0, h x List.mem_cons_self, all_lay fun y hy => h y (List.mem_cons_of_mem _ hy)]; rfl
theorem all_dep {n : Nat} : ∀ {xs : List D}, (∀ x ∈ xs, x.pd.depth ≤ n) → PyData.depthAll (D.pds xs) ≤ n
  | [], _ => Nat.zero_le _
  | x :: xs, h => by
    rw [D.pds, PyData.depthAll]
    exact Nat.max_le.mpr ⟨h x List.mem_cons_self, all_dep fun y hy => h y (List.mem_cons_of_mem _ hy)⟩
theorem all_eqv : ∀ {xs : List D}, (∀ x ∈ xs, PyData.eqv x.pd x.pd = true) → PyData.eqvAll (D.pds xs) (D.pds xs) = true
  | [], _ => rfl
  | x :: xs, h => by
    rw [D.pds, PyData.eqvAll, h x List.mem_cons_self, all_eqv fun y hy => h y (List.mem_cons_of_mem _ hy)]; rfl
theorem fl0_ok {d : D} (h : fl0 d) : d.pd.canLay0 = true ∧ d.pd.depth = 0 ∧ PyData.eqv d.pd d.pd = true := by
  cases d with
  | non => exact ⟨by simp [D.pd, PyData.canLay0], by simp [D.pd, PyData.depth], by simp [D.pd, PyData.eqv]⟩
  | bl b => exact ⟨by simp [D.pd, PyData.canLay0], by simp [D.pd, PyData.depth], by simp [D.pd, PyData.eqv]⟩
  | int i => exact ⟨by simp [D.pd, PyData.canLay0], by simp [D.pd, PyData.depth], by simp [D.pd, PyData.eqv]⟩
  | str x => exact ⟨by simp only [D.pd, PyData.canLay0]; exact h, by simp [D.pd, PyData.depth], by simp [D.pd, PyData.eqv]⟩
  | _ => exact h.elim
theorem Sm.ok : ∀ {n : Nat} {d : D}, Sm n d → d.pd.canLay0 = true ∧ d.pd.depth ≤ n ∧ PyData.eqv d.pd d.pd = true
  | 0, d, h => let ⟨a, b, c⟩ := fl0_ok h; ⟨a, Nat.le_of_eq b, c⟩
  | n + 1, .tup xs, h => by
    simp only [D.pd, PyData.canLay0, PyData.depth, PyData.eqv]
    exact ⟨all_lay fun x hx => (Sm.ok (h x hx)).1, Nat.succ_le_succ (all_dep fun x hx => (Sm.ok (h x hx)).2.1), all_eqv fun x hx => (Sm.ok (h x hx)).2.2⟩
  | n + 1, .lv xs, h => by
    simp only [D.pd, PyData.canLay0, PyData.depth, PyData.eqv]
    exact ⟨all_lay fun x hx => (Sm.ok (h x hx)).1, Nat.succ_le_succ (all_dep fun x hx => (Sm.ok (h x hx)).2.1), all_eqv fun x hx => (Sm.ok (h x hx)).2.2⟩
  | n + 1, .non, h => let ⟨a, b, c⟩ := fl0_ok (d := .non) h; ⟨a, by omega, c⟩
  | n + 1, .bl i, h => let ⟨a, b, c⟩ := fl0_ok (d := .bl i) h; ⟨a, by omega, c⟩
  | n + 1, .int i, h => let ⟨a, b, c⟩ := fl0_ok (d := .int i) h; ⟨a, by omega, c⟩
  | n + 1, .str i, h => let ⟨a, b, c⟩ := fl0_ok (d := .str i) h; ⟨a, by omega, c⟩
  | n + 1, .scr i, h => h.elim
  | n + 1, .dk i, h => h.elim
  | n + 1, .dt i, h => h.elim
  | n + 1, .ins C i, h => h.elim
theorem Sm.shp {n : Nat} {d : D} (h : Sm n d) (hn : n ≤ 64) : shp d = true := by
  unfold Mi.shp SeqAt.shaped
  rw [h.ok.1, decide_eq_true (Nat.le_trans h.ok.2.1 hn)]; rfl
theorem o_eqS {n m : Nat} {a b : D} {h : Hs} (ha : Sm n a) (hb : Sm m b) (hn : n ≤ 64) (hm : m ≤ 64) : oEq (.d a) (.d b) h = some (.d (.bl (PyData.eqv a.pd b.pd)), h) := by
  show (deq a b).map _ = _
  unfold deq
  rw [ha.shp hn, hb.shp hm]; rfl
theorem o_neS {n m : Nat} {a b : D} {h : Hs} (ha : Sm n a) (hb : Sm m b) (hn : n ≤ 64) (hm : m ≤ 64) : oNe (.d a) (.d b) h = some (.d (.bl (!PyData.eqv a.pd b.pd)), h) := by
  show (deq a b).map _ = _
  unfold deq
  rw [ha.shp hn, hb.shp hm]; rfl
theorem o_eqR {n : Nat} {a : D} {h : Hs} (ha : Sm n a) (hn : n ≤ 64) : oEq (.d a) (.d a) h = some (.d (.bl true), h) := by rw [o_eqS ha ha hn hn, ha.ok.2.2]
theorem o_neR {n : Nat} {a : D} {h : Hs} (ha : Sm n a) (hn : n ≤ 64) : oNe (.d a) (.d a) h = some (.d (.bl false), h) := by rw [o_neS ha ha hn hn, ha.ok.2.2]; rfl
@[simp] theorem o_eqI (i j : Int) (h : Hs) : oEq (.d (.int i)) (.d (.int j)) h = some (.d (.bl (decide (i = j))), h) := by
  rw [o_eqS (a := .int i) (b := .int j) (n := 0) (m := 0) trivial trivial (by omega) (by omega)]
  simp only [D.pd, PyData.eqv]
  rfl
@[simp] theorem o_neI (i j : Int) (h : Hs) : oNe (.d (.int i)) (.d (.int j)) h = some (.d (.bl (!decide (i = j))), h) := by
  rw [o_neS (a := .int i) (b := .int j) (n := 0) (m := 0) trivial trivial (by omega) (by omega)]
  simp only [D.pd, PyData.eqv]
  rfl
def iT (xs : List Int) : D := .tup (xs.map D.int)
theorem sm_iT (xs : List Int) : Sm 1 (iT xs) := fun x hx => by
  obtain ⟨i, _, rfl⟩ := List.mem_map.mp hx
  exact trivial
theorem eqv_iT : ∀ xs ys : List Int, PyData.eqvAll (D.pds (xs.map D.int)) (D.pds (ys.map D.int)) = decide (xs = ys)
  | [], [] => by simp [D.pds, PyData.eqvAll]
  | [], _ :: _ => by simp [D.pds, PyData.eqvAll]
  | _ :: _, [] => by simp [D.pds, PyData.eqvAll]
  | x :: xs, y :: ys => by
    have := eqv_iT xs ys
    rw [List.map_cons, List.map_cons, D.pds, D.pds, PyData.eqvAll, this]
    simp only [D.pd, PyData.eqv]
    by_cases e : x = y <;> simp [e]
theorem o_eqT (xs ys : List Int) (h : Hs) : oEq (.d (iT xs)) (.d (iT ys)) h = some (.d (.bl (decide (xs = ys))), h) := by
  rw [o_eqS (sm_iT xs) (sm_iT ys) (by omega) (by omega)]
  simp only [iT, D.pd, PyData.eqv, eqv_iT]
theorem o_neT (xs ys : List Int) (h : Hs) : oNe (.d (iT xs)) (.d (iT ys)) h = some (.d (.bl (!decide (xs = ys))), h) := by
  rw [o_neS (sm_iT xs) (sm_iT ys) (by omega) (by omega)]
  simp only [iT, D.pd, PyData.eqv, eqv_iT]
end Mi

namespace K03
open PySem PySem.Spec L2 Mi
/-! printed by gen.py: the defs, their meanings -/
abbrev prg : Program := PySem.Challenge.pw_pressedwords_k03_whole_tidy_keeps_all_fi
def top (i : Nat) : Stmt := prg.main.body.getD i (.Pass ⟨0, 0, 0, 0⟩)
abbrev s_is_whole : Stmt := top 5
abbrev s_is_sequence : Stmt := top 6
abbrev s_is_state : Stmt := top 7
abbrev s_checked_deeds : Stmt := top 8
abbrev s_are_goals : Stmt := top 9
abbrev s_checked_ends : Stmt := top 10
abbrev s_checked_rows : Stmt := top 11
abbrev s_check_signs : Stmt := top 12
abbrev s_Book__init_ : Stmt := clsDef (top 13) 0
abbrev s_Book__eq_ : Stmt := clsDef (top 13) 2
abbrev s_Clash__init_ : Stmt := clsDef (top 14) 0
abbrev s_Clash__eq_ : Stmt := clsDef (top 14) 1
abbrev s_stripped : Stmt := top 16
abbrev s_clash_word : Stmt := top 17
abbrev s_tidy : Stmt := top 18
abbrev s__law_source : Stmt := top 20
abbrev s__law_take : Stmt := top 21
abbrev s__law_pick : Stmt := top 22
abbrev s__law_moves : Stmt := top 23
abbrev s__law_deed : Stmt := top 24
abbrev s__law_after : Stmt := top 25
abbrev s__law_side : Stmt := top 26
abbrev s__law_filled : Stmt := top 27
abbrev s__law_cut_row : Stmt := top 28
abbrev s__law_text_deed : Stmt := top 29
abbrev s__law_fits : Stmt := top 30
abbrev s__law_texts : Stmt := top 31
abbrev s__law_rows_hold : Stmt := top 32
abbrev s__law_fillings : Stmt := top 33
abbrev s__law_strip : Stmt := top 34
abbrev s__law_tidy : Stmt := top 35
abbrev s__law_lots : Stmt := top 36
abbrev s__law_end_states : Stmt := top 37
abbrev s__law_draw_rows : Stmt := top 38
abbrev s__law_same_tidy : Stmt := top 39
abbrev s_law : Stmt := top 40
def d_is_whole : He.DefD := ⟨("is_whole", none), "is_whole", "is_whole", defArgs s_is_whole, defBody s_is_whole, defScope s_is_whole, [], []⟩
def d_is_sequence : He.DefD := ⟨("is_sequence", none), "is_sequence", "is_sequence", defArgs s_is_sequence, defBody s_is_sequence, defScope s_is_sequence, [], []⟩
def d_is_state : He.DefD := ⟨("is_state", none), "is_state", "is_state", defArgs s_is_state, defBody s_is_state, defScope s_is_state, [], []⟩
def d_checked_deeds : He.DefD := ⟨("checked_deeds", none), "checked_deeds", "checked_deeds", defArgs s_checked_deeds, defBody s_checked_deeds, defScope s_checked_deeds, [], []⟩
def d_are_goals : He.DefD := ⟨("are_goals", none), "are_goals", "are_goals", defArgs s_are_goals, defBody s_are_goals, defScope s_are_goals, [], []⟩
def d_checked_ends : He.DefD := ⟨("checked_ends", none), "checked_ends", "checked_ends", defArgs s_checked_ends, defBody s_checked_ends, defScope s_checked_ends, [], []⟩
def d_checked_rows : He.DefD := ⟨("checked_rows", none), "checked_rows", "checked_rows", defArgs s_checked_rows, defBody s_checked_rows, defScope s_checked_rows, [], []⟩
def d_check_signs : He.DefD := ⟨("check_signs", none), "check_signs", "check_signs", defArgs s_check_signs, defBody s_check_signs, defScope s_check_signs, [], []⟩
def d_Book__init_ : He.DefD := ⟨("Book", some "__init__"), "__init__", "Book.__init__", defArgs s_Book__init_, defBody s_Book__init_, defScope s_Book__init_, [.int 1], []⟩
def d_Book__eq_ : He.DefD := ⟨("Book", some "__eq__"), "__eq__", "Book.__eq__", defArgs s_Book__eq_, defBody s_Book__eq_, defScope s_Book__eq_, [], []⟩
def d_Clash__init_ : He.DefD := ⟨("Clash", some "__init__"), "__init__", "Clash.__init__", defArgs s_Clash__init_, defBody s_Clash__init_, defScope s_Clash__init_, [], []⟩
def d_Clash__eq_ : He.DefD := ⟨("Clash", some "__eq__"), "__eq__", "Clash.__eq__", defArgs s_Clash__eq_, defBody s_Clash__eq_, defScope s_Clash__eq_, [], []⟩
def d_stripped : He.DefD := ⟨("stripped", none), "stripped", "stripped", defArgs s_stripped, defBody s_stripped, defScope s_stripped, [], []⟩
def d_clash_word : He.DefD := ⟨("clash_word", none), "clash_word", "clash_word", defArgs s_clash_word, defBody s_clash_word, defScope s_clash_word, [], []⟩
def d_tidy : He.DefD := ⟨("tidy", none), "tidy", "tidy", defArgs s_tidy, defBody s_tidy, defScope s_tidy, [], []⟩
def d__law_source : He.DefD := ⟨("_law_source", none), "_law_source", "_law_source", defArgs s__law_source, defBody s__law_source, defScope s__law_source, [], []⟩
def d__law_take : He.DefD := ⟨("_law_take", none), "_law_take", "_law_take", defArgs s__law_take, defBody s__law_take, defScope s__law_take, [], []⟩
def d__law_pick : He.DefD := ⟨("_law_pick", none), "_law_pick", "_law_pick", defArgs s__law_pick, defBody s__law_pick, defScope s__law_pick, [], []⟩
def d__law_moves : He.DefD := ⟨("_law_moves", none), "_law_moves", "_law_moves", defArgs s__law_moves, defBody s__law_moves, defScope s__law_moves, [], []⟩
def d__law_deed : He.DefD := ⟨("_law_deed", none), "_law_deed", "_law_deed", defArgs s__law_deed, defBody s__law_deed, defScope s__law_deed, [], []⟩
def d__law_after : He.DefD := ⟨("_law_after", none), "_law_after", "_law_after", defArgs s__law_after, defBody s__law_after, defScope s__law_after, [], []⟩
def d__law_side : He.DefD := ⟨("_law_side", none), "_law_side", "_law_side", defArgs s__law_side, defBody s__law_side, defScope s__law_side, [], []⟩
def d__law_filled : He.DefD := ⟨("_law_filled", none), "_law_filled", "_law_filled", defArgs s__law_filled, defBody s__law_filled, defScope s__law_filled, [], []⟩
def d__law_cut_row : He.DefD := ⟨("_law_cut_row", none), "_law_cut_row", "_law_cut_row", defArgs s__law_cut_row, defBody s__law_cut_row, defScope s__law_cut_row, [], []⟩
def d__law_text_deed : He.DefD := ⟨("_law_text_deed", none), "_law_text_deed", "_law_text_deed", defArgs s__law_text_deed, defBody s__law_text_deed, defScope s__law_text_deed, [], []⟩
def d__law_fits : He.DefD := ⟨("_law_fits", none), "_law_fits", "_law_fits", defArgs s__law_fits, defBody s__law_fits, defScope s__law_fits, [], []⟩
def d__law_texts : He.DefD := ⟨("_law_texts", none), "_law_texts", "_law_texts", defArgs s__law_texts, defBody s__law_texts, defScope s__law_texts, [], []⟩
def d__law_rows_hold : He.DefD := ⟨("_law_rows_hold", none), "_law_rows_hold", "_law_rows_hold", defArgs s__law_rows_hold, defBody s__law_rows_hold, defScope s__law_rows_hold, [], []⟩
def d__law_fillings : He.DefD := ⟨("_law_fillings", none), "_law_fillings", "_law_fillings", defArgs s__law_fillings, defBody s__law_fillings, defScope s__law_fillings, [], []⟩
def d__law_strip : He.DefD := ⟨("_law_strip", none), "_law_strip", "_law_strip", defArgs s__law_strip, defBody s__law_strip, defScope s__law_strip, [], []⟩
def d__law_tidy : He.DefD := ⟨("_law_tidy", none), "_law_tidy", "_law_tidy", defArgs s__law_tidy, defBody s__law_tidy, defScope s__law_tidy, [], []⟩
def d__law_lots : He.DefD := ⟨("_law_lots", none), "_law_lots", "_law_lots", defArgs s__law_lots, defBody s__law_lots, defScope s__law_lots, [], []⟩
def d__law_end_states : He.DefD := ⟨("_law_end_states", none), "_law_end_states", "_law_end_states", defArgs s__law_end_states, defBody s__law_end_states, defScope s__law_end_states, [], []⟩
def d__law_draw_rows : He.DefD := ⟨("_law_draw_rows", none), "_law_draw_rows", "_law_draw_rows", defArgs s__law_draw_rows, defBody s__law_draw_rows, defScope s__law_draw_rows, [], []⟩
def d__law_same_tidy : He.DefD := ⟨("_law_same_tidy", none), "_law_same_tidy", "_law_same_tidy", defArgs s__law_same_tidy, defBody s__law_same_tidy, defScope s__law_same_tidy, [], []⟩
def d_law : He.DefD := ⟨("law", none), "law", "law", defArgs s_law, defBody s_law, defScope s_law, [], []⟩
def fn : List He.DefD := [d_is_whole, d_is_sequence, d_is_state, d_checked_deeds, d_are_goals, d_checked_ends, d_checked_rows, d_check_signs, d_Book__init_, d_Book__eq_, d_Clash__init_, d_Clash__eq_, d_stripped, d_clash_word, d_tidy, d__law_source, d__law_take, d__law_pick, d__law_moves, d__law_deed, d__law_after, d__law_side, d__law_filled, d__law_cut_row, d__law_text_deed, d__law_fits, d__law_texts, d__law_rows_hold, d__law_fillings, d__law_strip, d__law_tidy, d__law_lots, d__law_end_states, d__law_draw_rows, d__law_same_tidy, d_law]
def fl : List Str := ["what", "deeds", "ends", "rows", "states", "why", "at"]
def cn : List Str := ["PressError", "BadBook", "Book", "Clash"]
def ct (K : PySem.W.Frag) : CT := ⟨fun C => He.ga K (cn.getD C ""), nmL fl, nmL_inj (by decide +kernel)⟩
def ok_what (C : Nat) : Bool := C == 1
def ok_deeds (C : Nat) : Bool := C == 2
def ok_ends (C : Nat) : Bool := C == 2
def ok_rows (C : Nat) : Bool := C == 2
def ok_states (C : Nat) : Bool := C == 2
def ok_why (C : Nat) : Bool := C == 3
def ok_at (C : Nat) : Bool := C == 3
def isi_Book : List (Ty × Bool) := [(.c 2, true), (.c 3, false)]
def isi_Clash : List (Ty × Bool) := [(.c 2, false), (.c 3, true)]
def m_is_whole (call : CallT) : SemS := (sRt (eAn (eIsi (isiL ["int", "bool"]) (eVar 0)) (eNo (eIsi (isiL ["bool"]) (eVar 0)))))
@[simp] theorem am_is_whole (call : CallT) (σ : Lo) (h : Hs) : m_is_whole call σ h = (sRt (eAn (eIsi (isiL ["int", "bool"]) (eVar 0)) (eNo (eIsi (isiL ["bool"]) (eVar 0))))) σ h := rfl
def m_is_sequence (call : CallT) : SemS := (sRt (eOr (eIsi (isiL ["list"]) (eVar 0)) (eIsi (isiL ["tuple"]) (eVar 0))))
@[simp] theorem am_is_sequence (call : CallT) (σ : Lo) (h : Hs) : m_is_sequence call σ h = (sRt (eOr (eIsi (isiL ["list"]) (eVar 0)) (eIsi (isiL ["tuple"]) (eVar 0)))) σ h := rfl
def m_is_state (call : CallT) : SemS := (sRt (eAn (eCl call 0 [] (aCons (eVar 0) aNil)) (eChain oLe oLt (eK (.int 0)) (eVar 0) (eVar 1))))
@[simp] theorem am_is_state (call : CallT) (σ : Lo) (h : Hs) : m_is_state call σ h = (sRt (eAn (eCl call 0 [] (aCons (eVar 0) aNil)) (eChain oLe oLt (eK (.int 0)) (eVar 0) (eVar 1)))) σ h := rfl
def b_checked_deeds_1 (call : CallT) : SemS := (sIf (tNo (tTru (eCl call 2 [] (aCons (eVar 4) (aCons (eVar 1) aNil)))))
      sBad
      sNil)
@[simp] theorem ab_checked_deeds_1 (call : CallT) (σ : Lo) (h : Hs) : b_checked_deeds_1 call σ h = (sIf (tNo (tTru (eCl call 2 [] (aCons (eVar 4) (aCons (eVar 1) aNil)))))
      sBad
      sNil) σ h := rfl
def b_checked_deeds_2 (call : CallT) : SemS := (sSq (sIf (tOr' (tNo (tTru (eCl call 1 [] (aCons (eVar 3) aNil)))) (tBl (eBin oNe (eN nLen (aCons (eVar 3) aNil)) (eVar 1))))
      sBad
      sNil)
      (sSq (sFor (iSeq (eVar 3)) (gNm 4)
      (b_checked_deeds_1 call))
      (sEx (eLm lmAppend (eVar 2) (aCons (eN nTuple (aCons (eVar 3) aNil)) aNil)))))
@[simp] theorem ab_checked_deeds_2 (call : CallT) (σ : Lo) (h : Hs) : b_checked_deeds_2 call σ h = (sSq (sIf (tOr' (tNo (tTru (eCl call 1 [] (aCons (eVar 3) aNil)))) (tBl (eBin oNe (eN nLen (aCons (eVar 3) aNil)) (eVar 1))))
      sBad
      sNil)
      (sSq (sFor (iSeq (eVar 3)) (gNm 4)
      (b_checked_deeds_1 call))
      (sEx (eLm lmAppend (eVar 2) (aCons (eN nTuple (aCons (eVar 3) aNil)) aNil))))) σ h := rfl
def m_checked_deeds (call : CallT) : SemS := (sSq (sIf (tNo (tTru (eCl call 1 [] (aCons (eVar 0) aNil))))
      sBad
      sNil)
      (sSq (sAs (eLst aNil) (gNm 2))
      (sSq (sFor (iSeq (eVar 0)) (gNm 3)
      (b_checked_deeds_2 call))
      (sRt (eN nTuple (aCons (eVar 2) aNil))))))
@[simp] theorem am_checked_deeds (call : CallT) (σ : Lo) (h : Hs) : m_checked_deeds call σ h = (sSq (sIf (tNo (tTru (eCl call 1 [] (aCons (eVar 0) aNil))))
      sBad
      sNil)
      (sSq (sAs (eLst aNil) (gNm 2))
      (sSq (sFor (iSeq (eVar 0)) (gNm 3)
      (b_checked_deeds_2 call))
      (sRt (eN nTuple (aCons (eVar 2) aNil)))))) σ h := rfl
def b_are_goals_1 (call : CallT) : SemS := (sSq (sIf (tOr' (tNo (tTru (eCl call 2 [] (aCons (eVar 3) (aCons (eVar 1) aNil))))) (tBl (eBin oLe (eVar 3) (eVar 2))))
      (sRt (eK (.bl false)))
      sNil)
      (sAs (eVar 3) (gNm 2)))
@[simp] theorem ab_are_goals_1 (call : CallT) (σ : Lo) (h : Hs) : b_are_goals_1 call σ h = (sSq (sIf (tOr' (tNo (tTru (eCl call 2 [] (aCons (eVar 3) (aCons (eVar 1) aNil))))) (tBl (eBin oLe (eVar 3) (eVar 2))))
      (sRt (eK (.bl false)))
      sNil)
      (sAs (eVar 3) (gNm 2))) σ h := rfl
def m_are_goals (call : CallT) : SemS := (sSq (sIf (tNo (tTru (eCl call 1 [] (aCons (eVar 0) aNil))))
      (sRt (eK (.bl false)))
      sNil)
      (sSq (sAs (eUn oNeg (eK (.int 1))) (gNm 2))
      (sSq (sFor (iSeq (eVar 0)) (gNm 3)
      (b_are_goals_1 call))
      (sRt (eK (.bl true))))))
@[simp] theorem am_are_goals (call : CallT) (σ : Lo) (h : Hs) : m_are_goals call σ h = (sSq (sIf (tNo (tTru (eCl call 1 [] (aCons (eVar 0) aNil))))
      (sRt (eK (.bl false)))
      sNil)
      (sSq (sAs (eUn oNeg (eK (.int 1))) (gNm 2))
      (sSq (sFor (iSeq (eVar 0)) (gNm 3)
      (b_are_goals_1 call))
      (sRt (eK (.bl true)))))) σ h := rfl
def b_checked_ends_1 (call : CallT) : SemS := (sSq (sIf (tOr' (tNo (tTru (eCl call 1 [] (aCons (eVar 3) aNil)))) (tBl (eBin oNe (eN nLen (aCons (eVar 3) aNil)) (eK (.int 2)))))
      sBad
      sNil)
      (sSq (sAs (eVar 3) (gTp 2 (gCo (gNm 4) (gCo (gNm 5) gNi))))
      (sSq (sIf (tOr' (tNo (tTru (eCl call 2 [] (aCons (eVar 4) (aCons (eVar 1) aNil))))) (tNo (tTru (eCl call 4 [] (aCons (eVar 5) (aCons (eVar 1) aNil))))))
      sBad
      sNil)
      (sEx (eLm lmAppend (eVar 2) (aCons (eTup (aCons (eVar 4) (aCons (eN nTuple (aCons (eVar 5) aNil)) aNil))) aNil))))))
@[simp] theorem ab_checked_ends_1 (call : CallT) (σ : Lo) (h : Hs) : b_checked_ends_1 call σ h = (sSq (sIf (tOr' (tNo (tTru (eCl call 1 [] (aCons (eVar 3) aNil)))) (tBl (eBin oNe (eN nLen (aCons (eVar 3) aNil)) (eK (.int 2)))))
      sBad
      sNil)
      (sSq (sAs (eVar 3) (gTp 2 (gCo (gNm 4) (gCo (gNm 5) gNi))))
      (sSq (sIf (tOr' (tNo (tTru (eCl call 2 [] (aCons (eVar 4) (aCons (eVar 1) aNil))))) (tNo (tTru (eCl call 4 [] (aCons (eVar 5) (aCons (eVar 1) aNil))))))
      sBad
      sNil)
      (sEx (eLm lmAppend (eVar 2) (aCons (eTup (aCons (eVar 4) (aCons (eN nTuple (aCons (eVar 5) aNil)) aNil))) aNil)))))) σ h := rfl
def m_checked_ends (call : CallT) : SemS := (sSq (sIf (tNo (tTru (eCl call 1 [] (aCons (eVar 0) aNil))))
      sBad
      sNil)
      (sSq (sAs (eLst aNil) (gNm 2))
      (sSq (sFor (iSeq (eVar 0)) (gNm 3)
      (b_checked_ends_1 call))
      (sRt (eN nTuple (aCons (eVar 2) aNil))))))
@[simp] theorem am_checked_ends (call : CallT) (σ : Lo) (h : Hs) : m_checked_ends call σ h = (sSq (sIf (tNo (tTru (eCl call 1 [] (aCons (eVar 0) aNil))))
      sBad
      sNil)
      (sSq (sAs (eLst aNil) (gNm 2))
      (sSq (sFor (iSeq (eVar 0)) (gNm 3)
      (b_checked_ends_1 call))
      (sRt (eN nTuple (aCons (eVar 2) aNil)))))) σ h := rfl
def b_checked_rows_1 (call : CallT) : SemS := (sIf (tNo (tTru (eCl call 0 [] (aCons (eVar 4) aNil))))
      sBad
      sNil)
@[simp] theorem ab_checked_rows_1 (call : CallT) (σ : Lo) (h : Hs) : b_checked_rows_1 call σ h = (sIf (tNo (tTru (eCl call 0 [] (aCons (eVar 4) aNil))))
      sBad
      sNil) σ h := rfl
def b_checked_rows_2 (call : CallT) : SemS := (sSq (sIf (tNo (tTru (eCl call 1 [] (aCons (eVar 3) aNil))))
      sBad
      sNil)
      (sFor (iSeq (eVar 3)) (gNm 4)
      (b_checked_rows_1 call)))
@[simp] theorem ab_checked_rows_2 (call : CallT) (σ : Lo) (h : Hs) : b_checked_rows_2 call σ h = (sSq (sIf (tNo (tTru (eCl call 1 [] (aCons (eVar 3) aNil))))
      sBad
      sNil)
      (sFor (iSeq (eVar 3)) (gNm 4)
      (b_checked_rows_1 call))) σ h := rfl
def b_checked_rows_3 (call : CallT) : SemS := (sSq (sIf (tOr' (tNo (tTru (eCl call 1 [] (aCons (eVar 2) aNil)))) (tBl (eBin oNe (eN nLen (aCons (eVar 2) aNil)) (eK (.int 2)))))
      sBad
      sNil)
      (sSq (sFor (iSeq (eVar 2)) (gNm 3)
      (b_checked_rows_2 call))
      (sSq (sAs (eVar 2) (gTp 2 (gCo (gNm 5) (gCo (gNm 6) gNi))))
      (sEx (eLm lmAppend (eVar 1) (aCons (eTup (aCons (eN nTuple (aCons (eVar 5) aNil)) (aCons (eN nTuple (aCons (eVar 6) aNil)) aNil))) aNil))))))
@[simp] theorem ab_checked_rows_3 (call : CallT) (σ : Lo) (h : Hs) : b_checked_rows_3 call σ h = (sSq (sIf (tOr' (tNo (tTru (eCl call 1 [] (aCons (eVar 2) aNil)))) (tBl (eBin oNe (eN nLen (aCons (eVar 2) aNil)) (eK (.int 2)))))
      sBad
      sNil)
      (sSq (sFor (iSeq (eVar 2)) (gNm 3)
      (b_checked_rows_2 call))
      (sSq (sAs (eVar 2) (gTp 2 (gCo (gNm 5) (gCo (gNm 6) gNi))))
      (sEx (eLm lmAppend (eVar 1) (aCons (eTup (aCons (eN nTuple (aCons (eVar 5) aNil)) (aCons (eN nTuple (aCons (eVar 6) aNil)) aNil))) aNil)))))) σ h := rfl
def m_checked_rows (call : CallT) : SemS := (sSq (sIf (tNo (tTru (eCl call 1 [] (aCons (eVar 0) aNil))))
      sBad
      sNil)
      (sSq (sAs (eLst aNil) (gNm 1))
      (sSq (sFor (iSeq (eVar 0)) (gNm 2)
      (b_checked_rows_3 call))
      (sRt (eN nTuple (aCons (eVar 1) aNil))))))
@[simp] theorem am_checked_rows (call : CallT) (σ : Lo) (h : Hs) : m_checked_rows call σ h = (sSq (sIf (tNo (tTru (eCl call 1 [] (aCons (eVar 0) aNil))))
      sBad
      sNil)
      (sSq (sAs (eLst aNil) (gNm 1))
      (sSq (sFor (iSeq (eVar 0)) (gNm 2)
      (b_checked_rows_3 call))
      (sRt (eN nTuple (aCons (eVar 1) aNil)))))) σ h := rfl
def b_check_signs_1 (call : CallT) : SemS := (sIf (tOr' (tBl (eBin oGe (eVar 5) (eVar 1))) (tBl (eBin oGe (eBin oSub (eUn oNeg (eK (.int 1))) (eVar 5)) (eVar 2))))
      sBad
      sNil)
@[simp] theorem ab_check_signs_1 (call : CallT) (σ : Lo) (h : Hs) : b_check_signs_1 call σ h = (sIf (tOr' (tBl (eBin oGe (eVar 5) (eVar 1))) (tBl (eBin oGe (eBin oSub (eUn oNeg (eK (.int 1))) (eVar 5)) (eVar 2))))
      sBad
      sNil) σ h := rfl
def b_check_signs_2 (call : CallT) : SemS := (sFor (iSeq (eBin oAdd (eVar 3) (eVar 4))) (gNm 5)
      (b_check_signs_1 call))
@[simp] theorem ab_check_signs_2 (call : CallT) (σ : Lo) (h : Hs) : b_check_signs_2 call σ h = (sFor (iSeq (eBin oAdd (eVar 3) (eVar 4))) (gNm 5)
      (b_check_signs_1 call)) σ h := rfl
def m_check_signs (call : CallT) : SemS := (sFor (iSeq (eVar 0)) (gTp 2 (gCo (gNm 3) (gCo (gNm 4) gNi)))
      (b_check_signs_2 call))
@[simp] theorem am_check_signs (call : CallT) (σ : Lo) (h : Hs) : m_check_signs call σ h = (sFor (iSeq (eVar 0)) (gTp 2 (gCo (gNm 3) (gCo (gNm 4) gNi)))
      (b_check_signs_2 call)) σ h := rfl
def m_Book__init_ (call : CallT) : SemS := (sSq (sIf (tOr' (tNo (tTru (eCl call 0 [] (aCons (eVar 4) aNil)))) (tBl (eBin oLt (eVar 4) (eK (.int 1)))))
      sBad
      sNil)
      (sSq (sFd ok_deeds 1 (eVar 0) (eCl call 3 [] (aCons (eVar 2) (aCons (eVar 4) aNil))))
      (sSq (sFd ok_ends 2 (eVar 0) (eCl call 5 [] (aCons (eVar 3) (aCons (eVar 4) aNil))))
      (sSq (sFd ok_rows 3 (eVar 0) (eCl call 6 [] (aCons (eVar 1) aNil)))
      (sSq (sFd ok_states 4 (eVar 0) (eVar 4))
      (sEx (eCl call 7 [] (aCons (eFd (ok_rows) 3 (eVar 0)) (aCons (eN nLen (aCons (eFd (ok_deeds) 1 (eVar 0)) aNil)) (aCons (eN nLen (aCons (eFd (ok_ends) 2 (eVar 0)) aNil)) aNil))))))))))
@[simp] theorem am_Book__init_ (call : CallT) (σ : Lo) (h : Hs) : m_Book__init_ call σ h = (sSq (sIf (tOr' (tNo (tTru (eCl call 0 [] (aCons (eVar 4) aNil)))) (tBl (eBin oLt (eVar 4) (eK (.int 1)))))
      sBad
      sNil)
      (sSq (sFd ok_deeds 1 (eVar 0) (eCl call 3 [] (aCons (eVar 2) (aCons (eVar 4) aNil))))
      (sSq (sFd ok_ends 2 (eVar 0) (eCl call 5 [] (aCons (eVar 3) (aCons (eVar 4) aNil))))
      (sSq (sFd ok_rows 3 (eVar 0) (eCl call 6 [] (aCons (eVar 1) aNil)))
      (sSq (sFd ok_states 4 (eVar 0) (eVar 4))
      (sEx (eCl call 7 [] (aCons (eFd (ok_rows) 3 (eVar 0)) (aCons (eN nLen (aCons (eFd (ok_deeds) 1 (eVar 0)) aNil)) (aCons (eN nLen (aCons (eFd (ok_ends) 2 (eVar 0)) aNil)) aNil)))))))))) σ h := rfl
def m_Book__eq_ (call : CallT) : SemS := (sRt (eAn (eIsi isi_Book (eVar 1)) (eAn (eBin oEq (eFd (ok_rows) 3 (eVar 0)) (eFd (ok_rows) 3 (eVar 1))) (eAn (eBin oEq (eFd (ok_deeds) 1 (eVar 0)) (eFd (ok_deeds) 1 (eVar 1))) (eAn (eBin oEq (eFd (ok_ends) 2 (eVar 0)) (eFd (ok_ends) 2 (eVar 1))) (eBin oEq (eFd (ok_states) 4 (eVar 0)) (eFd (ok_states) 4 (eVar 1))))))))
@[simp] theorem am_Book__eq_ (call : CallT) (σ : Lo) (h : Hs) : m_Book__eq_ call σ h = (sRt (eAn (eIsi isi_Book (eVar 1)) (eAn (eBin oEq (eFd (ok_rows) 3 (eVar 0)) (eFd (ok_rows) 3 (eVar 1))) (eAn (eBin oEq (eFd (ok_deeds) 1 (eVar 0)) (eFd (ok_deeds) 1 (eVar 1))) (eAn (eBin oEq (eFd (ok_ends) 2 (eVar 0)) (eFd (ok_ends) 2 (eVar 1))) (eBin oEq (eFd (ok_states) 4 (eVar 0)) (eFd (ok_states) 4 (eVar 1)))))))) σ h := rfl
def m_Clash__init_ (call : CallT) : SemS := (sSq (sFd ok_why 5 (eVar 0) (eVar 1))
      (sFd ok_at 6 (eVar 0) (eVar 2)))
@[simp] theorem am_Clash__init_ (call : CallT) (σ : Lo) (h : Hs) : m_Clash__init_ call σ h = (sSq (sFd ok_why 5 (eVar 0) (eVar 1))
      (sFd ok_at 6 (eVar 0) (eVar 2))) σ h := rfl
def m_Clash__eq_ (call : CallT) : SemS := (sRt (eAn (eIsi isi_Clash (eVar 1)) (eAn (eBin oEq (eFd (ok_why) 5 (eVar 0)) (eFd (ok_why) 5 (eVar 1))) (eBin oEq (eFd (ok_at) 6 (eVar 0)) (eFd (ok_at) 6 (eVar 1))))))
@[simp] theorem am_Clash__eq_ (call : CallT) (σ : Lo) (h : Hs) : m_Clash__eq_ call σ h = (sRt (eAn (eIsi isi_Clash (eVar 1)) (eAn (eBin oEq (eFd (ok_why) 5 (eVar 0)) (eFd (ok_why) 5 (eVar 1))) (eBin oEq (eFd (ok_at) 6 (eVar 0)) (eFd (ok_at) 6 (eVar 1)))))) σ h := rfl
def w_stripped_1 (call : CallT) : SemT := (tAn (tBl (eBin oLt (eVar 2) (eVar 3))) (tBl (eBin oEq (eBin oIx (eVar 0) (eVar 2)) (eBin oIx (eVar 1) (eVar 2)))))
@[simp] theorem aw_stripped_1 (call : CallT) (σ : Lo) (h : Hs) : w_stripped_1 call σ h = (tAn (tBl (eBin oLt (eVar 2) (eVar 3))) (tBl (eBin oEq (eBin oIx (eVar 0) (eVar 2)) (eBin oIx (eVar 1) (eVar 2))))) σ h := rfl
def b_stripped_2 (call : CallT) : SemS := (sAu 2 oIAdd (eK (.int 1)))
@[simp] theorem ab_stripped_2 (call : CallT) (σ : Lo) (h : Hs) : b_stripped_2 call σ h = (sAu 2 oIAdd (eK (.int 1))) σ h := rfl
def w_stripped_3 (call : CallT) : SemT := (tAn (tBl (eBin oLt (eVar 4) (eVar 3))) (tBl (eBin oEq (eBin oIx (eVar 0) (eBin oSub (eBin oSub (eN nLen (aCons (eVar 0) aNil)) (eK (.int 1))) (eVar 4))) (eBin oIx (eVar 1) (eBin oSub (eBin oSub (eN nLen (aCons (eVar 1) aNil)) (eK (.int 1))) (eVar 4))))))
@[simp] theorem aw_stripped_3 (call : CallT) (σ : Lo) (h : Hs) : w_stripped_3 call σ h = (tAn (tBl (eBin oLt (eVar 4) (eVar 3))) (tBl (eBin oEq (eBin oIx (eVar 0) (eBin oSub (eBin oSub (eN nLen (aCons (eVar 0) aNil)) (eK (.int 1))) (eVar 4))) (eBin oIx (eVar 1) (eBin oSub (eBin oSub (eN nLen (aCons (eVar 1) aNil)) (eK (.int 1))) (eVar 4)))))) σ h := rfl
def b_stripped_4 (call : CallT) : SemS := (sAu 4 oIAdd (eK (.int 1)))
@[simp] theorem ab_stripped_4 (call : CallT) (σ : Lo) (h : Hs) : b_stripped_4 call σ h = (sAu 4 oIAdd (eK (.int 1))) σ h := rfl
def m_stripped (call : CallT) : SemS := (sSq (sAs (eK (.int 0)) (gNm 2))
      (sSq (sAs (eN nMin2 (aCons (eN nLen (aCons (eVar 0) aNil)) (aCons (eN nLen (aCons (eVar 1) aNil)) aNil))) (gNm 3))
      (sSq (sWh (w_stripped_1 call)
      (b_stripped_2 call))
      (sSq (sAs (eSl (eVar 0) (oSome (eVar 2)) oNone) (gNm 0))
      (sSq (sAs (eSl (eVar 1) (oSome (eVar 2)) oNone) (gNm 1))
      (sSq (sAs (eK (.int 0)) (gNm 4))
      (sSq (sAs (eN nMin2 (aCons (eN nLen (aCons (eVar 0) aNil)) (aCons (eN nLen (aCons (eVar 1) aNil)) aNil))) (gNm 3))
      (sSq (sWh (w_stripped_3 call)
      (b_stripped_4 call))
      (sRt (eTup (aCons (eSl (eVar 0) oNone (oSome (eBin oSub (eN nLen (aCons (eVar 0) aNil)) (eVar 4)))) (aCons (eSl (eVar 1) oNone (oSome (eBin oSub (eN nLen (aCons (eVar 1) aNil)) (eVar 4)))) aNil))))))))))))
@[simp] theorem am_stripped (call : CallT) (σ : Lo) (h : Hs) : m_stripped call σ h = (sSq (sAs (eK (.int 0)) (gNm 2))
      (sSq (sAs (eN nMin2 (aCons (eN nLen (aCons (eVar 0) aNil)) (aCons (eN nLen (aCons (eVar 1) aNil)) aNil))) (gNm 3))
      (sSq (sWh (w_stripped_1 call)
      (b_stripped_2 call))
      (sSq (sAs (eSl (eVar 0) (oSome (eVar 2)) oNone) (gNm 0))
      (sSq (sAs (eSl (eVar 1) (oSome (eVar 2)) oNone) (gNm 1))
      (sSq (sAs (eK (.int 0)) (gNm 4))
      (sSq (sAs (eN nMin2 (aCons (eN nLen (aCons (eVar 0) aNil)) (aCons (eN nLen (aCons (eVar 1) aNil)) aNil))) (gNm 3))
      (sSq (sWh (w_stripped_3 call)
      (b_stripped_4 call))
      (sRt (eTup (aCons (eSl (eVar 0) oNone (oSome (eBin oSub (eN nLen (aCons (eVar 0) aNil)) (eVar 4)))) (aCons (eSl (eVar 1) oNone (oSome (eBin oSub (eN nLen (aCons (eVar 1) aNil)) (eVar 4)))) aNil)))))))))))) σ h := rfl
def m_clash_word (call : CallT) : SemS := (sSq (sIf (tOr' (tBl (eBin oEq (eVar 0) (eTup aNil))) (tBl (eBin oEq (eVar 1) (eTup aNil))))
      (sRt (eK (.str "empty")))
      sNil)
      (sSq (sIf (tAn (tBl (eBin oGe (eBin oIx (eVar 0) (eK (.int 0))) (eK (.int 0)))) (tBl (eBin oGe (eBin oIx (eVar 1) (eK (.int 0))) (eK (.int 0)))))
      (sRt (eK (.str "front")))
      sNil)
      (sSq (sIf (tAn (tBl (eBin oGe (eBin oIx (eVar 0) (eBin oSub (eN nLen (aCons (eVar 0) aNil)) (eK (.int 1)))) (eK (.int 0)))) (tBl (eBin oGe (eBin oIx (eVar 1) (eBin oSub (eN nLen (aCons (eVar 1) aNil)) (eK (.int 1)))) (eK (.int 0)))))
      (sRt (eK (.str "back")))
      sNil)
      (sRt (eK .non)))))
@[simp] theorem am_clash_word (call : CallT) (σ : Lo) (h : Hs) : m_clash_word call σ h = (sSq (sIf (tOr' (tBl (eBin oEq (eVar 0) (eTup aNil))) (tBl (eBin oEq (eVar 1) (eTup aNil))))
      (sRt (eK (.str "empty")))
      sNil)
      (sSq (sIf (tAn (tBl (eBin oGe (eBin oIx (eVar 0) (eK (.int 0))) (eK (.int 0)))) (tBl (eBin oGe (eBin oIx (eVar 1) (eK (.int 0))) (eK (.int 0)))))
      (sRt (eK (.str "front")))
      sNil)
      (sSq (sIf (tAn (tBl (eBin oGe (eBin oIx (eVar 0) (eBin oSub (eN nLen (aCons (eVar 0) aNil)) (eK (.int 1)))) (eK (.int 0)))) (tBl (eBin oGe (eBin oIx (eVar 1) (eBin oSub (eN nLen (aCons (eVar 1) aNil)) (eK (.int 1)))) (eK (.int 0)))))
      (sRt (eK (.str "back")))
      sNil)
      (sRt (eK .non))))) σ h := rfl
def b_tidy_1 (call : CallT) : SemS := (sSq (sAs (eCl call 12 [] (aCons (eVar 3) (aCons (eVar 4) aNil))) (gTp 2 (gCo (gNm 3) (gCo (gNm 4) gNi))))
      (sSq (sIf (tAn (tBl (eBin oEq (eVar 3) (eTup aNil))) (tBl (eBin oEq (eVar 4) (eTup aNil))))
      sCnt
      sNil)
      (sSq (sAs (eCl call 13 [] (aCons (eVar 3) (aCons (eVar 4) aNil))) (gNm 5))
      (sSq (sIf (tBl (eBin oNotN (eVar 5) (eK .non)))
      (sRt (eMk call 10 3 [] (aCons (eVar 5) (aCons (eVar 2) aNil))))
      sNil)
      (sEx (eLm lmAppend (eVar 1) (aCons (eTup (aCons (eVar 3) (aCons (eVar 4) aNil))) aNil)))))))
@[simp] theorem ab_tidy_1 (call : CallT) (σ : Lo) (h : Hs) : b_tidy_1 call σ h = (sSq (sAs (eCl call 12 [] (aCons (eVar 3) (aCons (eVar 4) aNil))) (gTp 2 (gCo (gNm 3) (gCo (gNm 4) gNi))))
      (sSq (sIf (tAn (tBl (eBin oEq (eVar 3) (eTup aNil))) (tBl (eBin oEq (eVar 4) (eTup aNil))))
      sCnt
      sNil)
      (sSq (sAs (eCl call 13 [] (aCons (eVar 3) (aCons (eVar 4) aNil))) (gNm 5))
      (sSq (sIf (tBl (eBin oNotN (eVar 5) (eK .non)))
      (sRt (eMk call 10 3 [] (aCons (eVar 5) (aCons (eVar 2) aNil))))
      sNil)
      (sEx (eLm lmAppend (eVar 1) (aCons (eTup (aCons (eVar 3) (aCons (eVar 4) aNil))) aNil))))))) σ h := rfl
def m_tidy (call : CallT) : SemS := (sSq (sAs (eLst aNil) (gNm 1))
      (sSq (sFor (iEnT (aCons (eFd (ok_rows) 3 (eVar 0)) aNil)) (gTp 2 (gCo (gNm 2) (gCo (gTp 2 (gCo (gNm 3) (gCo (gNm 4) gNi))) gNi)))
      (b_tidy_1 call))
      (sSq (sFrz 1) (sRt (eMk call 8 2 [] (aCons (eVar 1) (aCons (eFd (ok_deeds) 1 (eVar 0)) (aCons (eFd (ok_ends) 2 (eVar 0)) (aCons (eFd (ok_states) 4 (eVar 0)) aNil)))))))))
@[simp] theorem am_tidy (call : CallT) (σ : Lo) (h : Hs) : m_tidy call σ h = (sSq (sAs (eLst aNil) (gNm 1))
      (sSq (sFor (iEnT (aCons (eFd (ok_rows) 3 (eVar 0)) aNil)) (gTp 2 (gCo (gNm 2) (gCo (gTp 2 (gCo (gNm 3) (gCo (gNm 4) gNi))) gNi)))
      (b_tidy_1 call))
      (sSq (sFrz 1) (sRt (eMk call 8 2 [] (aCons (eVar 1) (aCons (eFd (ok_deeds) 1 (eVar 0)) (aCons (eFd (ok_ends) 2 (eVar 0)) (aCons (eFd (ok_states) 4 (eVar 0)) aNil))))))))) σ h := rfl
def m__law_source (call : CallT) : SemS := (sRt (eLst (aCons (eN nListV (aCons (eVar 0) aNil)) (aCons (eK (.int 0)) (aCons (eK (.int 0)) (aCons (eK (.int 1)) aNil))))))
@[simp] theorem am__law_source (call : CallT) (σ : Lo) (h : Hs) : m__law_source call σ h = (sRt (eLst (aCons (eN nListV (aCons (eVar 0) aNil)) (aCons (eK (.int 0)) (aCons (eK (.int 0)) (aCons (eK (.int 1)) aNil)))))) σ h := rfl
def m__law_take (call : CallT) : SemS := (sSq (sIf (tBl (eBin oEq (eBin oIx (eVar 0) (eK (.int 2))) (eK (.int 0))))
      (sSq (sAs (eK (.int 0)) (gNm 2))
      (sSq (sIf (tBl (eBin oLt (eBin oIx (eVar 0) (eK (.int 1))) (eN nLen (aCons (eBin oIx (eVar 0) (eK (.int 0))) aNil))))
      (sAs (eBin oIx (eBin oIx (eVar 0) (eK (.int 0))) (eBin oIx (eVar 0) (eK (.int 1)))) (gNm 2))
      sNil)
      (sSq (sAs (eBin oAdd (eBin oIx (eVar 0) (eK (.int 1))) (eK (.int 1))) (gSt (eVar 0) (eK (.int 1))))
      (sIf (tBl (eBin oGe (eVar 2) (eBin oPow (eK (.int 10)) (eK (.int 18)))))
      (sAs (eVar 2) (gSt (eVar 0) (eK (.int 2))))
      (sSq (sAs (eBin oMod (eN nInt (aCons (eBin oAdd (eBin oAdd (eBin oAdd (eBin oMulI (eBin oIx (eVar 0) (eK (.int 3))) (eK (.int 69621))) (eBin oMulI (eBin oMod (eN nInt (aCons (eVar 2) aNil)) (eK (.int 2147483629))) (eK (.int 48271)))) (eBin oMulI (eBin oIx (eVar 0) (eK (.int 1))) (eK (.int 7919)))) (eK (.int 1))) aNil)) (eK (.int 2147483647))) (gNm 3))
      (sSq (sAs (eBin oMod (eN nInt (aCons (eBin oAdd (eBin oAdd (eBin oMulI (eVar 3) (eVar 3)) (eBin oMulI (eBin oIx (eVar 0) (eK (.int 1))) (eK (.int 104729)))) (eK (.int 13))) aNil)) (eK (.int 2147483629))) (gNm 3))
      (sSq (sAs (eVar 3) (gSt (eVar 0) (eK (.int 3))))
      (sRt (eBin oMod (eBin oDiv (eVar 3) (eK (.int 7))) (eVar 1))))))))))
      sNil)
      (sSq (sAs (eBin oMod (eN nInt (aCons (eBin oIx (eVar 0) (eK (.int 2))) aNil)) (eVar 1)) (gNm 4))
      (sSq (sAs (eBin oDiv (eBin oIx (eVar 0) (eK (.int 2))) (eVar 1)) (gSt (eVar 0) (eK (.int 2))))
      (sRt (eVar 4)))))
@[simp] theorem am__law_take (call : CallT) (σ : Lo) (h : Hs) : m__law_take call σ h = (sSq (sIf (tBl (eBin oEq (eBin oIx (eVar 0) (eK (.int 2))) (eK (.int 0))))
      (sSq (sAs (eK (.int 0)) (gNm 2))
      (sSq (sIf (tBl (eBin oLt (eBin oIx (eVar 0) (eK (.int 1))) (eN nLen (aCons (eBin oIx (eVar 0) (eK (.int 0))) aNil))))
      (sAs (eBin oIx (eBin oIx (eVar 0) (eK (.int 0))) (eBin oIx (eVar 0) (eK (.int 1)))) (gNm 2))
      sNil)
      (sSq (sAs (eBin oAdd (eBin oIx (eVar 0) (eK (.int 1))) (eK (.int 1))) (gSt (eVar 0) (eK (.int 1))))
      (sIf (tBl (eBin oGe (eVar 2) (eBin oPow (eK (.int 10)) (eK (.int 18)))))
      (sAs (eVar 2) (gSt (eVar 0) (eK (.int 2))))
      (sSq (sAs (eBin oMod (eN nInt (aCons (eBin oAdd (eBin oAdd (eBin oAdd (eBin oMulI (eBin oIx (eVar 0) (eK (.int 3))) (eK (.int 69621))) (eBin oMulI (eBin oMod (eN nInt (aCons (eVar 2) aNil)) (eK (.int 2147483629))) (eK (.int 48271)))) (eBin oMulI (eBin oIx (eVar 0) (eK (.int 1))) (eK (.int 7919)))) (eK (.int 1))) aNil)) (eK (.int 2147483647))) (gNm 3))
      (sSq (sAs (eBin oMod (eN nInt (aCons (eBin oAdd (eBin oAdd (eBin oMulI (eVar 3) (eVar 3)) (eBin oMulI (eBin oIx (eVar 0) (eK (.int 1))) (eK (.int 104729)))) (eK (.int 13))) aNil)) (eK (.int 2147483629))) (gNm 3))
      (sSq (sAs (eVar 3) (gSt (eVar 0) (eK (.int 3))))
      (sRt (eBin oMod (eBin oDiv (eVar 3) (eK (.int 7))) (eVar 1))))))))))
      sNil)
      (sSq (sAs (eBin oMod (eN nInt (aCons (eBin oIx (eVar 0) (eK (.int 2))) aNil)) (eVar 1)) (gNm 4))
      (sSq (sAs (eBin oDiv (eBin oIx (eVar 0) (eK (.int 2))) (eVar 1)) (gSt (eVar 0) (eK (.int 2))))
      (sRt (eVar 4))))) σ h := rfl
def m__law_pick (call : CallT) : SemS := (sRt (eBin oIx (eVar 1) (eCl call 16 [] (aCons (eVar 0) (aCons (eN nLen (aCons (eVar 1) aNil)) aNil)))))
@[simp] theorem am__law_pick (call : CallT) (σ : Lo) (h : Hs) : m__law_pick call σ h = (sRt (eBin oIx (eVar 1) (eCl call 16 [] (aCons (eVar 0) (aCons (eN nLen (aCons (eVar 1) aNil)) aNil))))) σ h := rfl
def m__law_moves (call : CallT) : SemS := (sRt (eN nTuple (aCons (eLc false [3] (iA1 (aCons (eVar 1) aNil)) (gNm 3) tYs (eN nTuple (aCons (eLc false [4] (iA1 (aCons (eVar 2) aNil)) (gNm 4) tYs (eCl call 16 [] (aCons (eVar 0) (aCons (eVar 1) aNil)))) aNil))) aNil)))
@[simp] theorem am__law_moves (call : CallT) (σ : Lo) (h : Hs) : m__law_moves call σ h = (sRt (eN nTuple (aCons (eLc false [3] (iA1 (aCons (eVar 1) aNil)) (gNm 3) tYs (eN nTuple (aCons (eLc false [4] (iA1 (aCons (eVar 2) aNil)) (gNm 4) tYs (eCl call 16 [] (aCons (eVar 0) (aCons (eVar 1) aNil)))) aNil))) aNil))) σ h := rfl
def b__law_deed_1 (call : CallT) : SemS := (sAs (eBin oIx (eBin oIx (eVar 0) (eVar 4)) (eVar 5)) (gNm 4))
@[simp] theorem ab__law_deed_1 (call : CallT) (σ : Lo) (h : Hs) : b__law_deed_1 call σ h = (sAs (eBin oIx (eBin oIx (eVar 0) (eVar 4)) (eVar 5)) (gNm 4)) σ h := rfl
def b__law_deed_2 (call : CallT) : SemS := (sSq (sAs (eVar 3) (gNm 4))
      (sSq (sFor (iSeq (eVar 1)) (gNm 5)
      (b__law_deed_1 call))
      (sEx (eLm lmAppend (eVar 2) (aCons (eVar 4) aNil)))))
@[simp] theorem ab__law_deed_2 (call : CallT) (σ : Lo) (h : Hs) : b__law_deed_2 call σ h = (sSq (sAs (eVar 3) (gNm 4))
      (sSq (sFor (iSeq (eVar 1)) (gNm 5)
      (b__law_deed_1 call))
      (sEx (eLm lmAppend (eVar 2) (aCons (eVar 4) aNil))))) σ h := rfl
def m__law_deed (call : CallT) : SemS := (sSq (sAs (eLst aNil) (gNm 2))
      (sSq (sFor (iA1 (aCons (eN nLen (aCons (eVar 0) aNil)) aNil)) (gNm 3)
      (b__law_deed_2 call))
      (sRt (eN nTuple (aCons (eVar 2) aNil)))))
@[simp] theorem am__law_deed (call : CallT) (σ : Lo) (h : Hs) : m__law_deed call σ h = (sSq (sAs (eLst aNil) (gNm 2))
      (sSq (sFor (iA1 (aCons (eN nLen (aCons (eVar 0) aNil)) aNil)) (gNm 3)
      (b__law_deed_2 call))
      (sRt (eN nTuple (aCons (eVar 2) aNil))))) σ h := rfl
def m__law_after (call : CallT) : SemS := (sRt (eN nTuple (aCons (eLc false [2] (iSeq (eVar 0)) (gNm 2) tYs (eBin oIx (eVar 1) (eVar 2))) aNil)))
@[simp] theorem am__law_after (call : CallT) (σ : Lo) (h : Hs) : m__law_after call σ h = (sRt (eN nTuple (aCons (eLc false [2] (iSeq (eVar 0)) (gNm 2) tYs (eBin oIx (eVar 1) (eVar 2))) aNil))) σ h := rfl
def b__law_side_1 (call : CallT) : SemS := (sIf (tBl (eBin oEq (eCl call 16 [] (aCons (eVar 0) (aCons (eK (.int 2)) aNil))) (eK (.int 0))))
      (sEx (eLm lmAppend (eVar 4) (aCons (eBin oSub (eUn oNeg (eK (.int 1))) (eCl call 16 [] (aCons (eVar 0) (aCons (eVar 2) aNil)))) aNil)))
      (sEx (eLm lmAppend (eVar 4) (aCons (eCl call 16 [] (aCons (eVar 0) (aCons (eVar 1) aNil))) aNil))))
@[simp] theorem ab__law_side_1 (call : CallT) (σ : Lo) (h : Hs) : b__law_side_1 call σ h = (sIf (tBl (eBin oEq (eCl call 16 [] (aCons (eVar 0) (aCons (eK (.int 2)) aNil))) (eK (.int 0))))
      (sEx (eLm lmAppend (eVar 4) (aCons (eBin oSub (eUn oNeg (eK (.int 1))) (eCl call 16 [] (aCons (eVar 0) (aCons (eVar 2) aNil)))) aNil)))
      (sEx (eLm lmAppend (eVar 4) (aCons (eCl call 16 [] (aCons (eVar 0) (aCons (eVar 1) aNil))) aNil)))) σ h := rfl
def m__law_side (call : CallT) : SemS := (sSq (sAs (eLst aNil) (gNm 4))
      (sSq (sFor (iA1 (aCons (eBin oAdd (eK (.int 1)) (eCl call 16 [] (aCons (eVar 0) (aCons (eVar 3) aNil)))) aNil)) (gNm 5)
      (b__law_side_1 call))
      (sRt (eN nTuple (aCons (eVar 4) aNil)))))
@[simp] theorem am__law_side (call : CallT) (σ : Lo) (h : Hs) : m__law_side call σ h = (sSq (sAs (eLst aNil) (gNm 4))
      (sSq (sFor (iA1 (aCons (eBin oAdd (eK (.int 1)) (eCl call 16 [] (aCons (eVar 0) (aCons (eVar 3) aNil)))) aNil)) (gNm 5)
      (b__law_side_1 call))
      (sRt (eN nTuple (aCons (eVar 4) aNil))))) σ h := rfl
def b__law_filled_1 (call : CallT) : SemS := (sIf (tBl (eBin oGe (eVar 3) (eK (.int 0))))
      (sEx (eLm lmAppend (eVar 2) (aCons (eVar 3) aNil)))
      (sEx (eXt (eVar 2) (aCons (eBin oIx (eVar 1) (eBin oSub (eUn oNeg (eK (.int 1))) (eVar 3))) aNil))))
@[simp] theorem ab__law_filled_1 (call : CallT) (σ : Lo) (h : Hs) : b__law_filled_1 call σ h = (sIf (tBl (eBin oGe (eVar 3) (eK (.int 0))))
      (sEx (eLm lmAppend (eVar 2) (aCons (eVar 3) aNil)))
      (sEx (eXt (eVar 2) (aCons (eBin oIx (eVar 1) (eBin oSub (eUn oNeg (eK (.int 1))) (eVar 3))) aNil)))) σ h := rfl
def m__law_filled (call : CallT) : SemS := (sSq (sAs (eLst aNil) (gNm 2))
      (sSq (sFor (iSeq (eVar 0)) (gNm 3)
      (b__law_filled_1 call))
      (sRt (eN nTuple (aCons (eVar 2) aNil)))))
@[simp] theorem am__law_filled (call : CallT) (σ : Lo) (h : Hs) : m__law_filled call σ h = (sSq (sAs (eLst aNil) (gNm 2))
      (sSq (sFor (iSeq (eVar 0)) (gNm 3)
      (b__law_filled_1 call))
      (sRt (eN nTuple (aCons (eVar 2) aNil))))) σ h := rfl
def b__law_cut_row_1 (call : CallT) : SemS := (sSq (sIf (tBl (eBin oEq (eN nLen (aCons (eVar 5) aNil)) (eK (.int 0))))
      sBrk
      sNil)
      (sSq (sAs (eLc false [9] (iA1 (aCons (eN nLen (aCons (eVar 1) aNil)) aNil)) (gNm 9) (tBl (eBin oEq (eSl (eVar 5) oNone (oSome (eN nLen (aCons (eBin oIx (eVar 1) (eVar 9)) aNil)))) (eBin oIx (eVar 1) (eVar 9)))) (eVar 9)) (gNm 8))
      (sIf (tAn (tBl (eBin oGt (eN nLen (aCons (eVar 8) aNil)) (eK (.int 0)))) (tBl (eBin oEq (eCl call 16 [] (aCons (eVar 0) (aCons (eK (.int 2)) aNil))) (eK (.int 0)))))
      (sSq (sAs (eCl call 17 [] (aCons (eVar 0) (aCons (eVar 8) aNil))) (gNm 9))
      (sSq (sEx (eLm lmAppend (eVar 6) (aCons (eBin oSub (eUn oNeg (eK (.int 1))) (eVar 9)) aNil)))
      (sAs (eSl (eVar 5) (oSome (eN nLen (aCons (eBin oIx (eVar 1) (eVar 9)) aNil))) oNone) (gNm 5))))
      (sSq (sEx (eLm lmAppend (eVar 6) (aCons (eBin oIx (eVar 5) (eK (.int 0))) aNil)))
      (sAs (eSl (eVar 5) (oSome (eK (.int 1))) oNone) (gNm 5))))))
@[simp] theorem ab__law_cut_row_1 (call : CallT) (σ : Lo) (h : Hs) : b__law_cut_row_1 call σ h = (sSq (sIf (tBl (eBin oEq (eN nLen (aCons (eVar 5) aNil)) (eK (.int 0))))
      sBrk
      sNil)
      (sSq (sAs (eLc false [9] (iA1 (aCons (eN nLen (aCons (eVar 1) aNil)) aNil)) (gNm 9) (tBl (eBin oEq (eSl (eVar 5) oNone (oSome (eN nLen (aCons (eBin oIx (eVar 1) (eVar 9)) aNil)))) (eBin oIx (eVar 1) (eVar 9)))) (eVar 9)) (gNm 8))
      (sIf (tAn (tBl (eBin oGt (eN nLen (aCons (eVar 8) aNil)) (eK (.int 0)))) (tBl (eBin oEq (eCl call 16 [] (aCons (eVar 0) (aCons (eK (.int 2)) aNil))) (eK (.int 0)))))
      (sSq (sAs (eCl call 17 [] (aCons (eVar 0) (aCons (eVar 8) aNil))) (gNm 9))
      (sSq (sEx (eLm lmAppend (eVar 6) (aCons (eBin oSub (eUn oNeg (eK (.int 1))) (eVar 9)) aNil)))
      (sAs (eSl (eVar 5) (oSome (eN nLen (aCons (eBin oIx (eVar 1) (eVar 9)) aNil))) oNone) (gNm 5))))
      (sSq (sEx (eLm lmAppend (eVar 6) (aCons (eBin oIx (eVar 5) (eK (.int 0))) aNil)))
      (sAs (eSl (eVar 5) (oSome (eK (.int 1))) oNone) (gNm 5)))))) σ h := rfl
def m__law_cut_row (call : CallT) : SemS := (sSq (sAs (eCl call 21 [] (aCons (eVar 0) (aCons (eVar 3) (aCons (eN nLen (aCons (eVar 1) aNil)) (aCons (eVar 2) aNil))))) (gNm 4))
      (sSq (sAs (eCl call 22 [] (aCons (eVar 4) (aCons (eVar 1) aNil))) (gNm 5))
      (sSq (sAs (eLst aNil) (gNm 6))
      (sSq (sFor (iA1 (aCons (eBin oAdd (eBin oMulI (eK (.int 12)) (eVar 2)) (eK (.int 12))) aNil)) (gNm 7)
      (b__law_cut_row_1 call))
      (sRt (eTup (aCons (eVar 4) (aCons (eBin oAdd (eN nTuple (aCons (eVar 6) aNil)) (eVar 5)) aNil))))))))
@[simp] theorem am__law_cut_row (call : CallT) (σ : Lo) (h : Hs) : m__law_cut_row call σ h = (sSq (sAs (eCl call 21 [] (aCons (eVar 0) (aCons (eVar 3) (aCons (eN nLen (aCons (eVar 1) aNil)) (aCons (eVar 2) aNil))))) (gNm 4))
      (sSq (sAs (eCl call 22 [] (aCons (eVar 4) (aCons (eVar 1) aNil))) (gNm 5))
      (sSq (sAs (eLst aNil) (gNm 6))
      (sSq (sFor (iA1 (aCons (eBin oAdd (eBin oMulI (eK (.int 12)) (eVar 2)) (eK (.int 12))) aNil)) (gNm 7)
      (b__law_cut_row_1 call))
      (sRt (eTup (aCons (eVar 4) (aCons (eBin oAdd (eN nTuple (aCons (eVar 6) aNil)) (eVar 5)) aNil)))))))) σ h := rfl
def b__law_text_deed_1 (call : CallT) : SemS := (sAs (eCl call 20 [] (aCons (eVar 3) (aCons (eBin oIx (eVar 0) (eVar 4)) aNil))) (gNm 3))
@[simp] theorem ab__law_text_deed_1 (call : CallT) (σ : Lo) (h : Hs) : b__law_text_deed_1 call σ h = (sAs (eCl call 20 [] (aCons (eVar 3) (aCons (eBin oIx (eVar 0) (eVar 4)) aNil))) (gNm 3)) σ h := rfl
def m__law_text_deed (call : CallT) : SemS := (sSq (sAs (eTR (eVar 1)) (gNm 3))
      (sSq (sFor (iSeq (eVar 2)) (gNm 4)
      (b__law_text_deed_1 call))
      (sRt (eVar 3))))
@[simp] theorem am__law_text_deed (call : CallT) (σ : Lo) (h : Hs) : m__law_text_deed call σ h = (sSq (sAs (eTR (eVar 1)) (gNm 3))
      (sSq (sFor (iSeq (eVar 2)) (gNm 4)
      (b__law_text_deed_1 call))
      (sRt (eVar 3)))) σ h := rfl
def m__law_fits (call : CallT) : SemS := (sRt (eAn (eBin oGt (eN nLen (aCons (eVar 3) aNil)) (eK (.int 0))) (eBin (oInF false) (eBin oIx (eCl call 24 [] (aCons (eVar 0) (aCons (eVar 1) (aCons (eVar 3) aNil)))) (eBin oIx (eVar 2) (eK (.int 0)))) (eBin oIx (eVar 2) (eK (.int 1))))))
@[simp] theorem am__law_fits (call : CallT) (σ : Lo) (h : Hs) : m__law_fits call σ h = (sRt (eAn (eBin oGt (eN nLen (aCons (eVar 3) aNil)) (eK (.int 0))) (eBin (oInF false) (eBin oIx (eCl call 24 [] (aCons (eVar 0) (aCons (eVar 1) (aCons (eVar 3) aNil)))) (eBin oIx (eVar 2) (eK (.int 0)))) (eBin oIx (eVar 2) (eK (.int 1)))))) σ h := rfl
def b__law_texts_1 (call : CallT) : SemS := (sEx (eXt (eVar 5) (aCons (eLc false [7] (iA1 (aCons (eVar 0) aNil)) (gNm 7) tYs (eBin oAdd (eVar 6) (eTup (aCons (eVar 7) aNil)))) aNil)))
@[simp] theorem ab__law_texts_1 (call : CallT) (σ : Lo) (h : Hs) : b__law_texts_1 call σ h = (sEx (eXt (eVar 5) (aCons (eLc false [7] (iA1 (aCons (eVar 0) aNil)) (gNm 7) tYs (eBin oAdd (eVar 6) (eTup (aCons (eVar 7) aNil)))) aNil))) σ h := rfl
def b__law_texts_2 (call : CallT) : SemS := (sSq (sAs (eLst aNil) (gNm 5))
      (sSq (sFor (iSeq (eN nListV (aCons (eVar 3) aNil))) (gNm 6)
      (b__law_texts_1 call))
      (sSq (sFrz 5) (sSq (sAs (eVar 5) (gNm 3))
      (sEx (eXt (eVar 2) (aCons (eVar 5) aNil)))))))
@[simp] theorem ab__law_texts_2 (call : CallT) (σ : Lo) (h : Hs) : b__law_texts_2 call σ h = (sSq (sAs (eLst aNil) (gNm 5))
      (sSq (sFor (iSeq (eN nListV (aCons (eVar 3) aNil))) (gNm 6)
      (b__law_texts_1 call))
      (sSq (sFrz 5) (sSq (sAs (eVar 5) (gNm 3))
      (sEx (eXt (eVar 2) (aCons (eVar 5) aNil))))))) σ h := rfl
def m__law_texts (call : CallT) : SemS := (sSq (sAs (eLst aNil) (gNm 2))
      (sSq (sAs (eLv (aCons (eTup aNil) aNil)) (gNm 3))
      (sSq (sFor (iA1 (aCons (eVar 1) aNil)) (gNm 4)
      (b__law_texts_2 call))
      (sRt (eVar 2)))))
@[simp] theorem am__law_texts (call : CallT) (σ : Lo) (h : Hs) : m__law_texts call σ h = (sSq (sAs (eLst aNil) (gNm 2))
      (sSq (sAs (eLv (aCons (eTup aNil) aNil)) (gNm 3))
      (sSq (sFor (iA1 (aCons (eVar 1) aNil)) (gNm 4)
      (b__law_texts_2 call))
      (sRt (eVar 2))))) σ h := rfl
def b__law_rows_hold_1 (call : CallT) : SemS := (sIf (tBl (eBin oNe (eCl call 22 [] (aCons (eVar 2) (aCons (eVar 1) aNil))) (eCl call 22 [] (aCons (eVar 3) (aCons (eVar 1) aNil)))))
      (sRt (eK (.bl false)))
      sNil)
@[simp] theorem ab__law_rows_hold_1 (call : CallT) (σ : Lo) (h : Hs) : b__law_rows_hold_1 call σ h = (sIf (tBl (eBin oNe (eCl call 22 [] (aCons (eVar 2) (aCons (eVar 1) aNil))) (eCl call 22 [] (aCons (eVar 3) (aCons (eVar 1) aNil)))))
      (sRt (eK (.bl false)))
      sNil) σ h := rfl
def m__law_rows_hold (call : CallT) : SemS := (sSq (sFor (iSeq (eVar 0)) (gTp 2 (gCo (gNm 2) (gCo (gNm 3) gNi)))
      (b__law_rows_hold_1 call))
      (sRt (eK (.bl true))))
@[simp] theorem am__law_rows_hold (call : CallT) (σ : Lo) (h : Hs) : m__law_rows_hold call σ h = (sSq (sFor (iSeq (eVar 0)) (gTp 2 (gCo (gNm 2) (gCo (gNm 3) gNi)))
      (b__law_rows_hold_1 call))
      (sRt (eK (.bl true)))) σ h := rfl
def b__law_fillings_1 (call : CallT) : SemS := (sEx (eLm lmAppend (eVar 5) (aCons (eLc false [11] (iSeq (eCl call 26 [] (aCons (eN nLen (aCons (eVar 1) aNil)) (aCons (eVar 4) aNil)))) (gNm 11) (tTru (eCl call 25 [] (aCons (eVar 1) (aCons (eVar 3) (aCons (eVar 6) (aCons (eVar 11) aNil)))))) (eVar 11)) aNil)))
@[simp] theorem ab__law_fillings_1 (call : CallT) (σ : Lo) (h : Hs) : b__law_fillings_1 call σ h = (sEx (eLm lmAppend (eVar 5) (aCons (eLc false [11] (iSeq (eCl call 26 [] (aCons (eN nLen (aCons (eVar 1) aNil)) (aCons (eVar 4) aNil)))) (gNm 11) (tTru (eCl call 25 [] (aCons (eVar 1) (aCons (eVar 3) (aCons (eVar 6) (aCons (eVar 11) aNil)))))) (eVar 11)) aNil))) σ h := rfl
def b__law_fillings_2 (call : CallT) : SemS := (sEx (eXt (eVar 9) (aCons (eLc false [11] (iSeq (eVar 8)) (gNm 11) tYs (eBin oAdd (eVar 10) (eTup (aCons (eVar 11) aNil)))) aNil)))
@[simp] theorem ab__law_fillings_2 (call : CallT) (σ : Lo) (h : Hs) : b__law_fillings_2 call σ h = (sEx (eXt (eVar 9) (aCons (eLc false [11] (iSeq (eVar 8)) (gNm 11) tYs (eBin oAdd (eVar 10) (eTup (aCons (eVar 11) aNil)))) aNil))) σ h := rfl
def b__law_fillings_3 (call : CallT) : SemS := (sSq (sAs (eLst aNil) (gNm 9))
      (sSq (sFor (iSeq (eN nListV (aCons (eVar 7) aNil))) (gNm 10)
      (b__law_fillings_2 call))
      (sSq (sFrz 9) (sAs (eVar 9) (gNm 7)))))
@[simp] theorem ab__law_fillings_3 (call : CallT) (σ : Lo) (h : Hs) : b__law_fillings_3 call σ h = (sSq (sAs (eLst aNil) (gNm 9))
      (sSq (sFor (iSeq (eN nListV (aCons (eVar 7) aNil))) (gNm 10)
      (b__law_fillings_2 call))
      (sSq (sFrz 9) (sAs (eVar 9) (gNm 7))))) σ h := rfl
def m__law_fillings (call : CallT) : SemS := (sSq (sAs (eLst aNil) (gNm 5))
      (sSq (sFor (iSeq (eVar 2)) (gNm 6)
      (b__law_fillings_1 call))
      (sSq (sFrz 5) (sSq (sAs (eLv (aCons (eTup aNil) aNil)) (gNm 7))
      (sSq (sFor (iSeq (eVar 5)) (gNm 8)
      (b__law_fillings_3 call))
      (sRt (eLc false [10] (iSeq (eVar 7)) (gNm 10) (tTru (eCl call 27 [] (aCons (eVar 0) (aCons (eVar 10) aNil)))) (eVar 10))))))))
@[simp] theorem am__law_fillings (call : CallT) (σ : Lo) (h : Hs) : m__law_fillings call σ h = (sSq (sAs (eLst aNil) (gNm 5))
      (sSq (sFor (iSeq (eVar 2)) (gNm 6)
      (b__law_fillings_1 call))
      (sSq (sFrz 5) (sSq (sAs (eLv (aCons (eTup aNil) aNil)) (gNm 7))
      (sSq (sFor (iSeq (eVar 5)) (gNm 8)
      (b__law_fillings_3 call))
      (sRt (eLc false [10] (iSeq (eVar 7)) (gNm 10) (tTru (eCl call 27 [] (aCons (eVar 0) (aCons (eVar 10) aNil)))) (eVar 10)))))))) σ h := rfl
def w__law_strip_1 (call : CallT) : SemT := (tAn (tBl (eBin oGt (eN nLen (aCons (eVar 0) aNil)) (eK (.int 0)))) (tAn (tBl (eBin oGt (eN nLen (aCons (eVar 1) aNil)) (eK (.int 0)))) (tBl (eBin oEq (eBin oIx (eVar 0) (eK (.int 0))) (eBin oIx (eVar 1) (eK (.int 0)))))))
@[simp] theorem aw__law_strip_1 (call : CallT) (σ : Lo) (h : Hs) : w__law_strip_1 call σ h = (tAn (tBl (eBin oGt (eN nLen (aCons (eVar 0) aNil)) (eK (.int 0)))) (tAn (tBl (eBin oGt (eN nLen (aCons (eVar 1) aNil)) (eK (.int 0)))) (tBl (eBin oEq (eBin oIx (eVar 0) (eK (.int 0))) (eBin oIx (eVar 1) (eK (.int 0))))))) σ h := rfl
def b__law_strip_2 (call : CallT) : SemS := (sSq (sAs (eSl (eVar 0) (oSome (eK (.int 1))) oNone) (gNm 0))
      (sAs (eSl (eVar 1) (oSome (eK (.int 1))) oNone) (gNm 1)))
@[simp] theorem ab__law_strip_2 (call : CallT) (σ : Lo) (h : Hs) : b__law_strip_2 call σ h = (sSq (sAs (eSl (eVar 0) (oSome (eK (.int 1))) oNone) (gNm 0))
      (sAs (eSl (eVar 1) (oSome (eK (.int 1))) oNone) (gNm 1))) σ h := rfl
def w__law_strip_3 (call : CallT) : SemT := (tAn (tBl (eBin oGt (eN nLen (aCons (eVar 0) aNil)) (eK (.int 0)))) (tAn (tBl (eBin oGt (eN nLen (aCons (eVar 1) aNil)) (eK (.int 0)))) (tBl (eBin oEq (eBin oIx (eVar 0) (eBin oSub (eN nLen (aCons (eVar 0) aNil)) (eK (.int 1)))) (eBin oIx (eVar 1) (eBin oSub (eN nLen (aCons (eVar 1) aNil)) (eK (.int 1))))))))
@[simp] theorem aw__law_strip_3 (call : CallT) (σ : Lo) (h : Hs) : w__law_strip_3 call σ h = (tAn (tBl (eBin oGt (eN nLen (aCons (eVar 0) aNil)) (eK (.int 0)))) (tAn (tBl (eBin oGt (eN nLen (aCons (eVar 1) aNil)) (eK (.int 0)))) (tBl (eBin oEq (eBin oIx (eVar 0) (eBin oSub (eN nLen (aCons (eVar 0) aNil)) (eK (.int 1)))) (eBin oIx (eVar 1) (eBin oSub (eN nLen (aCons (eVar 1) aNil)) (eK (.int 1)))))))) σ h := rfl
def b__law_strip_4 (call : CallT) : SemS := (sSq (sAs (eSl (eVar 0) oNone (oSome (eBin oSub (eN nLen (aCons (eVar 0) aNil)) (eK (.int 1))))) (gNm 0))
      (sAs (eSl (eVar 1) oNone (oSome (eBin oSub (eN nLen (aCons (eVar 1) aNil)) (eK (.int 1))))) (gNm 1)))
@[simp] theorem ab__law_strip_4 (call : CallT) (σ : Lo) (h : Hs) : b__law_strip_4 call σ h = (sSq (sAs (eSl (eVar 0) oNone (oSome (eBin oSub (eN nLen (aCons (eVar 0) aNil)) (eK (.int 1))))) (gNm 0))
      (sAs (eSl (eVar 1) oNone (oSome (eBin oSub (eN nLen (aCons (eVar 1) aNil)) (eK (.int 1))))) (gNm 1))) σ h := rfl
def m__law_strip (call : CallT) : SemS := (sSq (sWh (w__law_strip_1 call)
      (b__law_strip_2 call))
      (sSq (sWh (w__law_strip_3 call)
      (b__law_strip_4 call))
      (sRt (eTup (aCons (eVar 0) (aCons (eVar 1) aNil))))))
@[simp] theorem am__law_strip (call : CallT) (σ : Lo) (h : Hs) : m__law_strip call σ h = (sSq (sWh (w__law_strip_1 call)
      (b__law_strip_2 call))
      (sSq (sWh (w__law_strip_3 call)
      (b__law_strip_4 call))
      (sRt (eTup (aCons (eVar 0) (aCons (eVar 1) aNil)))))) σ h := rfl
def b__law_tidy_1 (call : CallT) : SemS := (sSq (sAs (eCl call 29 [] (aCons (eBin oIx (eBin oIx (eVar 0) (eVar 2)) (eK (.int 0))) (aCons (eBin oIx (eBin oIx (eVar 0) (eVar 2)) (eK (.int 1))) aNil))) (gTp 2 (gCo (gNm 3) (gCo (gNm 4) gNi))))
      (sSq (sIf (tAn (tBl (eBin oEq (eN nLen (aCons (eVar 3) aNil)) (eK (.int 0)))) (tBl (eBin oEq (eN nLen (aCons (eVar 4) aNil)) (eK (.int 0)))))
      sCnt
      sNil)
      (sSq (sIf (tOr' (tBl (eBin oEq (eN nLen (aCons (eVar 3) aNil)) (eK (.int 0)))) (tBl (eBin oEq (eN nLen (aCons (eVar 4) aNil)) (eK (.int 0)))))
      (sRt (eTup (aCons (eK (.str "empty")) (aCons (eVar 2) aNil))))
      sNil)
      (sSq (sIf (tAn (tBl (eBin oGe (eBin oIx (eVar 3) (eK (.int 0))) (eK (.int 0)))) (tBl (eBin oGe (eBin oIx (eVar 4) (eK (.int 0))) (eK (.int 0)))))
      (sRt (eTup (aCons (eK (.str "front")) (aCons (eVar 2) aNil))))
      sNil)
      (sSq (sIf (tAn (tBl (eBin oGe (eBin oIx (eVar 3) (eBin oSub (eN nLen (aCons (eVar 3) aNil)) (eK (.int 1)))) (eK (.int 0)))) (tBl (eBin oGe (eBin oIx (eVar 4) (eBin oSub (eN nLen (aCons (eVar 4) aNil)) (eK (.int 1)))) (eK (.int 0)))))
      (sRt (eTup (aCons (eK (.str "back")) (aCons (eVar 2) aNil))))
      sNil)
      (sEx (eLm lmAppend (eVar 1) (aCons (eTup (aCons (eVar 3) (aCons (eVar 4) aNil))) aNil))))))))
@[simp] theorem ab__law_tidy_1 (call : CallT) (σ : Lo) (h : Hs) : b__law_tidy_1 call σ h = (sSq (sAs (eCl call 29 [] (aCons (eBin oIx (eBin oIx (eVar 0) (eVar 2)) (eK (.int 0))) (aCons (eBin oIx (eBin oIx (eVar 0) (eVar 2)) (eK (.int 1))) aNil))) (gTp 2 (gCo (gNm 3) (gCo (gNm 4) gNi))))
      (sSq (sIf (tAn (tBl (eBin oEq (eN nLen (aCons (eVar 3) aNil)) (eK (.int 0)))) (tBl (eBin oEq (eN nLen (aCons (eVar 4) aNil)) (eK (.int 0)))))
      sCnt
      sNil)
      (sSq (sIf (tOr' (tBl (eBin oEq (eN nLen (aCons (eVar 3) aNil)) (eK (.int 0)))) (tBl (eBin oEq (eN nLen (aCons (eVar 4) aNil)) (eK (.int 0)))))
      (sRt (eTup (aCons (eK (.str "empty")) (aCons (eVar 2) aNil))))
      sNil)
      (sSq (sIf (tAn (tBl (eBin oGe (eBin oIx (eVar 3) (eK (.int 0))) (eK (.int 0)))) (tBl (eBin oGe (eBin oIx (eVar 4) (eK (.int 0))) (eK (.int 0)))))
      (sRt (eTup (aCons (eK (.str "front")) (aCons (eVar 2) aNil))))
      sNil)
      (sSq (sIf (tAn (tBl (eBin oGe (eBin oIx (eVar 3) (eBin oSub (eN nLen (aCons (eVar 3) aNil)) (eK (.int 1)))) (eK (.int 0)))) (tBl (eBin oGe (eBin oIx (eVar 4) (eBin oSub (eN nLen (aCons (eVar 4) aNil)) (eK (.int 1)))) (eK (.int 0)))))
      (sRt (eTup (aCons (eK (.str "back")) (aCons (eVar 2) aNil))))
      sNil)
      (sEx (eLm lmAppend (eVar 1) (aCons (eTup (aCons (eVar 3) (aCons (eVar 4) aNil))) aNil)))))))) σ h := rfl
def m__law_tidy (call : CallT) : SemS := (sSq (sAs (eLst aNil) (gNm 1))
      (sSq (sFor (iA1 (aCons (eN nLen (aCons (eVar 0) aNil)) aNil)) (gNm 2)
      (b__law_tidy_1 call))
      (sRt (eVar 1))))
@[simp] theorem am__law_tidy (call : CallT) (σ : Lo) (h : Hs) : m__law_tidy call σ h = (sSq (sAs (eLst aNil) (gNm 1))
      (sSq (sFor (iA1 (aCons (eN nLen (aCons (eVar 0) aNil)) aNil)) (gNm 2)
      (b__law_tidy_1 call))
      (sRt (eVar 1)))) σ h := rfl
def b__law_lots_1 (call : CallT) : SemS := (sSq (sAs (eLc false [6] (iA1 (aCons (eBin oAdd (eK (.int 1)) (eCl call 16 [] (aCons (eVar 0) (aCons (eK (.int 3)) aNil)))) aNil)) (gNm 6) tYs (eCl call 16 [] (aCons (eVar 0) (aCons (eN nLen (aCons (eBin oIx (eVar 1) (eK (.int 0))) aNil)) aNil)))) (gNm 5))
      (sEx (eLm lmAppend (eVar 3) (aCons (eCl call 19 [] (aCons (eVar 1) (aCons (eVar 5) aNil))) aNil))))
@[simp] theorem ab__law_lots_1 (call : CallT) (σ : Lo) (h : Hs) : b__law_lots_1 call σ h = (sSq (sAs (eLc false [6] (iA1 (aCons (eBin oAdd (eK (.int 1)) (eCl call 16 [] (aCons (eVar 0) (aCons (eK (.int 3)) aNil)))) aNil)) (gNm 6) tYs (eCl call 16 [] (aCons (eVar 0) (aCons (eN nLen (aCons (eBin oIx (eVar 1) (eK (.int 0))) aNil)) aNil)))) (gNm 5))
      (sEx (eLm lmAppend (eVar 3) (aCons (eCl call 19 [] (aCons (eVar 1) (aCons (eVar 5) aNil))) aNil)))) σ h := rfl
def m__law_lots (call : CallT) : SemS := (sSq (sAs (eLst aNil) (gNm 3))
      (sSq (sFor (iA1 (aCons (eVar 2) aNil)) (gNm 4)
      (b__law_lots_1 call))
      (sRt (eVar 3))))
@[simp] theorem am__law_lots (call : CallT) (σ : Lo) (h : Hs) : m__law_lots call σ h = (sSq (sAs (eLst aNil) (gNm 3))
      (sSq (sFor (iA1 (aCons (eVar 2) aNil)) (gNm 4)
      (b__law_lots_1 call))
      (sRt (eVar 3)))) σ h := rfl
def m__law_end_states (call : CallT) : SemS := (sSq (sAs (eCl call 16 [] (aCons (eVar 0) (aCons (eVar 1) aNil))) (gNm 2))
      (sSq (sIf (tBl (eBin oEq (eCl call 16 [] (aCons (eVar 0) (aCons (eK (.int 2)) aNil))) (eK (.int 0))))
      (sRt (eTup (aCons (eVar 2) (aCons (eTR (eVar 1)) aNil))))
      sNil)
      (sRt (eTup (aCons (eVar 2) (aCons (eN nTuple (aCons (eLc false [3] (iA1 (aCons (eVar 1) aNil)) (gNm 3) (tBl (eBin oGt (eCl call 16 [] (aCons (eVar 0) (aCons (eK (.int 3)) aNil))) (eK (.int 0)))) (eVar 3)) aNil)) aNil))))))
@[simp] theorem am__law_end_states (call : CallT) (σ : Lo) (h : Hs) : m__law_end_states call σ h = (sSq (sAs (eCl call 16 [] (aCons (eVar 0) (aCons (eVar 1) aNil))) (gNm 2))
      (sSq (sIf (tBl (eBin oEq (eCl call 16 [] (aCons (eVar 0) (aCons (eK (.int 2)) aNil))) (eK (.int 0))))
      (sRt (eTup (aCons (eVar 2) (aCons (eTR (eVar 1)) aNil))))
      sNil)
      (sRt (eTup (aCons (eVar 2) (aCons (eN nTuple (aCons (eLc false [3] (iA1 (aCons (eVar 1) aNil)) (gNm 3) (tBl (eBin oGt (eCl call 16 [] (aCons (eVar 0) (aCons (eK (.int 3)) aNil))) (eK (.int 0)))) (eVar 3)) aNil)) aNil)))))) σ h := rfl
def b__law_draw_rows_1 (call : CallT) : SemS := (sIf (tBl (eBin oEq (eVar 4) (eK (.int 0))))
      (sEx (eLm lmAppend (eVar 5) (aCons (eCl call 23 [] (aCons (eVar 0) (aCons (eVar 3) (aCons (eK (.int 4)) (aCons (eVar 1) aNil))))) aNil)))
      (sSq (sAs (eCl call 21 [] (aCons (eVar 0) (aCons (eVar 1) (aCons (eVar 2) (aCons (eK (.int 3)) aNil))))) (gNm 7))
      (sSq (sAs (eCl call 21 [] (aCons (eVar 0) (aCons (eVar 1) (aCons (eVar 2) (aCons (eK (.int 3)) aNil))))) (gNm 8))
      (sSq (sAs (eIf (tBl (eBin oEq (eVar 4) (eK (.int 1)))) (eCl call 21 [] (aCons (eVar 0) (aCons (eVar 1) (aCons (eVar 2) (aCons (eK (.int 2)) aNil))))) (eTup aNil)) (gNm 9))
      (sSq (sAs (eIf (tBl (eBin oEq (eVar 4) (eK (.int 1)))) (eCl call 21 [] (aCons (eVar 0) (aCons (eVar 1) (aCons (eVar 2) (aCons (eK (.int 1)) aNil))))) (eTup aNil)) (gNm 10))
      (sEx (eLm lmAppend (eVar 5) (aCons (eTup (aCons (eBin oAdd (eBin oAdd (eVar 9) (eVar 7)) (eVar 10)) (aCons (eBin oAdd (eBin oAdd (eVar 9) (eVar 8)) (eVar 10)) aNil))) aNil))))))))
@[simp] theorem ab__law_draw_rows_1 (call : CallT) (σ : Lo) (h : Hs) : b__law_draw_rows_1 call σ h = (sIf (tBl (eBin oEq (eVar 4) (eK (.int 0))))
      (sEx (eLm lmAppend (eVar 5) (aCons (eCl call 23 [] (aCons (eVar 0) (aCons (eVar 3) (aCons (eK (.int 4)) (aCons (eVar 1) aNil))))) aNil)))
      (sSq (sAs (eCl call 21 [] (aCons (eVar 0) (aCons (eVar 1) (aCons (eVar 2) (aCons (eK (.int 3)) aNil))))) (gNm 7))
      (sSq (sAs (eCl call 21 [] (aCons (eVar 0) (aCons (eVar 1) (aCons (eVar 2) (aCons (eK (.int 3)) aNil))))) (gNm 8))
      (sSq (sAs (eIf (tBl (eBin oEq (eVar 4) (eK (.int 1)))) (eCl call 21 [] (aCons (eVar 0) (aCons (eVar 1) (aCons (eVar 2) (aCons (eK (.int 2)) aNil))))) (eTup aNil)) (gNm 9))
      (sSq (sAs (eIf (tBl (eBin oEq (eVar 4) (eK (.int 1)))) (eCl call 21 [] (aCons (eVar 0) (aCons (eVar 1) (aCons (eVar 2) (aCons (eK (.int 1)) aNil))))) (eTup aNil)) (gNm 10))
      (sEx (eLm lmAppend (eVar 5) (aCons (eTup (aCons (eBin oAdd (eBin oAdd (eVar 9) (eVar 7)) (eVar 10)) (aCons (eBin oAdd (eBin oAdd (eVar 9) (eVar 8)) (eVar 10)) aNil))) aNil)))))))) σ h := rfl
def m__law_draw_rows (call : CallT) : SemS := (sSq (sAs (eCl call 16 [] (aCons (eVar 0) (aCons (eK (.int 3)) aNil))) (gNm 4))
      (sSq (sAs (eLst aNil) (gNm 5))
      (sSq (sFor (iA1 (aCons (eBin oAdd (eK (.int 1)) (eCl call 16 [] (aCons (eVar 0) (aCons (eK (.int 3)) aNil)))) aNil)) (gNm 6)
      (b__law_draw_rows_1 call))
      (sRt (eVar 5)))))
@[simp] theorem am__law_draw_rows (call : CallT) (σ : Lo) (h : Hs) : m__law_draw_rows call σ h = (sSq (sAs (eCl call 16 [] (aCons (eVar 0) (aCons (eK (.int 3)) aNil))) (gNm 4))
      (sSq (sAs (eLst aNil) (gNm 5))
      (sSq (sFor (iA1 (aCons (eBin oAdd (eK (.int 1)) (eCl call 16 [] (aCons (eVar 0) (aCons (eK (.int 3)) aNil)))) aNil)) (gNm 6)
      (b__law_draw_rows_1 call))
      (sRt (eVar 5))))) σ h := rfl
def m__law_same_tidy (call : CallT) : SemS := (sSq (sAs (eCl call 30 [] (aCons (eVar 2) aNil)) (gNm 3))
      (sSq (sIf (tTru (eIsi (isiL ["tuple"]) (eVar 3)))
      (sRt (eAn (eIsi isi_Clash (eVar 1)) (eAn (eBin oEq (eTup (aCons (eFd (ok_why) 5 (eVar 1)) (aCons (eFd (ok_at) 6 (eVar 1)) aNil))) (eVar 3)) (eBin (oOwn call 11 3) (eVar 1) (eMk call 10 3 [] (aCons (eBin oIx (eVar 3) (eK (.int 0))) (aCons (eBin oIx (eVar 3) (eK (.int 1))) aNil)))))))
      sNil)
      (sSq (sIf (tOr' (tNo (tTru (eIsi isi_Book (eVar 1)))) (tBl (eBin oNe (eFd (ok_rows) 3 (eVar 1)) (eN nTuple (aCons (eVar 3) aNil)))))
      (sRt (eK (.bl false)))
      sNil)
      (sSq (sIf (tBl (eBin oNe (eTup (aCons (eFd (ok_deeds) 1 (eVar 1)) (aCons (eFd (ok_ends) 2 (eVar 1)) (aCons (eFd (ok_states) 4 (eVar 1)) aNil)))) (eTup (aCons (eFd (ok_deeds) 1 (eVar 0)) (aCons (eFd (ok_ends) 2 (eVar 0)) (aCons (eFd (ok_states) 4 (eVar 0)) aNil))))))
      (sRt (eK (.bl false)))
      sNil)
      (sRt (eBin (oOwn call 9 2) (eCl call 14 [] (aCons (eVar 1) aNil)) (eVar 1)))))))
@[simp] theorem am__law_same_tidy (call : CallT) (σ : Lo) (h : Hs) : m__law_same_tidy call σ h = (sSq (sAs (eCl call 30 [] (aCons (eVar 2) aNil)) (gNm 3))
      (sSq (sIf (tTru (eIsi (isiL ["tuple"]) (eVar 3)))
      (sRt (eAn (eIsi isi_Clash (eVar 1)) (eAn (eBin oEq (eTup (aCons (eFd (ok_why) 5 (eVar 1)) (aCons (eFd (ok_at) 6 (eVar 1)) aNil))) (eVar 3)) (eBin (oOwn call 11 3) (eVar 1) (eMk call 10 3 [] (aCons (eBin oIx (eVar 3) (eK (.int 0))) (aCons (eBin oIx (eVar 3) (eK (.int 1))) aNil)))))))
      sNil)
      (sSq (sIf (tOr' (tNo (tTru (eIsi isi_Book (eVar 1)))) (tBl (eBin oNe (eFd (ok_rows) 3 (eVar 1)) (eN nTuple (aCons (eVar 3) aNil)))))
      (sRt (eK (.bl false)))
      sNil)
      (sSq (sIf (tBl (eBin oNe (eTup (aCons (eFd (ok_deeds) 1 (eVar 1)) (aCons (eFd (ok_ends) 2 (eVar 1)) (aCons (eFd (ok_states) 4 (eVar 1)) aNil)))) (eTup (aCons (eFd (ok_deeds) 1 (eVar 0)) (aCons (eFd (ok_ends) 2 (eVar 0)) (aCons (eFd (ok_states) 4 (eVar 0)) aNil))))))
      (sRt (eK (.bl false)))
      sNil)
      (sRt (eBin (oOwn call 9 2) (eCl call 14 [] (aCons (eVar 1) aNil)) (eVar 1))))))) σ h := rfl
def m_law (call : CallT) : SemS := (sSq (sAs (eCl call 15 [] (aCons (eVar 0) aNil)) (gNm 1))
      (sSq (sAs (eBin oAdd (eK (.int 1)) (eCl call 16 [] (aCons (eVar 1) (aCons (eK (.int 3)) aNil)))) (gNm 2))
      (sSq (sAs (eBin oAdd (eK (.int 1)) (eCl call 16 [] (aCons (eVar 1) (aCons (eK (.int 2)) aNil)))) (gNm 3))
      (sSq (sAs (eBin oAdd (eK (.int 1)) (eCl call 16 [] (aCons (eVar 1) (aCons (eK (.int 2)) aNil)))) (gNm 4))
      (sSq (sAs (eCl call 18 [] (aCons (eVar 1) (aCons (eVar 2) (aCons (eK (.int 2)) aNil)))) (gNm 5))
      (sSq (sAs (eCl call 31 [] (aCons (eVar 1) (aCons (eVar 5) (aCons (eVar 3) aNil)))) (gNm 6))
      (sSq (sAs (eLc false [16] (iA1 (aCons (eVar 4) aNil)) (gNm 16) tYs (eCl call 32 [] (aCons (eVar 1) (aCons (eVar 2) aNil)))) (gNm 7))
      (sSq (sAs (eCl call 26 [] (aCons (eVar 3) (aCons (eK (.int 2)) aNil))) (gNm 8))
      (sSq (sAs (eLc false [16] (iA1 (aCons (eVar 4) aNil)) (gNm 16) tYs (eCl call 17 [] (aCons (eVar 1) (aCons (eVar 8) aNil)))) (gNm 9))
      (sSq (sAs (eCl call 33 [] (aCons (eVar 1) (aCons (eVar 3) (aCons (eVar 4) (aCons (eVar 9) aNil))))) (gNm 10))
      (sSq (sAs (eMk call 8 2 [] (aCons (eVar 10) (aCons (eVar 6) (aCons (eVar 7) (aCons (eVar 2) aNil))))) (gNm 11))
      (sSq (sAs (eCl call 14 [] (aCons (eVar 11) aNil)) (gNm 12))
      (sSq (sIf (tOr' (tNo (tTru (eCl call 34 [] (aCons (eVar 11) (aCons (eVar 12) (aCons (eVar 10) aNil)))))) (tBl (eBin oNe (eFd (ok_rows) 3 (eVar 11)) (eN nTuple (aCons (eVar 10) aNil)))))
      (sRt (eK (.bl false)))
      sNil)
      (sSq (sAs (eBin oAdd (eVar 6) (eLv (aCons (eBin oIx (eCl call 31 [] (aCons (eVar 1) (aCons (eVar 5) (aCons (eK (.int 1)) aNil)))) (eK (.int 0))) aNil))) (gNm 13))
      (sSq (sAs (eIf (tBl (eBin oEq (eVar 4) (eK (.int 1)))) (eK (.int 3)) (eK (.int 2))) (gNm 14))
      (sSq (sAs (eCl call 28 [] (aCons (eVar 10) (aCons (eVar 13) (aCons (eVar 7) (aCons (eVar 2) (aCons (eVar 14) aNil)))))) (gNm 15))
      (sSq (sIf (tTru (eIsi isi_Clash (eVar 12)))
      (sRt (eBin oEq (eVar 15) (eLv aNil)))
      sNil)
      (sRt (eBin oEq (eCl call 28 [] (aCons (eFd (ok_rows) 3 (eVar 12)) (aCons (eVar 13) (aCons (eVar 7) (aCons (eVar 2) (aCons (eVar 14) aNil)))))) (eVar 15))))))))))))))))))))
@[simp] theorem am_law (call : CallT) (σ : Lo) (h : Hs) : m_law call σ h = (sSq (sAs (eCl call 15 [] (aCons (eVar 0) aNil)) (gNm 1))
      (sSq (sAs (eBin oAdd (eK (.int 1)) (eCl call 16 [] (aCons (eVar 1) (aCons (eK (.int 3)) aNil)))) (gNm 2))
      (sSq (sAs (eBin oAdd (eK (.int 1)) (eCl call 16 [] (aCons (eVar 1) (aCons (eK (.int 2)) aNil)))) (gNm 3))
      (sSq (sAs (eBin oAdd (eK (.int 1)) (eCl call 16 [] (aCons (eVar 1) (aCons (eK (.int 2)) aNil)))) (gNm 4))
      (sSq (sAs (eCl call 18 [] (aCons (eVar 1) (aCons (eVar 2) (aCons (eK (.int 2)) aNil)))) (gNm 5))
      (sSq (sAs (eCl call 31 [] (aCons (eVar 1) (aCons (eVar 5) (aCons (eVar 3) aNil)))) (gNm 6))
      (sSq (sAs (eLc false [16] (iA1 (aCons (eVar 4) aNil)) (gNm 16) tYs (eCl call 32 [] (aCons (eVar 1) (aCons (eVar 2) aNil)))) (gNm 7))
      (sSq (sAs (eCl call 26 [] (aCons (eVar 3) (aCons (eK (.int 2)) aNil))) (gNm 8))
      (sSq (sAs (eLc false [16] (iA1 (aCons (eVar 4) aNil)) (gNm 16) tYs (eCl call 17 [] (aCons (eVar 1) (aCons (eVar 8) aNil)))) (gNm 9))
      (sSq (sAs (eCl call 33 [] (aCons (eVar 1) (aCons (eVar 3) (aCons (eVar 4) (aCons (eVar 9) aNil))))) (gNm 10))
      (sSq (sAs (eMk call 8 2 [] (aCons (eVar 10) (aCons (eVar 6) (aCons (eVar 7) (aCons (eVar 2) aNil))))) (gNm 11))
      (sSq (sAs (eCl call 14 [] (aCons (eVar 11) aNil)) (gNm 12))
      (sSq (sIf (tOr' (tNo (tTru (eCl call 34 [] (aCons (eVar 11) (aCons (eVar 12) (aCons (eVar 10) aNil)))))) (tBl (eBin oNe (eFd (ok_rows) 3 (eVar 11)) (eN nTuple (aCons (eVar 10) aNil)))))
      (sRt (eK (.bl false)))
      sNil)
      (sSq (sAs (eBin oAdd (eVar 6) (eLv (aCons (eBin oIx (eCl call 31 [] (aCons (eVar 1) (aCons (eVar 5) (aCons (eK (.int 1)) aNil)))) (eK (.int 0))) aNil))) (gNm 13))
      (sSq (sAs (eIf (tBl (eBin oEq (eVar 4) (eK (.int 1)))) (eK (.int 3)) (eK (.int 2))) (gNm 14))
      (sSq (sAs (eCl call 28 [] (aCons (eVar 10) (aCons (eVar 13) (aCons (eVar 7) (aCons (eVar 2) (aCons (eVar 14) aNil)))))) (gNm 15))
      (sSq (sIf (tTru (eIsi isi_Clash (eVar 12)))
      (sRt (eBin oEq (eVar 15) (eLv aNil)))
      sNil)
      (sRt (eBin oEq (eCl call 28 [] (aCons (eFd (ok_rows) 3 (eVar 12)) (aCons (eVar 13) (aCons (eVar 7) (aCons (eVar 2) (aCons (eVar 14) aNil)))))) (eVar 15)))))))))))))))))))) σ h := rfl
def defs : List MDef := [⟨1, 1, false, m_is_whole⟩, ⟨1, 1, false, m_is_sequence⟩, ⟨2, 2, false, m_is_state⟩, ⟨2, 5, false, m_checked_deeds⟩, ⟨2, 4, false, m_are_goals⟩, ⟨2, 6, false, m_checked_ends⟩, ⟨1, 7, false, m_checked_rows⟩, ⟨3, 6, false, m_check_signs⟩, ⟨5, 5, false, m_Book__init_⟩, ⟨2, 2, false, m_Book__eq_⟩, ⟨3, 3, false, m_Clash__init_⟩, ⟨2, 2, false, m_Clash__eq_⟩, ⟨2, 5, false, m_stripped⟩, ⟨2, 2, false, m_clash_word⟩, ⟨1, 6, false, m_tidy⟩, ⟨1, 1, true, m__law_source⟩, ⟨2, 5, false, m__law_take⟩, ⟨2, 2, false, m__law_pick⟩, ⟨3, 5, false, m__law_moves⟩, ⟨2, 6, false, m__law_deed⟩, ⟨2, 3, false, m__law_after⟩, ⟨4, 6, false, m__law_side⟩, ⟨2, 4, false, m__law_filled⟩, ⟨4, 10, false, m__law_cut_row⟩, ⟨3, 5, false, m__law_text_deed⟩, ⟨4, 4, false, m__law_fits⟩, ⟨2, 8, false, m__law_texts⟩, ⟨2, 4, false, m__law_rows_hold⟩, ⟨5, 12, false, m__law_fillings⟩, ⟨2, 2, false, m__law_strip⟩, ⟨1, 5, false, m__law_tidy⟩, ⟨3, 7, false, m__law_lots⟩, ⟨2, 4, false, m__law_end_states⟩, ⟨4, 11, false, m__law_draw_rows⟩, ⟨3, 4, false, m__law_same_tidy⟩, ⟨1, 17, false, m_law⟩]
abbrev fns (K : PySem.W.Frag) (fd : Nat → FuncData) : List Fn := [⟨He.fAd K d_is_whole.at_, fd 0, ["thing"]⟩, ⟨He.fAd K d_is_sequence.at_, fd 1, ["thing"]⟩, ⟨He.fAd K d_is_state.at_, fd 2, ["thing", "states"]⟩, ⟨He.fAd K d_checked_deeds.at_, fd 3, ["deeds", "states"]⟩, ⟨He.fAd K d_are_goals.at_, fd 4, ["goals", "states"]⟩, ⟨He.fAd K d_checked_ends.at_, fd 5, ["ends", "states"]⟩, ⟨He.fAd K d_checked_rows.at_, fd 6, ["rows"]⟩, ⟨He.fAd K d_check_signs.at_, fd 7, ["rows", "letters", "unknowns"]⟩, ⟨He.fAd K d_Book__init_.at_, fd 8, ["self", "rows", "deeds", "ends", "states"]⟩, ⟨He.fAd K d_Book__eq_.at_, fd 9, ["self", "other"]⟩, ⟨He.fAd K d_Clash__init_.at_, fd 10, ["self", "why", "at"]⟩, ⟨He.fAd K d_Clash__eq_.at_, fd 11, ["self", "other"]⟩, ⟨He.fAd K d_stripped.at_, fd 12, ["left", "right"]⟩, ⟨He.fAd K d_clash_word.at_, fd 13, ["left", "right"]⟩, ⟨He.fAd K d_tidy.at_, fd 14, ["book"]⟩, ⟨He.fAd K d__law_source.at_, fd 15, ["_law_script"]⟩, ⟨He.fAd K d__law_take.at_, fd 16, ["_law_source_here", "_law_many"]⟩, ⟨He.fAd K d__law_pick.at_, fd 17, ["_law_source_here", "_law_things"]⟩, ⟨He.fAd K d__law_moves.at_, fd 18, ["_law_source_here", "_law_states", "_law_letters"]⟩, ⟨He.fAd K d__law_deed.at_, fd 19, ["_law_moves_here", "_law_places"]⟩, ⟨He.fAd K d__law_after.at_, fd 20, ["_law_first", "_law_then"]⟩, ⟨He.fAd K d__law_side.at_, fd 21, ["_law_source_here", "_law_letters", "_law_unknowns", "_law_most"]⟩, ⟨He.fAd K d__law_filled.at_, fd 22, ["_law_side_here", "_law_texts_here"]⟩, ⟨He.fAd K d__law_cut_row.at_, fd 23, ["_law_source_here", "_law_texts_here", "_law_most", "_law_letters"]⟩, ⟨He.fAd K d__law_text_deed.at_, fd 24, ["_law_deeds", "_law_states", "_law_text"]⟩, ⟨He.fAd K d__law_fits.at_, fd 25, ["_law_deeds", "_law_states", "_law_ends", "_law_text"]⟩, ⟨He.fAd K d__law_texts.at_, fd 26, ["_law_letters", "_law_most"]⟩, ⟨He.fAd K d__law_rows_hold.at_, fd 27, ["_law_rows", "_law_texts_here"]⟩, ⟨He.fAd K d__law_fillings.at_, fd 28, ["_law_rows", "_law_deeds", "_law_ends", "_law_states", "_law_most"]⟩, ⟨He.fAd K d__law_strip.at_, fd 29, ["_law_left", "_law_right"]⟩, ⟨He.fAd K d__law_tidy.at_, fd 30, ["_law_rows"]⟩, ⟨He.fAd K d__law_lots.at_, fd 31, ["_law_source_here", "_law_moves_here", "_law_many"]⟩, ⟨He.fAd K d__law_end_states.at_, fd 32, ["_law_source_here", "_law_states"]⟩, ⟨He.fAd K d__law_draw_rows.at_, fd 33, ["_law_source_here", "_law_letters", "_law_unknowns", "_law_texts_here"]⟩, ⟨He.fAd K d__law_same_tidy.at_, fd 34, ["_law_book", "_law_told", "_law_rows"]⟩, ⟨He.fAd K d_law.at_, fd 35, ["_law_script"]⟩]
structure Fx (K : PySem.W.Frag) (mg : Str → Option Value) (fd : Nat → FuncData) : Prop where
  D_is_whole : FunD K d_is_whole.name d_is_whole.qual d_is_whole.params d_is_whole.body d_is_whole.scope (d_is_whole.dvs K) (d_is_whole.kws K) (He.fAd K d_is_whole.at_) (fd 0)
  i_is_whole : FnI K ⟨He.fAd K d_is_whole.at_, fd 0, ["thing"]⟩
  D_is_sequence : FunD K d_is_sequence.name d_is_sequence.qual d_is_sequence.params d_is_sequence.body d_is_sequence.scope (d_is_sequence.dvs K) (d_is_sequence.kws K) (He.fAd K d_is_sequence.at_) (fd 1)
  i_is_sequence : FnI K ⟨He.fAd K d_is_sequence.at_, fd 1, ["thing"]⟩
  D_is_state : FunD K d_is_state.name d_is_state.qual d_is_state.params d_is_state.body d_is_state.scope (d_is_state.dvs K) (d_is_state.kws K) (He.fAd K d_is_state.at_) (fd 2)
  i_is_state : FnI K ⟨He.fAd K d_is_state.at_, fd 2, ["thing", "states"]⟩
  D_checked_deeds : FunD K d_checked_deeds.name d_checked_deeds.qual d_checked_deeds.params d_checked_deeds.body d_checked_deeds.scope (d_checked_deeds.dvs K) (d_checked_deeds.kws K) (He.fAd K d_checked_deeds.at_) (fd 3)
  i_checked_deeds : FnI K ⟨He.fAd K d_checked_deeds.at_, fd 3, ["deeds", "states"]⟩
  D_are_goals : FunD K d_are_goals.name d_are_goals.qual d_are_goals.params d_are_goals.body d_are_goals.scope (d_are_goals.dvs K) (d_are_goals.kws K) (He.fAd K d_are_goals.at_) (fd 4)
  i_are_goals : FnI K ⟨He.fAd K d_are_goals.at_, fd 4, ["goals", "states"]⟩
  D_checked_ends : FunD K d_checked_ends.name d_checked_ends.qual d_checked_ends.params d_checked_ends.body d_checked_ends.scope (d_checked_ends.dvs K) (d_checked_ends.kws K) (He.fAd K d_checked_ends.at_) (fd 5)
  i_checked_ends : FnI K ⟨He.fAd K d_checked_ends.at_, fd 5, ["ends", "states"]⟩
  D_checked_rows : FunD K d_checked_rows.name d_checked_rows.qual d_checked_rows.params d_checked_rows.body d_checked_rows.scope (d_checked_rows.dvs K) (d_checked_rows.kws K) (He.fAd K d_checked_rows.at_) (fd 6)
  i_checked_rows : FnI K ⟨He.fAd K d_checked_rows.at_, fd 6, ["rows"]⟩
  D_check_signs : FunD K d_check_signs.name d_check_signs.qual d_check_signs.params d_check_signs.body d_check_signs.scope (d_check_signs.dvs K) (d_check_signs.kws K) (He.fAd K d_check_signs.at_) (fd 7)
  i_check_signs : FnI K ⟨He.fAd K d_check_signs.at_, fd 7, ["rows", "letters", "unknowns"]⟩
  D_Book__init_ : FunD K d_Book__init_.name d_Book__init_.qual d_Book__init_.params d_Book__init_.body d_Book__init_.scope (d_Book__init_.dvs K) (d_Book__init_.kws K) (He.fAd K d_Book__init_.at_) (fd 8)
  i_Book__init_ : FnI K ⟨He.fAd K d_Book__init_.at_, fd 8, ["self", "rows", "deeds", "ends", "states"]⟩
  D_Book__eq_ : FunD K d_Book__eq_.name d_Book__eq_.qual d_Book__eq_.params d_Book__eq_.body d_Book__eq_.scope (d_Book__eq_.dvs K) (d_Book__eq_.kws K) (He.fAd K d_Book__eq_.at_) (fd 9)
  i_Book__eq_ : FnI K ⟨He.fAd K d_Book__eq_.at_, fd 9, ["self", "other"]⟩
  D_Clash__init_ : FunD K d_Clash__init_.name d_Clash__init_.qual d_Clash__init_.params d_Clash__init_.body d_Clash__init_.scope (d_Clash__init_.dvs K) (d_Clash__init_.kws K) (He.fAd K d_Clash__init_.at_) (fd 10)
  i_Clash__init_ : FnI K ⟨He.fAd K d_Clash__init_.at_, fd 10, ["self", "why", "at"]⟩
  D_Clash__eq_ : FunD K d_Clash__eq_.name d_Clash__eq_.qual d_Clash__eq_.params d_Clash__eq_.body d_Clash__eq_.scope (d_Clash__eq_.dvs K) (d_Clash__eq_.kws K) (He.fAd K d_Clash__eq_.at_) (fd 11)
  i_Clash__eq_ : FnI K ⟨He.fAd K d_Clash__eq_.at_, fd 11, ["self", "other"]⟩
  D_stripped : FunD K d_stripped.name d_stripped.qual d_stripped.params d_stripped.body d_stripped.scope (d_stripped.dvs K) (d_stripped.kws K) (He.fAd K d_stripped.at_) (fd 12)
  i_stripped : FnI K ⟨He.fAd K d_stripped.at_, fd 12, ["left", "right"]⟩
  D_clash_word : FunD K d_clash_word.name d_clash_word.qual d_clash_word.params d_clash_word.body d_clash_word.scope (d_clash_word.dvs K) (d_clash_word.kws K) (He.fAd K d_clash_word.at_) (fd 13)
  i_clash_word : FnI K ⟨He.fAd K d_clash_word.at_, fd 13, ["left", "right"]⟩
  D_tidy : FunD K d_tidy.name d_tidy.qual d_tidy.params d_tidy.body d_tidy.scope (d_tidy.dvs K) (d_tidy.kws K) (He.fAd K d_tidy.at_) (fd 14)
  i_tidy : FnI K ⟨He.fAd K d_tidy.at_, fd 14, ["book"]⟩
  D__law_source : FunD K d__law_source.name d__law_source.qual d__law_source.params d__law_source.body d__law_source.scope (d__law_source.dvs K) (d__law_source.kws K) (He.fAd K d__law_source.at_) (fd 15)
  i__law_source : FnI K ⟨He.fAd K d__law_source.at_, fd 15, ["_law_script"]⟩
  D__law_take : FunD K d__law_take.name d__law_take.qual d__law_take.params d__law_take.body d__law_take.scope (d__law_take.dvs K) (d__law_take.kws K) (He.fAd K d__law_take.at_) (fd 16)
  i__law_take : FnI K ⟨He.fAd K d__law_take.at_, fd 16, ["_law_source_here", "_law_many"]⟩
  D__law_pick : FunD K d__law_pick.name d__law_pick.qual d__law_pick.params d__law_pick.body d__law_pick.scope (d__law_pick.dvs K) (d__law_pick.kws K) (He.fAd K d__law_pick.at_) (fd 17)
  i__law_pick : FnI K ⟨He.fAd K d__law_pick.at_, fd 17, ["_law_source_here", "_law_things"]⟩
  D__law_moves : FunD K d__law_moves.name d__law_moves.qual d__law_moves.params d__law_moves.body d__law_moves.scope (d__law_moves.dvs K) (d__law_moves.kws K) (He.fAd K d__law_moves.at_) (fd 18)
  i__law_moves : FnI K ⟨He.fAd K d__law_moves.at_, fd 18, ["_law_source_here", "_law_states", "_law_letters"]⟩
  D__law_deed : FunD K d__law_deed.name d__law_deed.qual d__law_deed.params d__law_deed.body d__law_deed.scope (d__law_deed.dvs K) (d__law_deed.kws K) (He.fAd K d__law_deed.at_) (fd 19)
  i__law_deed : FnI K ⟨He.fAd K d__law_deed.at_, fd 19, ["_law_moves_here", "_law_places"]⟩
  D__law_after : FunD K d__law_after.name d__law_after.qual d__law_after.params d__law_after.body d__law_after.scope (d__law_after.dvs K) (d__law_after.kws K) (He.fAd K d__law_after.at_) (fd 20)
  i__law_after : FnI K ⟨He.fAd K d__law_after.at_, fd 20, ["_law_first", "_law_then"]⟩
  D__law_side : FunD K d__law_side.name d__law_side.qual d__law_side.params d__law_side.body d__law_side.scope (d__law_side.dvs K) (d__law_side.kws K) (He.fAd K d__law_side.at_) (fd 21)
  i__law_side : FnI K ⟨He.fAd K d__law_side.at_, fd 21, ["_law_source_here", "_law_letters", "_law_unknowns", "_law_most"]⟩
  D__law_filled : FunD K d__law_filled.name d__law_filled.qual d__law_filled.params d__law_filled.body d__law_filled.scope (d__law_filled.dvs K) (d__law_filled.kws K) (He.fAd K d__law_filled.at_) (fd 22)
  i__law_filled : FnI K ⟨He.fAd K d__law_filled.at_, fd 22, ["_law_side_here", "_law_texts_here"]⟩
  D__law_cut_row : FunD K d__law_cut_row.name d__law_cut_row.qual d__law_cut_row.params d__law_cut_row.body d__law_cut_row.scope (d__law_cut_row.dvs K) (d__law_cut_row.kws K) (He.fAd K d__law_cut_row.at_) (fd 23)
  i__law_cut_row : FnI K ⟨He.fAd K d__law_cut_row.at_, fd 23, ["_law_source_here", "_law_texts_here", "_law_most", "_law_letters"]⟩
  D__law_text_deed : FunD K d__law_text_deed.name d__law_text_deed.qual d__law_text_deed.params d__law_text_deed.body d__law_text_deed.scope (d__law_text_deed.dvs K) (d__law_text_deed.kws K) (He.fAd K d__law_text_deed.at_) (fd 24)
  i__law_text_deed : FnI K ⟨He.fAd K d__law_text_deed.at_, fd 24, ["_law_deeds", "_law_states", "_law_text"]⟩
  D__law_fits : FunD K d__law_fits.name d__law_fits.qual d__law_fits.params d__law_fits.body d__law_fits.scope (d__law_fits.dvs K) (d__law_fits.kws K) (He.fAd K d__law_fits.at_) (fd 25)
  i__law_fits : FnI K ⟨He.fAd K d__law_fits.at_, fd 25, ["_law_deeds", "_law_states", "_law_ends", "_law_text"]⟩
  D__law_texts : FunD K d__law_texts.name d__law_texts.qual d__law_texts.params d__law_texts.body d__law_texts.scope (d__law_texts.dvs K) (d__law_texts.kws K) (He.fAd K d__law_texts.at_) (fd 26)
  i__law_texts : FnI K ⟨He.fAd K d__law_texts.at_, fd 26, ["_law_letters", "_law_most"]⟩
  D__law_rows_hold : FunD K d__law_rows_hold.name d__law_rows_hold.qual d__law_rows_hold.params d__law_rows_hold.body d__law_rows_hold.scope (d__law_rows_hold.dvs K) (d__law_rows_hold.kws K) (He.fAd K d__law_rows_hold.at_) (fd 27)
  i__law_rows_hold : FnI K ⟨He.fAd K d__law_rows_hold.at_, fd 27, ["_law_rows", "_law_texts_here"]⟩
  D__law_fillings : FunD K d__law_fillings.name d__law_fillings.qual d__law_fillings.params d__law_fillings.body d__law_fillings.scope (d__law_fillings.dvs K) (d__law_fillings.kws K) (He.fAd K d__law_fillings.at_) (fd 28)
  i__law_fillings : FnI K ⟨He.fAd K d__law_fillings.at_, fd 28, ["_law_rows", "_law_deeds", "_law_ends", "_law_states", "_law_most"]⟩
  D__law_strip : FunD K d__law_strip.name d__law_strip.qual d__law_strip.params d__law_strip.body d__law_strip.scope (d__law_strip.dvs K) (d__law_strip.kws K) (He.fAd K d__law_strip.at_) (fd 29)
  i__law_strip : FnI K ⟨He.fAd K d__law_strip.at_, fd 29, ["_law_left", "_law_right"]⟩
  D__law_tidy : FunD K d__law_tidy.name d__law_tidy.qual d__law_tidy.params d__law_tidy.body d__law_tidy.scope (d__law_tidy.dvs K) (d__law_tidy.kws K) (He.fAd K d__law_tidy.at_) (fd 30)
  i__law_tidy : FnI K ⟨He.fAd K d__law_tidy.at_, fd 30, ["_law_rows"]⟩
  D__law_lots : FunD K d__law_lots.name d__law_lots.qual d__law_lots.params d__law_lots.body d__law_lots.scope (d__law_lots.dvs K) (d__law_lots.kws K) (He.fAd K d__law_lots.at_) (fd 31)
  i__law_lots : FnI K ⟨He.fAd K d__law_lots.at_, fd 31, ["_law_source_here", "_law_moves_here", "_law_many"]⟩
  D__law_end_states : FunD K d__law_end_states.name d__law_end_states.qual d__law_end_states.params d__law_end_states.body d__law_end_states.scope (d__law_end_states.dvs K) (d__law_end_states.kws K) (He.fAd K d__law_end_states.at_) (fd 32)
  i__law_end_states : FnI K ⟨He.fAd K d__law_end_states.at_, fd 32, ["_law_source_here", "_law_states"]⟩
  D__law_draw_rows : FunD K d__law_draw_rows.name d__law_draw_rows.qual d__law_draw_rows.params d__law_draw_rows.body d__law_draw_rows.scope (d__law_draw_rows.dvs K) (d__law_draw_rows.kws K) (He.fAd K d__law_draw_rows.at_) (fd 33)
  i__law_draw_rows : FnI K ⟨He.fAd K d__law_draw_rows.at_, fd 33, ["_law_source_here", "_law_letters", "_law_unknowns", "_law_texts_here"]⟩
  D__law_same_tidy : FunD K d__law_same_tidy.name d__law_same_tidy.qual d__law_same_tidy.params d__law_same_tidy.body d__law_same_tidy.scope (d__law_same_tidy.dvs K) (d__law_same_tidy.kws K) (He.fAd K d__law_same_tidy.at_) (fd 34)
  i__law_same_tidy : FnI K ⟨He.fAd K d__law_same_tidy.at_, fd 34, ["_law_book", "_law_told", "_law_rows"]⟩
  D_law : FunD K d_law.name d_law.qual d_law.params d_law.body d_law.scope (d_law.dvs K) (d_law.kws K) (He.fAd K d_law.at_) (fd 35)
  i_law : FnI K ⟨He.fAd K d_law.at_, fd 35, ["_law_script"]⟩
  g_BadBook : mg "BadBook" = some (.ref (He.ga K "BadBook"))
  g_Book : mg "Book" = some (.ref (He.ga K "Book"))
  g_Clash : mg "Clash" = some (.ref (He.ga K "Clash"))
  g_PressError : mg "PressError" = some (.ref (He.ga K "PressError"))
  g__law_after : mg "_law_after" = some (.ref (He.ga K "_law_after"))
  g__law_cut_row : mg "_law_cut_row" = some (.ref (He.ga K "_law_cut_row"))
  g__law_deed : mg "_law_deed" = some (.ref (He.ga K "_law_deed"))
  g__law_draw_rows : mg "_law_draw_rows" = some (.ref (He.ga K "_law_draw_rows"))
  g__law_end_states : mg "_law_end_states" = some (.ref (He.ga K "_law_end_states"))
  g__law_filled : mg "_law_filled" = some (.ref (He.ga K "_law_filled"))
  g__law_fillings : mg "_law_fillings" = some (.ref (He.ga K "_law_fillings"))
  g__law_fits : mg "_law_fits" = some (.ref (He.ga K "_law_fits"))
  g__law_lots : mg "_law_lots" = some (.ref (He.ga K "_law_lots"))
  g__law_moves : mg "_law_moves" = some (.ref (He.ga K "_law_moves"))
  g__law_pick : mg "_law_pick" = some (.ref (He.ga K "_law_pick"))
  g__law_rows_hold : mg "_law_rows_hold" = some (.ref (He.ga K "_law_rows_hold"))
  g__law_same_tidy : mg "_law_same_tidy" = some (.ref (He.ga K "_law_same_tidy"))
  g__law_side : mg "_law_side" = some (.ref (He.ga K "_law_side"))
  g__law_source : mg "_law_source" = some (.ref (He.ga K "_law_source"))
  g__law_strip : mg "_law_strip" = some (.ref (He.ga K "_law_strip"))
  g__law_take : mg "_law_take" = some (.ref (He.ga K "_law_take"))
  g__law_text_deed : mg "_law_text_deed" = some (.ref (He.ga K "_law_text_deed"))
  g__law_texts : mg "_law_texts" = some (.ref (He.ga K "_law_texts"))
  g__law_tidy : mg "_law_tidy" = some (.ref (He.ga K "_law_tidy"))
  g_are_goals : mg "are_goals" = some (.ref (He.ga K "are_goals"))
  g_check_signs : mg "check_signs" = some (.ref (He.ga K "check_signs"))
  g_checked_deeds : mg "checked_deeds" = some (.ref (He.ga K "checked_deeds"))
  g_checked_ends : mg "checked_ends" = some (.ref (He.ga K "checked_ends"))
  g_checked_rows : mg "checked_rows" = some (.ref (He.ga K "checked_rows"))
  g_clash_word : mg "clash_word" = some (.ref (He.ga K "clash_word"))
  g_is_sequence : mg "is_sequence" = some (.ref (He.ga K "is_sequence"))
  g_is_state : mg "is_state" = some (.ref (He.ga K "is_state"))
  g_is_whole : mg "is_whole" = some (.ref (He.ga K "is_whole"))
  g_law : mg "law" = some (.ref (He.ga K "law"))
  g_stripped : mg "stripped" = some (.ref (He.ga K "stripped"))
  g_tidy : mg "tidy" = some (.ref (He.ga K "tidy"))
  f_bool : mg "bool" = none
  f_enumerate : mg "enumerate" = none
  f_int : mg "int" = none
  f_isinstance : mg "isinstance" = none
  f_len : mg "len" = none
  f_list : mg "list" = none
  f_min : mg "min" = none
  f_range : mg "range" = none
  f_tuple : mg "tuple" = none
  c_Book : Cls K (He.ga K "Book")
  c_Clash : Cls K (He.ga K "Clash")
  n_Book_deeds : NoAttr K (He.ga K "Book") "deeds"
  n_Book_ends : NoAttr K (He.ga K "Book") "ends"
  n_Book_rows : NoAttr K (He.ga K "Book") "rows"
  n_Book_states : NoAttr K (He.ga K "Book") "states"
  n_Clash_at : NoAttr K (He.ga K "Clash") "at"
  n_Clash_why : NoAttr K (He.ga K "Clash") "why"
  m_Book : Mk K (He.ga K "Book") (He.fAd K d_Book__init_.at_)
  m_Clash : Mk K (He.ga K "Clash") (He.fAd K d_Clash__init_.at_)
  e_Book : Meth K (He.ga K "Book") "__eq__" (He.fAd K d_Book__eq_.at_)
  e_Clash : Meth K (He.ga K "Clash") "__eq__" (He.fAd K d_Clash__eq_.at_)
  y_Book : IsiC K (He.ga K "Book")
  y_Clash : IsiC K (He.ga K "Clash")
  k_Book_Book : PySem.W.kitOne K (.ref (He.ga K "Book")) (.ref (He.ga K "Book")) = some true
  k_Book_Clash : PySem.W.kitOne K (.ref (He.ga K "Clash")) (.ref (He.ga K "Book")) = some false
  k_Clash_Book : PySem.W.kitOne K (.ref (He.ga K "Book")) (.ref (He.ga K "Clash")) = some false
  k_Clash_Clash : PySem.W.kitOne K (.ref (He.ga K "Clash")) (.ref (He.ga K "Clash")) = some true
def fa : List He.Fa := [.glo "BadBook", .glo "Book", .glo "Clash", .glo "PressError", .glo "_law_after", .glo "_law_cut_row", .glo "_law_deed", .glo "_law_draw_rows", .glo "_law_end_states", .glo "_law_filled", .glo "_law_fillings", .glo "_law_fits", .glo "_law_lots", .glo "_law_moves", .glo "_law_pick", .glo "_law_rows_hold", .glo "_law_same_tidy", .glo "_law_side", .glo "_law_source", .glo "_law_strip", .glo "_law_take", .glo "_law_text_deed", .glo "_law_texts", .glo "_law_tidy", .glo "are_goals", .glo "check_signs", .glo "checked_deeds", .glo "checked_ends", .glo "checked_rows", .glo "clash_word", .glo "is_sequence", .glo "is_state", .glo "is_whole", .glo "law", .glo "stripped", .glo "tidy", .free "bool", .free "enumerate", .free "int", .free "isinstance", .free "len", .free "list", .free "min", .free "range", .free "tuple", .cls "Book", .cls "Clash", .noat "Book" "deeds", .noat "Book" "ends", .noat "Book" "rows", .noat "Book" "states", .noat "Clash" "at", .noat "Clash" "why", .mkr "Book", .mkr "Clash", .meth "Book" "__eq__", .meth "Clash" "__eq__"]
def xf (K : PySem.W.Frag) : List Bool := [isiB K (He.ga K "Book"), isiB K (He.ga K "Clash"), kitA K (.ref (He.ga K "Book")) (.ref (He.ga K "Book")) true, kitA K (.ref (He.ga K "Clash")) (.ref (He.ga K "Book")) false, kitA K (.ref (He.ga K "Book")) (.ref (He.ga K "Clash")) false, kitA K (.ref (He.ga K "Clash")) (.ref (He.ga K "Clash")) true]
section
variable {K : PySem.W.Frag} {mg : Str → Option Value} {fd : Nat → FuncData}
theorem fx_of {h : Heap} (X : K.In h) (G : h.Ns mainGlobals mg) (c : SaysM (fun K => (xf K).all id) fa fn K) (hd : ∀ i d, fn[i]? = some d → FunD K d.name d.qual d.params d.body d.scope (d.dvs K) (d.kws K) (He.fAd K d.at_) (fd i)) : Fx K mg fd where
  D_is_whole := hd 0 _ rfl
  i_is_whole := ⟨(hd 0 _ rfl).kp, (hd 0 _ rfl).bindsN fun _ _ _ _ _ _ us hl => match us, hl with | [_], _ => rfl⟩
  D_is_sequence := hd 1 _ rfl
  i_is_sequence := ⟨(hd 1 _ rfl).kp, (hd 1 _ rfl).bindsN fun _ _ _ _ _ _ us hl => match us, hl with | [_], _ => rfl⟩
  D_is_state := hd 2 _ rfl
  i_is_state := ⟨(hd 2 _ rfl).kp, (hd 2 _ rfl).bindsN fun _ _ _ _ _ _ us hl => match us, hl with | [_, _], _ => rfl⟩
  D_checked_deeds := hd 3 _ rfl
  i_checked_deeds := ⟨(hd 3 _ rfl).kp, (hd 3 _ rfl).bindsN fun _ _ _ _ _ _ us hl => match us, hl with | [_, _], _ => rfl⟩
  D_are_goals := hd 4 _ rfl
  i_are_goals := ⟨(hd 4 _ rfl).kp, (hd 4 _ rfl).bindsN fun _ _ _ _ _ _ us hl => match us, hl with | [_, _], _ => rfl⟩
  D_checked_ends := hd 5 _ rfl
  i_checked_ends := ⟨(hd 5 _ rfl).kp, (hd 5 _ rfl).bindsN fun _ _ _ _ _ _ us hl => match us, hl with | [_, _], _ => rfl⟩
  D_checked_rows := hd 6 _ rfl
  i_checked_rows := ⟨(hd 6 _ rfl).kp, (hd 6 _ rfl).bindsN fun _ _ _ _ _ _ us hl => match us, hl with | [_], _ => rfl⟩
  D_check_signs := hd 7 _ rfl
  i_check_signs := ⟨(hd 7 _ rfl).kp, (hd 7 _ rfl).bindsN fun _ _ _ _ _ _ us hl => match us, hl with | [_, _, _], _ => rfl⟩
  D_Book__init_ := hd 8 _ rfl
  i_Book__init_ := ⟨(hd 8 _ rfl).kp, by
    obtain ⟨ds, v, b⟩ := (hd 8 _ rfl).binds1 (ps := ["self", "rows", "deeds", "ends", "states"]) 5 1 (by intro z; cases z) rfl fun _ _ _ _ _ _ _ us its h1 h2 => match us, its, h1, h2 with | [_, _, _, _, _], [_], _, _ => ⟨_, rfl, rfl⟩
    cases v
    exact b⟩
  D_Book__eq_ := hd 9 _ rfl
  i_Book__eq_ := ⟨(hd 9 _ rfl).kp, (hd 9 _ rfl).bindsN fun _ _ _ _ _ _ us hl => match us, hl with | [_, _], _ => rfl⟩
  D_Clash__init_ := hd 10 _ rfl
  i_Clash__init_ := ⟨(hd 10 _ rfl).kp, (hd 10 _ rfl).bindsN fun _ _ _ _ _ _ us hl => match us, hl with | [_, _, _], _ => rfl⟩
  D_Clash__eq_ := hd 11 _ rfl
  i_Clash__eq_ := ⟨(hd 11 _ rfl).kp, (hd 11 _ rfl).bindsN fun _ _ _ _ _ _ us hl => match us, hl with | [_, _], _ => rfl⟩
  D_stripped := hd 12 _ rfl
  i_stripped := ⟨(hd 12 _ rfl).kp, (hd 12 _ rfl).bindsN fun _ _ _ _ _ _ us hl => match us, hl with | [_, _], _ => rfl⟩
  D_clash_word := hd 13 _ rfl
  i_clash_word := ⟨(hd 13 _ rfl).kp, (hd 13 _ rfl).bindsN fun _ _ _ _ _ _ us hl => match us, hl with | [_, _], _ => rfl⟩
  D_tidy := hd 14 _ rfl
  i_tidy := ⟨(hd 14 _ rfl).kp, (hd 14 _ rfl).bindsN fun _ _ _ _ _ _ us hl => match us, hl with | [_], _ => rfl⟩
  D__law_source := hd 15 _ rfl
  i__law_source := ⟨(hd 15 _ rfl).kp, (hd 15 _ rfl).bindsN fun _ _ _ _ _ _ us hl => match us, hl with | [_], _ => rfl⟩
  D__law_take := hd 16 _ rfl
  i__law_take := ⟨(hd 16 _ rfl).kp, (hd 16 _ rfl).bindsN fun _ _ _ _ _ _ us hl => match us, hl with | [_, _], _ => rfl⟩
  D__law_pick := hd 17 _ rfl
  i__law_pick := ⟨(hd 17 _ rfl).kp, (hd 17 _ rfl).bindsN fun _ _ _ _ _ _ us hl => match us, hl with | [_, _], _ => rfl⟩
  D__law_moves := hd 18 _ rfl
  i__law_moves := ⟨(hd 18 _ rfl).kp, (hd 18 _ rfl).bindsN fun _ _ _ _ _ _ us hl => match us, hl with | [_, _, _], _ => rfl⟩
  D__law_deed := hd 19 _ rfl
  i__law_deed := ⟨(hd 19 _ rfl).kp, (hd 19 _ rfl).bindsN fun _ _ _ _ _ _ us hl => match us, hl with | [_, _], _ => rfl⟩
  D__law_after := hd 20 _ rfl
  i__law_after := ⟨(hd 20 _ rfl).kp, (hd 20 _ rfl).bindsN fun _ _ _ _ _ _ us hl => match us, hl with | [_, _], _ => rfl⟩
  D__law_side := hd 21 _ rfl
  i__law_side := ⟨(hd 21 _ rfl).kp, (hd 21 _ rfl).bindsN fun _ _ _ _ _ _ us hl => match us, hl with | [_, _, _, _], _ => rfl⟩
  D__law_filled := hd 22 _ rfl
  i__law_filled := ⟨(hd 22 _ rfl).kp, (hd 22 _ rfl).bindsN fun _ _ _ _ _ _ us hl => match us, hl with | [_, _], _ => rfl⟩
  D__law_cut_row := hd 23 _ rfl
  i__law_cut_row := ⟨(hd 23 _ rfl).kp, (hd 23 _ rfl).bindsN fun _ _ _ _ _ _ us hl => match us, hl with | [_, _, _, _], _ => rfl⟩
  D__law_text_deed := hd 24 _ rfl
  i__law_text_deed := ⟨(hd 24 _ rfl).kp, (hd 24 _ rfl).bindsN fun _ _ _ _ _ _ us hl => match us, hl with | [_, _, _], _ => rfl⟩
  D__law_fits := hd 25 _ rfl
  i__law_fits := ⟨(hd 25 _ rfl).kp, (hd 25 _ rfl).bindsN fun _ _ _ _ _ _ us hl => match us, hl with | [_, _, _, _], _ => rfl⟩
  D__law_texts := hd 26 _ rfl
  i__law_texts := ⟨(hd 26 _ rfl).kp, (hd 26 _ rfl).bindsN fun _ _ _ _ _ _ us hl => match us, hl with | [_, _], _ => rfl⟩
  D__law_rows_hold := hd 27 _ rfl
  i__law_rows_hold := ⟨(hd 27 _ rfl).kp, (hd 27 _ rfl).bindsN fun _ _ _ _ _ _ us hl => match us, hl with | [_, _], _ => rfl⟩
  D__law_fillings := hd 28 _ rfl
  i__law_fillings := ⟨(hd 28 _ rfl).kp, (hd 28 _ rfl).bindsN fun _ _ _ _ _ _ us hl => match us, hl with | [_, _, _, _, _], _ => rfl⟩
  D__law_strip := hd 29 _ rfl
  i__law_strip := ⟨(hd 29 _ rfl).kp, (hd 29 _ rfl).bindsN fun _ _ _ _ _ _ us hl => match us, hl with | [_, _], _ => rfl⟩
  D__law_tidy := hd 30 _ rfl
  i__law_tidy := ⟨(hd 30 _ rfl).kp, (hd 30 _ rfl).bindsN fun _ _ _ _ _ _ us hl => match us, hl with | [_], _ => rfl⟩
  D__law_lots := hd 31 _ rfl
  i__law_lots := ⟨(hd 31 _ rfl).kp, (hd 31 _ rfl).bindsN fun _ _ _ _ _ _ us hl => match us, hl with | [_, _, _], _ => rfl⟩
  D__law_end_states := hd 32 _ rfl
  i__law_end_states := ⟨(hd 32 _ rfl).kp, (hd 32 _ rfl).bindsN fun _ _ _ _ _ _ us hl => match us, hl with | [_, _], _ => rfl⟩
  D__law_draw_rows := hd 33 _ rfl
  i__law_draw_rows := ⟨(hd 33 _ rfl).kp, (hd 33 _ rfl).bindsN fun _ _ _ _ _ _ us hl => match us, hl with | [_, _, _, _], _ => rfl⟩
  D__law_same_tidy := hd 34 _ rfl
  i__law_same_tidy := ⟨(hd 34 _ rfl).kp, (hd 34 _ rfl).bindsN fun _ _ _ _ _ _ us hl => match us, hl with | [_, _, _], _ => rfl⟩
  D_law := hd 35 _ rfl
  i_law := ⟨(hd 35 _ rfl).kp, (hd 35 _ rfl).bindsN fun _ _ _ _ _ _ us hl => match us, hl with | [_], _ => rfl⟩
  g_BadBook := He.glo_ok X G (c.d.fact 0 rfl)
  g_Book := He.glo_ok X G (c.d.fact 1 rfl)
  g_Clash := He.glo_ok X G (c.d.fact 2 rfl)
  g_PressError := He.glo_ok X G (c.d.fact 3 rfl)
  g__law_after := He.glo_ok X G (c.d.fact 4 rfl)
  g__law_cut_row := He.glo_ok X G (c.d.fact 5 rfl)
  g__law_deed := He.glo_ok X G (c.d.fact 6 rfl)
  g__law_draw_rows := He.glo_ok X G (c.d.fact 7 rfl)
  g__law_end_states := He.glo_ok X G (c.d.fact 8 rfl)
  g__law_filled := He.glo_ok X G (c.d.fact 9 rfl)
  g__law_fillings := He.glo_ok X G (c.d.fact 10 rfl)
  g__law_fits := He.glo_ok X G (c.d.fact 11 rfl)
  g__law_lots := He.glo_ok X G (c.d.fact 12 rfl)
  g__law_moves := He.glo_ok X G (c.d.fact 13 rfl)
  g__law_pick := He.glo_ok X G (c.d.fact 14 rfl)
  g__law_rows_hold := He.glo_ok X G (c.d.fact 15 rfl)
  g__law_same_tidy := He.glo_ok X G (c.d.fact 16 rfl)
  g__law_side := He.glo_ok X G (c.d.fact 17 rfl)
  g__law_source := He.glo_ok X G (c.d.fact 18 rfl)
  g__law_strip := He.glo_ok X G (c.d.fact 19 rfl)
  g__law_take := He.glo_ok X G (c.d.fact 20 rfl)
  g__law_text_deed := He.glo_ok X G (c.d.fact 21 rfl)
  g__law_texts := He.glo_ok X G (c.d.fact 22 rfl)
  g__law_tidy := He.glo_ok X G (c.d.fact 23 rfl)
  g_are_goals := He.glo_ok X G (c.d.fact 24 rfl)
  g_check_signs := He.glo_ok X G (c.d.fact 25 rfl)
  g_checked_deeds := He.glo_ok X G (c.d.fact 26 rfl)
  g_checked_ends := He.glo_ok X G (c.d.fact 27 rfl)
  g_checked_rows := He.glo_ok X G (c.d.fact 28 rfl)
  g_clash_word := He.glo_ok X G (c.d.fact 29 rfl)
  g_is_sequence := He.glo_ok X G (c.d.fact 30 rfl)
  g_is_state := He.glo_ok X G (c.d.fact 31 rfl)
  g_is_whole := He.glo_ok X G (c.d.fact 32 rfl)
  g_law := He.glo_ok X G (c.d.fact 33 rfl)
  g_stripped := He.glo_ok X G (c.d.fact 34 rfl)
  g_tidy := He.glo_ok X G (c.d.fact 35 rfl)
  f_bool := He.free_ok X G (c.d.fact 36 rfl)
  f_enumerate := He.free_ok X G (c.d.fact 37 rfl)
  f_int := He.free_ok X G (c.d.fact 38 rfl)
  f_isinstance := He.free_ok X G (c.d.fact 39 rfl)
  f_len := He.free_ok X G (c.d.fact 40 rfl)
  f_list := He.free_ok X G (c.d.fact 41 rfl)
  f_min := He.free_ok X G (c.d.fact 42 rfl)
  f_range := He.free_ok X G (c.d.fact 43 rfl)
  f_tuple := He.free_ok X G (c.d.fact 44 rfl)
  c_Book := He.cls_ok (c.d.fact 45 rfl)
  c_Clash := He.cls_ok (c.d.fact 46 rfl)
  n_Book_deeds := He.noat_ok (c.d.fact 47 rfl)
  n_Book_ends := He.noat_ok (c.d.fact 48 rfl)
  n_Book_rows := He.noat_ok (c.d.fact 49 rfl)
  n_Book_states := He.noat_ok (c.d.fact 50 rfl)
  n_Clash_at := He.noat_ok (c.d.fact 51 rfl)
  n_Clash_why := He.noat_ok (c.d.fact 52 rfl)
  m_Book := He.mkr_ok (c.d.fact 53 rfl)
  m_Clash := He.mkr_ok (c.d.fact 54 rfl)
  e_Book := He.meth_ok (c.d.fact 55 rfl)
  e_Clash := He.meth_ok (c.d.fact 56 rfl)
  y_Book := isiB_ok (He.cls_ok (c.d.fact 45 rfl)) (List.all_eq_true.mp c.x _ (List.mem_of_getElem? (i := 0) rfl))
  y_Clash := isiB_ok (He.cls_ok (c.d.fact 46 rfl)) (List.all_eq_true.mp c.x _ (List.mem_of_getElem? (i := 1) rfl))
  k_Book_Book := kitA_ok (List.all_eq_true.mp c.x _ (List.mem_of_getElem? (i := 2) rfl))
  k_Book_Clash := kitA_ok (List.all_eq_true.mp c.x _ (List.mem_of_getElem? (i := 3) rfl))
  k_Clash_Book := kitA_ok (List.all_eq_true.mp c.x _ (List.mem_of_getElem? (i := 4) rfl))
  k_Clash_Clash := kitA_ok (List.all_eq_true.mp c.x _ (List.mem_of_getElem? (i := 5) rfl))
theorem hok_deeds (fx : Fx K mg fd) (C : Nat) (h : ok_deeds C = true) : Cls K ((ct K).ca C) ∧ NoAttr K ((ct K).ca C) "deeds" := by
  simp only [ok_deeds, Bool.or_eq_true, beq_iff_eq] at h
  subst h; exact ⟨fx.c_Book, fx.n_Book_deeds⟩
theorem hok_ends (fx : Fx K mg fd) (C : Nat) (h : ok_ends C = true) : Cls K ((ct K).ca C) ∧ NoAttr K ((ct K).ca C) "ends" := by
  simp only [ok_ends, Bool.or_eq_true, beq_iff_eq] at h
  subst h; exact ⟨fx.c_Book, fx.n_Book_ends⟩
theorem hok_rows (fx : Fx K mg fd) (C : Nat) (h : ok_rows C = true) : Cls K ((ct K).ca C) ∧ NoAttr K ((ct K).ca C) "rows" := by
  simp only [ok_rows, Bool.or_eq_true, beq_iff_eq] at h
  subst h; exact ⟨fx.c_Book, fx.n_Book_rows⟩
theorem hok_states (fx : Fx K mg fd) (C : Nat) (h : ok_states C = true) : Cls K ((ct K).ca C) ∧ NoAttr K ((ct K).ca C) "states" := by
  simp only [ok_states, Bool.or_eq_true, beq_iff_eq] at h
  subst h; exact ⟨fx.c_Book, fx.n_Book_states⟩
theorem hok_why (fx : Fx K mg fd) (C : Nat) (h : ok_why C = true) : Cls K ((ct K).ca C) ∧ NoAttr K ((ct K).ca C) "why" := by
  simp only [ok_why, Bool.or_eq_true, beq_iff_eq] at h
  subst h; exact ⟨fx.c_Clash, fx.n_Clash_why⟩
theorem hok_at (fx : Fx K mg fd) (C : Nat) (h : ok_at C = true) : Cls K ((ct K).ca C) ∧ NoAttr K ((ct K).ca C) "at" := by
  simp only [ok_at, Bool.or_eq_true, beq_iff_eq] at h
  subst h; exact ⟨fx.c_Clash, fx.n_Clash_at⟩
theorem isiOk_Book (fx : Fx K mg fd) : IsiOk K (ct K) (.ref (He.ga K "Book")) isi_Book :=
  (.consC fx.k_Book_Book fx.y_Book (.consC fx.k_Book_Clash fx.y_Clash .nil))
theorem isiOk_Clash (fx : Fx K mg fd) : IsiOk K (ct K) (.ref (He.ga K "Clash")) isi_Clash :=
  (.consC fx.k_Clash_Book fx.y_Book (.consC fx.k_Clash_Clash fx.y_Clash .nil))
end
section
variable {P : Program} {w : World} {K : PySem.W.Frag} {mg : Str → Option Value} {base : Heap} {fd : Nat → FuncData}
abbrev N_is_whole : List Str := ["thing"]
theorem sc_is_whole : FnScope N_is_whole ["thing"] (defScope s_is_whole) := ⟨by kernel_rfl, by kernel_rfl, by kernel_rfl, by decide +kernel, rfl, by decide +kernel, by decide +kernel⟩
theorem t_is_whole (fx : Fx K mg fd) (call : CallT) (n : Nat) (cdv : Value) (A : Around) (outer : List Env) (s : Shared) (H : Hp) (E : XK) (c : Cq (cxOf (L2.CX P w) P w K mg base N_is_whole "is_whole" (defScope s_is_whole) (He.fAd K d_is_whole.at_) cdv A outer s H E) (ct K) (fns K fd) call n) :
    SSs (cxOf (L2.CX P w) P w K mg base N_is_whole "is_whole" (defScope s_is_whole) (He.fAd K d_is_whole.at_) cdv A outer s H E) (ct K) (fun c d _ H' => E c d H') (defBody s_is_whole) (m_is_whole call) := by
  have tk : Takes (cxOf (L2.CX P w) P w K mg base N_is_whole "is_whole" (defScope s_is_whole) (He.fAd K d_is_whole.at_) cdv A outer s H E) (fun cls d _ H' => E cls d H') := takes_of rfl rfl rfl rfl
  have nd := sc_is_whole.nd
  have po : PassesOwn (model P w) (cxOf (L2.CX P w) P w K mg base N_is_whole "is_whole" (defScope s_is_whole) (He.fAd K d_is_whole.at_) cdv A outer s H E).A (cxOf (L2.CX P w) P w K mg base N_is_whole "is_whole" (defScope s_is_whole) (He.fAd K d_is_whole.at_) cdv A outer s H E).env (cxOf (L2.CX P w) P w K mg base N_is_whole "is_whole" (defScope s_is_whole) (He.fAd K d_is_whole.at_) cdv A outer s H E).xe := passes_of rfl
  exact (sss_one (ss_ret' (se_and (se_isiB rfl fx.f_int (by decide +kernel) Mi.isi_int rfl fx.f_isinstance (se_var 0)) (se_one (se_not (se_isiB rfl fx.f_bool (by decide +kernel) Mi.isi_bool rfl fx.f_isinstance (se_var 0)))))))
theorem b_is_whole (fx : Fx K mg fd) : BodyOk P w K mg base (ct K) (fns K fd) ⟨He.fAd K d_is_whole.at_, fd 0, ["thing"]⟩ ⟨1, 1, false, m_is_whole⟩ :=
  ⟨_, "is_whole", _, _, _, _, _, N_is_whole, fx.D_is_whole, sc_is_whole, rfl, rfl, by decide, fun call n co cdv A outer s H E hr => t_is_whole fx call n cdv A outer s H E ⟨co, hr⟩⟩
abbrev N_is_sequence : List Str := ["thing"]
theorem sc_is_sequence : FnScope N_is_sequence ["thing"] (defScope s_is_sequence) := ⟨by kernel_rfl, by kernel_rfl, by kernel_rfl, by decide +kernel, rfl, by decide +kernel, by decide +kernel⟩
theorem t_is_sequence (fx : Fx K mg fd) (call : CallT) (n : Nat) (cdv : Value) (A : Around) (outer : List Env) (s : Shared) (H : Hp) (E : XK) (c : Cq (cxOf (L2.CX P w) P w K mg base N_is_sequence "is_sequence" (defScope s_is_sequence) (He.fAd K d_is_sequence.at_) cdv A outer s H E) (ct K) (fns K fd) call n) :
    SSs (cxOf (L2.CX P w) P w K mg base N_is_sequence "is_sequence" (defScope s_is_sequence) (He.fAd K d_is_sequence.at_) cdv A outer s H E) (ct K) (fun c d _ H' => E c d H') (defBody s_is_sequence) (m_is_sequence call) := by
  have tk : Takes (cxOf (L2.CX P w) P w K mg base N_is_sequence "is_sequence" (defScope s_is_sequence) (He.fAd K d_is_sequence.at_) cdv A outer s H E) (fun cls d _ H' => E cls d H') := takes_of rfl rfl rfl rfl
  have nd := sc_is_sequence.nd
  have po : PassesOwn (model P w) (cxOf (L2.CX P w) P w K mg base N_is_sequence "is_sequence" (defScope s_is_sequence) (He.fAd K d_is_sequence.at_) cdv A outer s H E).A (cxOf (L2.CX P w) P w K mg base N_is_sequence "is_sequence" (defScope s_is_sequence) (He.fAd K d_is_sequence.at_) cdv A outer s H E).env (cxOf (L2.CX P w) P w K mg base N_is_sequence "is_sequence" (defScope s_is_sequence) (He.fAd K d_is_sequence.at_) cdv A outer s H E).xe := passes_of rfl
  exact (sss_one (ss_ret' (se_or (se_isiB rfl fx.f_list (by decide +kernel) Mi.isi_list rfl fx.f_isinstance (se_var 0)) (se_one (se_isiB rfl fx.f_tuple (by decide +kernel) Mi.isi_tuple rfl fx.f_isinstance (se_var 0))))))
theorem b_is_sequence (fx : Fx K mg fd) : BodyOk P w K mg base (ct K) (fns K fd) ⟨He.fAd K d_is_sequence.at_, fd 1, ["thing"]⟩ ⟨1, 1, false, m_is_sequence⟩ :=
  ⟨_, "is_sequence", _, _, _, _, _, N_is_sequence, fx.D_is_sequence, sc_is_sequence, rfl, rfl, by decide, fun call n co cdv A outer s H E hr => t_is_sequence fx call n cdv A outer s H E ⟨co, hr⟩⟩
abbrev N_is_state : List Str := ["thing", "states"]
theorem sc_is_state : FnScope N_is_state ["thing", "states"] (defScope s_is_state) := ⟨by kernel_rfl, by kernel_rfl, by kernel_rfl, by decide +kernel, rfl, by decide +kernel, by decide +kernel⟩
theorem t_is_state (fx : Fx K mg fd) (call : CallT) (n : Nat) (cdv : Value) (A : Around) (outer : List Env) (s : Shared) (H : Hp) (E : XK) (c : Cq (cxOf (L2.CX P w) P w K mg base N_is_state "is_state" (defScope s_is_state) (He.fAd K d_is_state.at_) cdv A outer s H E) (ct K) (fns K fd) call n) :
    SSs (cxOf (L2.CX P w) P w K mg base N_is_state "is_state" (defScope s_is_state) (He.fAd K d_is_state.at_) cdv A outer s H E) (ct K) (fun c d _ H' => E c d H') (defBody s_is_state) (m_is_state call) := by
  have tk : Takes (cxOf (L2.CX P w) P w K mg base N_is_state "is_state" (defScope s_is_state) (He.fAd K d_is_state.at_) cdv A outer s H E) (fun cls d _ H' => E cls d H') := takes_of rfl rfl rfl rfl
  have nd := sc_is_state.nd
  have po : PassesOwn (model P w) (cxOf (L2.CX P w) P w K mg base N_is_state "is_state" (defScope s_is_state) (He.fAd K d_is_state.at_) cdv A outer s H E).A (cxOf (L2.CX P w) P w K mg base N_is_state "is_state" (defScope s_is_state) (He.fAd K d_is_state.at_) cdv A outer s H E).env (cxOf (L2.CX P w) P w K mg base N_is_state "is_state" (defScope s_is_state) (He.fAd K d_is_state.at_) cdv A outer s H E).xe := passes_of rfl
  exact (sss_one (ss_ret' (se_and (sc_call ⟨c.co, c.ro⟩ tk fx.i_is_whole fx.g_is_whole rfl rfl (sa_cons (se_var 0) sa_nil)) (se_one (se_chain le_sound lt_sound se_int (se_var 0) (se_var 1))))))
theorem b_is_state (fx : Fx K mg fd) : BodyOk P w K mg base (ct K) (fns K fd) ⟨He.fAd K d_is_state.at_, fd 2, ["thing", "states"]⟩ ⟨2, 2, false, m_is_state⟩ :=
  ⟨_, "is_state", _, _, _, _, _, N_is_state, fx.D_is_state, sc_is_state, rfl, rfl, by decide, fun call n co cdv A outer s H E hr => t_is_state fx call n cdv A outer s H E ⟨co, hr⟩⟩
abbrev N_checked_deeds : List Str := ["deeds", "states", "told", "one", "goal"]
theorem sc_checked_deeds : FnScope N_checked_deeds ["deeds", "states"] (defScope s_checked_deeds) := ⟨by kernel_rfl, by kernel_rfl, by kernel_rfl, by decide +kernel, rfl, by decide +kernel, by decide +kernel⟩
theorem t_checked_deeds (fx : Fx K mg fd) (call : CallT) (n : Nat) (cdv : Value) (A : Around) (outer : List Env) (s : Shared) (H : Hp) (E : XK) (c : Cq (cxOf (L2.CX P w) P w K mg base N_checked_deeds "checked_deeds" (defScope s_checked_deeds) (He.fAd K d_checked_deeds.at_) cdv A outer s H E) (ct K) (fns K fd) call n) :
    SSs (cxOf (L2.CX P w) P w K mg base N_checked_deeds "checked_deeds" (defScope s_checked_deeds) (He.fAd K d_checked_deeds.at_) cdv A outer s H E) (ct K) (fun c d _ H' => E c d H') (defBody s_checked_deeds) (m_checked_deeds call) := by
  have tk : Takes (cxOf (L2.CX P w) P w K mg base N_checked_deeds "checked_deeds" (defScope s_checked_deeds) (He.fAd K d_checked_deeds.at_) cdv A outer s H E) (fun cls d _ H' => E cls d H') := takes_of rfl rfl rfl rfl
  have nd := sc_checked_deeds.nd
  have po : PassesOwn (model P w) (cxOf (L2.CX P w) P w K mg base N_checked_deeds "checked_deeds" (defScope s_checked_deeds) (He.fAd K d_checked_deeds.at_) cdv A outer s H E).A (cxOf (L2.CX P w) P w K mg base N_checked_deeds "checked_deeds" (defScope s_checked_deeds) (He.fAd K d_checked_deeds.at_) cdv A outer s H E).env (cxOf (L2.CX P w) P w K mg base N_checked_deeds "checked_deeds" (defScope s_checked_deeds) (He.fAd K d_checked_deeds.at_) cdv A outer s H E).xe := passes_of rfl
  exact (sss_cons (ss_if (st_not (st_truth (sc_call ⟨c.co, c.ro⟩ tk fx.i_is_sequence fx.g_is_sequence rfl rfl (sa_cons (se_var 0) sa_nil))))
      (sss_one ss_never)
      sss_nil)
      (sss_cons (ss_set nd (i := 2) rfl (by first | exact .inl rfl | exact .inr rfl) (se_lst sa_nil))
      (sss_cons (ss_for po rfl (si_seq (se_var 0)) (sg_name nd (i := 3) rfl (by first | exact .inl rfl | exact .inr rfl))
      (sss_cons (ss_if (st_bool (sw_or (st_not (st_truth (sc_call ⟨c.co, c.ro⟩ tk fx.i_is_sequence fx.g_is_sequence rfl rfl (sa_cons (se_var 3) sa_nil)))) (sw_or1 (st_cmp (ne_sound (unR c.ro)) (se_callB len_sound rfl fx.f_len (by decide +kernel) (sa_cons (se_var 3) sa_nil)) (se_var 1)))))
      (sss_one ss_never)
      sss_nil)
      (sss_cons (ss_for po rfl (si_seq (se_var 3)) (sg_name nd (i := 4) rfl (by first | exact .inl rfl | exact .inr rfl))
      (sss_one (ss_if (st_not (st_truth (sc_call ⟨c.co, c.ro⟩ tk fx.i_is_state fx.g_is_state rfl rfl (sa_cons (se_var 4) (sa_cons (se_var 1) sa_nil)))))
      (sss_one ss_never)
      sss_nil)))
      (sss_one (ss_expr (se_append (se_var 2) (sa_cons (se_callTy tuple_sound rfl fx.f_tuple (by decide +kernel) (sa_cons (se_var 3) sa_nil)) sa_nil)))))))
      (sss_one (ss_ret' (se_callTy tuple_sound rfl fx.f_tuple (by decide +kernel) (sa_cons (se_var 2) sa_nil)))))))
theorem b_checked_deeds (fx : Fx K mg fd) : BodyOk P w K mg base (ct K) (fns K fd) ⟨He.fAd K d_checked_deeds.at_, fd 3, ["deeds", "states"]⟩ ⟨2, 5, false, m_checked_deeds⟩ :=
  ⟨_, "checked_deeds", _, _, _, _, _, N_checked_deeds, fx.D_checked_deeds, sc_checked_deeds, rfl, rfl, by decide, fun call n co cdv A outer s H E hr => t_checked_deeds fx call n cdv A outer s H E ⟨co, hr⟩⟩
abbrev N_are_goals : List Str := ["goals", "states", "before", "goal"]
theorem sc_are_goals : FnScope N_are_goals ["goals", "states"] (defScope s_are_goals) := ⟨by kernel_rfl, by kernel_rfl, by kernel_rfl, by decide +kernel, rfl, by decide +kernel, by decide +kernel⟩
theorem t_are_goals (fx : Fx K mg fd) (call : CallT) (n : Nat) (cdv : Value) (A : Around) (outer : List Env) (s : Shared) (H : Hp) (E : XK) (c : Cq (cxOf (L2.CX P w) P w K mg base N_are_goals "are_goals" (defScope s_are_goals) (He.fAd K d_are_goals.at_) cdv A outer s H E) (ct K) (fns K fd) call n) :
    SSs (cxOf (L2.CX P w) P w K mg base N_are_goals "are_goals" (defScope s_are_goals) (He.fAd K d_are_goals.at_) cdv A outer s H E) (ct K) (fun c d _ H' => E c d H') (defBody s_are_goals) (m_are_goals call) := by
  have tk : Takes (cxOf (L2.CX P w) P w K mg base N_are_goals "are_goals" (defScope s_are_goals) (He.fAd K d_are_goals.at_) cdv A outer s H E) (fun cls d _ H' => E cls d H') := takes_of rfl rfl rfl rfl
  have nd := sc_are_goals.nd
  have po : PassesOwn (model P w) (cxOf (L2.CX P w) P w K mg base N_are_goals "are_goals" (defScope s_are_goals) (He.fAd K d_are_goals.at_) cdv A outer s H E).A (cxOf (L2.CX P w) P w K mg base N_are_goals "are_goals" (defScope s_are_goals) (He.fAd K d_are_goals.at_) cdv A outer s H E).env (cxOf (L2.CX P w) P w K mg base N_are_goals "are_goals" (defScope s_are_goals) (He.fAd K d_are_goals.at_) cdv A outer s H E).xe := passes_of rfl
  exact (sss_cons (ss_if (st_not (st_truth (sc_call ⟨c.co, c.ro⟩ tk fx.i_is_sequence fx.g_is_sequence rfl rfl (sa_cons (se_var 0) sa_nil))))
      (sss_one (ss_ret' se_bl))
      sss_nil)
      (sss_cons (ss_set nd (i := 2) rfl (by first | exact .inl rfl | exact .inr rfl) (se_un neg_sound se_int))
      (sss_cons (ss_for po rfl (si_seq (se_var 0)) (sg_name nd (i := 3) rfl (by first | exact .inl rfl | exact .inr rfl))
      (sss_cons (ss_if (st_bool (sw_or (st_not (st_truth (sc_call ⟨c.co, c.ro⟩ tk fx.i_is_state fx.g_is_state rfl rfl (sa_cons (se_var 3) (sa_cons (se_var 1) sa_nil))))) (sw_or1 (st_cmp le_sound (se_var 3) (se_var 2)))))
      (sss_one (ss_ret' se_bl))
      sss_nil)
      (sss_one (ss_set nd (i := 2) rfl (by first | exact .inl rfl | exact .inr rfl) (se_var 3)))))
      (sss_one (ss_ret' se_bl)))))
theorem b_are_goals (fx : Fx K mg fd) : BodyOk P w K mg base (ct K) (fns K fd) ⟨He.fAd K d_are_goals.at_, fd 4, ["goals", "states"]⟩ ⟨2, 4, false, m_are_goals⟩ :=
  ⟨_, "are_goals", _, _, _, _, _, N_are_goals, fx.D_are_goals, sc_are_goals, rfl, rfl, by decide, fun call n co cdv A outer s H E hr => t_are_goals fx call n cdv A outer s H E ⟨co, hr⟩⟩
abbrev N_checked_ends : List Str := ["ends", "states", "told", "one", "start", "goals"]
theorem sc_checked_ends : FnScope N_checked_ends ["ends", "states"] (defScope s_checked_ends) := ⟨by kernel_rfl, by kernel_rfl, by kernel_rfl, by decide +kernel, rfl, by decide +kernel, by decide +kernel⟩
theorem t_checked_ends (fx : Fx K mg fd) (call : CallT) (n : Nat) (cdv : Value) (A : Around) (outer : List Env) (s : Shared) (H : Hp) (E : XK) (c : Cq (cxOf (L2.CX P w) P w K mg base N_checked_ends "checked_ends" (defScope s_checked_ends) (He.fAd K d_checked_ends.at_) cdv A outer s H E) (ct K) (fns K fd) call n) :
    SSs (cxOf (L2.CX P w) P w K mg base N_checked_ends "checked_ends" (defScope s_checked_ends) (He.fAd K d_checked_ends.at_) cdv A outer s H E) (ct K) (fun c d _ H' => E c d H') (defBody s_checked_ends) (m_checked_ends call) := by
  have tk : Takes (cxOf (L2.CX P w) P w K mg base N_checked_ends "checked_ends" (defScope s_checked_ends) (He.fAd K d_checked_ends.at_) cdv A outer s H E) (fun cls d _ H' => E cls d H') := takes_of rfl rfl rfl rfl
  have nd := sc_checked_ends.nd
  have po : PassesOwn (model P w) (cxOf (L2.CX P w) P w K mg base N_checked_ends "checked_ends" (defScope s_checked_ends) (He.fAd K d_checked_ends.at_) cdv A outer s H E).A (cxOf (L2.CX P w) P w K mg base N_checked_ends "checked_ends" (defScope s_checked_ends) (He.fAd K d_checked_ends.at_) cdv A outer s H E).env (cxOf (L2.CX P w) P w K mg base N_checked_ends "checked_ends" (defScope s_checked_ends) (He.fAd K d_checked_ends.at_) cdv A outer s H E).xe := passes_of rfl
  exact (sss_cons (ss_if (st_not (st_truth (sc_call ⟨c.co, c.ro⟩ tk fx.i_is_sequence fx.g_is_sequence rfl rfl (sa_cons (se_var 0) sa_nil))))
      (sss_one ss_never)
      sss_nil)
      (sss_cons (ss_set nd (i := 2) rfl (by first | exact .inl rfl | exact .inr rfl) (se_lst sa_nil))
      (sss_cons (ss_for po rfl (si_seq (se_var 0)) (sg_name nd (i := 3) rfl (by first | exact .inl rfl | exact .inr rfl))
      (sss_cons (ss_if (st_bool (sw_or (st_not (st_truth (sc_call ⟨c.co, c.ro⟩ tk fx.i_is_sequence fx.g_is_sequence rfl rfl (sa_cons (se_var 3) sa_nil)))) (sw_or1 (st_cmp (ne_sound (unR c.ro)) (se_callB len_sound rfl fx.f_len (by decide +kernel) (sa_cons (se_var 3) sa_nil)) se_int))))
      (sss_one ss_never)
      sss_nil)
      (sss_cons (ss_asg (se_var 3) (sg_tup rfl (sgs_cons (sg_name nd (i := 4) rfl (by first | exact .inl rfl | exact .inr rfl)) (sgs_cons (sg_name nd (i := 5) rfl (by first | exact .inl rfl | exact .inr rfl)) sgs_nil))))
      (sss_cons (ss_if (st_bool (sw_or (st_not (st_truth (sc_call ⟨c.co, c.ro⟩ tk fx.i_is_state fx.g_is_state rfl rfl (sa_cons (se_var 4) (sa_cons (se_var 1) sa_nil))))) (sw_or1 (st_not (st_truth (sc_call ⟨c.co, c.ro⟩ tk fx.i_are_goals fx.g_are_goals rfl rfl (sa_cons (se_var 5) (sa_cons (se_var 1) sa_nil))))))))
      (sss_one ss_never)
      sss_nil)
      (sss_one (ss_expr (se_append (se_var 2) (sa_cons (se_tup (sa_cons (se_var 4) (sa_cons (se_callTy tuple_sound rfl fx.f_tuple (by decide +kernel) (sa_cons (se_var 5) sa_nil)) sa_nil))) sa_nil))))))))
      (sss_one (ss_ret' (se_callTy tuple_sound rfl fx.f_tuple (by decide +kernel) (sa_cons (se_var 2) sa_nil)))))))
theorem b_checked_ends (fx : Fx K mg fd) : BodyOk P w K mg base (ct K) (fns K fd) ⟨He.fAd K d_checked_ends.at_, fd 5, ["ends", "states"]⟩ ⟨2, 6, false, m_checked_ends⟩ :=
  ⟨_, "checked_ends", _, _, _, _, _, N_checked_ends, fx.D_checked_ends, sc_checked_ends, rfl, rfl, by decide, fun call n co cdv A outer s H E hr => t_checked_ends fx call n cdv A outer s H E ⟨co, hr⟩⟩
abbrev N_checked_rows : List Str := ["rows", "told", "row", "side", "sign", "left", "right"]
theorem sc_checked_rows : FnScope N_checked_rows ["rows"] (defScope s_checked_rows) := ⟨by kernel_rfl, by kernel_rfl, by kernel_rfl, by decide +kernel, rfl, by decide +kernel, by decide +kernel⟩
theorem t_checked_rows (fx : Fx K mg fd) (call : CallT) (n : Nat) (cdv : Value) (A : Around) (outer : List Env) (s : Shared) (H : Hp) (E : XK) (c : Cq (cxOf (L2.CX P w) P w K mg base N_checked_rows "checked_rows" (defScope s_checked_rows) (He.fAd K d_checked_rows.at_) cdv A outer s H E) (ct K) (fns K fd) call n) :
    SSs (cxOf (L2.CX P w) P w K mg base N_checked_rows "checked_rows" (defScope s_checked_rows) (He.fAd K d_checked_rows.at_) cdv A outer s H E) (ct K) (fun c d _ H' => E c d H') (defBody s_checked_rows) (m_checked_rows call) := by
  have tk : Takes (cxOf (L2.CX P w) P w K mg base N_checked_rows "checked_rows" (defScope s_checked_rows) (He.fAd K d_checked_rows.at_) cdv A outer s H E) (fun cls d _ H' => E cls d H') := takes_of rfl rfl rfl rfl
  have nd := sc_checked_rows.nd
  have po : PassesOwn (model P w) (cxOf (L2.CX P w) P w K mg base N_checked_rows "checked_rows" (defScope s_checked_rows) (He.fAd K d_checked_rows.at_) cdv A outer s H E).A (cxOf (L2.CX P w) P w K mg base N_checked_rows "checked_rows" (defScope s_checked_rows) (He.fAd K d_checked_rows.at_) cdv A outer s H E).env (cxOf (L2.CX P w) P w K mg base N_checked_rows "checked_rows" (defScope s_checked_rows) (He.fAd K d_checked_rows.at_) cdv A outer s H E).xe := passes_of rfl
  exact (sss_cons (ss_if (st_not (st_truth (sc_call ⟨c.co, c.ro⟩ tk fx.i_is_sequence fx.g_is_sequence rfl rfl (sa_cons (se_var 0) sa_nil))))
      (sss_one ss_never)
      sss_nil)
      (sss_cons (ss_set nd (i := 1) rfl (by first | exact .inl rfl | exact .inr rfl) (se_lst sa_nil))
      (sss_cons (ss_for po rfl (si_seq (se_var 0)) (sg_name nd (i := 2) rfl (by first | exact .inl rfl | exact .inr rfl))
      (sss_cons (ss_if (st_bool (sw_or (st_not (st_truth (sc_call ⟨c.co, c.ro⟩ tk fx.i_is_sequence fx.g_is_sequence rfl rfl (sa_cons (se_var 2) sa_nil)))) (sw_or1 (st_cmp (ne_sound (unR c.ro)) (se_callB len_sound rfl fx.f_len (by decide +kernel) (sa_cons (se_var 2) sa_nil)) se_int))))
      (sss_one ss_never)
      sss_nil)
      (sss_cons (ss_for po rfl (si_seq (se_var 2)) (sg_name nd (i := 3) rfl (by first | exact .inl rfl | exact .inr rfl))
      (sss_cons (ss_if (st_not (st_truth (sc_call ⟨c.co, c.ro⟩ tk fx.i_is_sequence fx.g_is_sequence rfl rfl (sa_cons (se_var 3) sa_nil))))
      (sss_one ss_never)
      sss_nil)
      (sss_one (ss_for po rfl (si_seq (se_var 3)) (sg_name nd (i := 4) rfl (by first | exact .inl rfl | exact .inr rfl))
      (sss_one (ss_if (st_not (st_truth (sc_call ⟨c.co, c.ro⟩ tk fx.i_is_whole fx.g_is_whole rfl rfl (sa_cons (se_var 4) sa_nil))))
      (sss_one ss_never)
      sss_nil))))))
      (sss_cons (ss_asg (se_var 2) (sg_tup rfl (sgs_cons (sg_name nd (i := 5) rfl (by first | exact .inl rfl | exact .inr rfl)) (sgs_cons (sg_name nd (i := 6) rfl (by first | exact .inl rfl | exact .inr rfl)) sgs_nil))))
      (sss_one (ss_expr (se_append (se_var 1) (sa_cons (se_tup (sa_cons (se_callTy tuple_sound rfl fx.f_tuple (by decide +kernel) (sa_cons (se_var 5) sa_nil)) (sa_cons (se_callTy tuple_sound rfl fx.f_tuple (by decide +kernel) (sa_cons (se_var 6) sa_nil)) sa_nil))) sa_nil))))))))
      (sss_one (ss_ret' (se_callTy tuple_sound rfl fx.f_tuple (by decide +kernel) (sa_cons (se_var 1) sa_nil)))))))
theorem b_checked_rows (fx : Fx K mg fd) : BodyOk P w K mg base (ct K) (fns K fd) ⟨He.fAd K d_checked_rows.at_, fd 6, ["rows"]⟩ ⟨1, 7, false, m_checked_rows⟩ :=
  ⟨_, "checked_rows", _, _, _, _, _, N_checked_rows, fx.D_checked_rows, sc_checked_rows, rfl, rfl, by decide, fun call n co cdv A outer s H E hr => t_checked_rows fx call n cdv A outer s H E ⟨co, hr⟩⟩
abbrev N_check_signs : List Str := ["rows", "letters", "unknowns", "left", "right", "sign"]
theorem sc_check_signs : FnScope N_check_signs ["rows", "letters", "unknowns"] (defScope s_check_signs) := ⟨by kernel_rfl, by kernel_rfl, by kernel_rfl, by decide +kernel, rfl, by decide +kernel, by decide +kernel⟩
theorem t_check_signs (fx : Fx K mg fd) (call : CallT) (n : Nat) (cdv : Value) (A : Around) (outer : List Env) (s : Shared) (H : Hp) (E : XK) (c : Cq (cxOf (L2.CX P w) P w K mg base N_check_signs "check_signs" (defScope s_check_signs) (He.fAd K d_check_signs.at_) cdv A outer s H E) (ct K) (fns K fd) call n) :
    SSs (cxOf (L2.CX P w) P w K mg base N_check_signs "check_signs" (defScope s_check_signs) (He.fAd K d_check_signs.at_) cdv A outer s H E) (ct K) (fun c d _ H' => E c d H') (defBody s_check_signs) (m_check_signs call) := by
  have tk : Takes (cxOf (L2.CX P w) P w K mg base N_check_signs "check_signs" (defScope s_check_signs) (He.fAd K d_check_signs.at_) cdv A outer s H E) (fun cls d _ H' => E cls d H') := takes_of rfl rfl rfl rfl
  have nd := sc_check_signs.nd
  have po : PassesOwn (model P w) (cxOf (L2.CX P w) P w K mg base N_check_signs "check_signs" (defScope s_check_signs) (He.fAd K d_check_signs.at_) cdv A outer s H E).A (cxOf (L2.CX P w) P w K mg base N_check_signs "check_signs" (defScope s_check_signs) (He.fAd K d_check_signs.at_) cdv A outer s H E).env (cxOf (L2.CX P w) P w K mg base N_check_signs "check_signs" (defScope s_check_signs) (He.fAd K d_check_signs.at_) cdv A outer s H E).xe := passes_of rfl
  exact (sss_one (ss_for po rfl (si_seq (se_var 0)) (sg_tup rfl (sgs_cons (sg_name nd (i := 3) rfl (by first | exact .inl rfl | exact .inr rfl)) (sgs_cons (sg_name nd (i := 4) rfl (by first | exact .inl rfl | exact .inr rfl)) sgs_nil)))
      (sss_one (ss_for po rfl (si_seq (se_bin add_sound (se_var 3) (se_var 4))) (sg_name nd (i := 5) rfl (by first | exact .inl rfl | exact .inr rfl))
      (sss_one (ss_if (st_bool (sw_or (st_cmp ge_sound (se_var 5) (se_var 1)) (sw_or1 (st_cmp ge_sound (se_bin sub_sound (se_un neg_sound se_int) (se_var 5)) (se_var 2)))))
      (sss_one ss_never)
      sss_nil))))))
theorem b_check_signs (fx : Fx K mg fd) : BodyOk P w K mg base (ct K) (fns K fd) ⟨He.fAd K d_check_signs.at_, fd 7, ["rows", "letters", "unknowns"]⟩ ⟨3, 6, false, m_check_signs⟩ :=
  ⟨_, "check_signs", _, _, _, _, _, N_check_signs, fx.D_check_signs, sc_check_signs, rfl, rfl, by decide, fun call n co cdv A outer s H E hr => t_check_signs fx call n cdv A outer s H E ⟨co, hr⟩⟩
abbrev N_Book__init_ : List Str := ["self", "rows", "deeds", "ends", "states"]
theorem sc_Book__init_ : FnScope N_Book__init_ ["self", "rows", "deeds", "ends", "states"] (defScope s_Book__init_) := ⟨by kernel_rfl, by kernel_rfl, by kernel_rfl, by decide +kernel, rfl, by decide +kernel, by decide +kernel⟩
theorem t_Book__init_ (fx : Fx K mg fd) (call : CallT) (n : Nat) (cdv : Value) (A : Around) (outer : List Env) (s : Shared) (H : Hp) (E : XK) (c : Cq (cxOf (L2.CX P w) P w K mg base N_Book__init_ "Book.__init__" (defScope s_Book__init_) (He.fAd K d_Book__init_.at_) cdv A outer s H E) (ct K) (fns K fd) call n) :
    SSs (cxOf (L2.CX P w) P w K mg base N_Book__init_ "Book.__init__" (defScope s_Book__init_) (He.fAd K d_Book__init_.at_) cdv A outer s H E) (ct K) (fun c d _ H' => E c d H') (defBody s_Book__init_) (m_Book__init_ call) := by
  have tk : Takes (cxOf (L2.CX P w) P w K mg base N_Book__init_ "Book.__init__" (defScope s_Book__init_) (He.fAd K d_Book__init_.at_) cdv A outer s H E) (fun cls d _ H' => E cls d H') := takes_of rfl rfl rfl rfl
  have nd := sc_Book__init_.nd
  have po : PassesOwn (model P w) (cxOf (L2.CX P w) P w K mg base N_Book__init_ "Book.__init__" (defScope s_Book__init_) (He.fAd K d_Book__init_.at_) cdv A outer s H E).A (cxOf (L2.CX P w) P w K mg base N_Book__init_ "Book.__init__" (defScope s_Book__init_) (He.fAd K d_Book__init_.at_) cdv A outer s H E).env (cxOf (L2.CX P w) P w K mg base N_Book__init_ "Book.__init__" (defScope s_Book__init_) (He.fAd K d_Book__init_.at_) cdv A outer s H E).xe := passes_of rfl
  exact (sss_cons (ss_if (st_bool (sw_or (st_not (st_truth (sc_call ⟨c.co, c.ro⟩ tk fx.i_is_whole fx.g_is_whole rfl rfl (sa_cons (se_var 4) sa_nil)))) (sw_or1 (st_cmp lt_sound (se_var 4) se_int))))
      (sss_one ss_never)
      sss_nil)
      (sss_cons (ss_fld (ok := ok_deeds) (k := 1) (se_var 0) (sc_call ⟨c.co, c.ro⟩ tk fx.i_checked_deeds fx.g_checked_deeds rfl rfl (sa_cons (se_var 2) (sa_cons (se_var 4) sa_nil))) rfl (hok_deeds fx))
      (sss_cons (ss_fld (ok := ok_ends) (k := 2) (se_var 0) (sc_call ⟨c.co, c.ro⟩ tk fx.i_checked_ends fx.g_checked_ends rfl rfl (sa_cons (se_var 3) (sa_cons (se_var 4) sa_nil))) rfl (hok_ends fx))
      (sss_cons (ss_fld (ok := ok_rows) (k := 3) (se_var 0) (sc_call ⟨c.co, c.ro⟩ tk fx.i_checked_rows fx.g_checked_rows rfl rfl (sa_cons (se_var 1) sa_nil)) rfl (hok_rows fx))
      (sss_cons (ss_fld (ok := ok_states) (k := 4) (se_var 0) (se_var 4) rfl (hok_states fx))
      (sss_one (ss_expr (sc_call ⟨c.co, c.ro⟩ tk fx.i_check_signs fx.g_check_signs rfl rfl (sa_cons (se_fld (ok := ok_rows) (k := 3) (se_var 0) rfl (hok_rows fx)) (sa_cons (se_callB len_sound rfl fx.f_len (by decide +kernel) (sa_cons (se_fld (ok := ok_deeds) (k := 1) (se_var 0) rfl (hok_deeds fx)) sa_nil)) (sa_cons (se_callB len_sound rfl fx.f_len (by decide +kernel) (sa_cons (se_fld (ok := ok_ends) (k := 2) (se_var 0) rfl (hok_ends fx)) sa_nil)) sa_nil)))))))))))
theorem b_Book__init_ (fx : Fx K mg fd) : BodyOk P w K mg base (ct K) (fns K fd) ⟨He.fAd K d_Book__init_.at_, fd 8, ["self", "rows", "deeds", "ends", "states"]⟩ ⟨5, 5, false, m_Book__init_⟩ :=
  ⟨_, "Book.__init__", _, _, _, _, _, N_Book__init_, fx.D_Book__init_, sc_Book__init_, rfl, rfl, by decide, fun call n co cdv A outer s H E hr => t_Book__init_ fx call n cdv A outer s H E ⟨co, hr⟩⟩
abbrev N_Book__eq_ : List Str := ["self", "other"]
theorem sc_Book__eq_ : FnScope N_Book__eq_ ["self", "other"] (defScope s_Book__eq_) := ⟨by kernel_rfl, by kernel_rfl, by kernel_rfl, by decide +kernel, rfl, by decide +kernel, by decide +kernel⟩
theorem t_Book__eq_ (fx : Fx K mg fd) (call : CallT) (n : Nat) (cdv : Value) (A : Around) (outer : List Env) (s : Shared) (H : Hp) (E : XK) (c : Cq (cxOf (L2.CX P w) P w K mg base N_Book__eq_ "Book.__eq__" (defScope s_Book__eq_) (He.fAd K d_Book__eq_.at_) cdv A outer s H E) (ct K) (fns K fd) call n) :
    SSs (cxOf (L2.CX P w) P w K mg base N_Book__eq_ "Book.__eq__" (defScope s_Book__eq_) (He.fAd K d_Book__eq_.at_) cdv A outer s H E) (ct K) (fun c d _ H' => E c d H') (defBody s_Book__eq_) (m_Book__eq_ call) := by
  have tk : Takes (cxOf (L2.CX P w) P w K mg base N_Book__eq_ "Book.__eq__" (defScope s_Book__eq_) (He.fAd K d_Book__eq_.at_) cdv A outer s H E) (fun cls d _ H' => E cls d H') := takes_of rfl rfl rfl rfl
  have nd := sc_Book__eq_.nd
  have po : PassesOwn (model P w) (cxOf (L2.CX P w) P w K mg base N_Book__eq_ "Book.__eq__" (defScope s_Book__eq_) (He.fAd K d_Book__eq_.at_) cdv A outer s H E).A (cxOf (L2.CX P w) P w K mg base N_Book__eq_ "Book.__eq__" (defScope s_Book__eq_) (He.fAd K d_Book__eq_.at_) cdv A outer s H E).env (cxOf (L2.CX P w) P w K mg base N_Book__eq_ "Book.__eq__" (defScope s_Book__eq_) (He.fAd K d_Book__eq_.at_) cdv A outer s H E).xe := passes_of rfl
  exact (sss_one (ss_ret' (se_and (se_isiC rfl fx.g_Book (isiOk_Book fx) rfl fx.f_isinstance (se_var 1)) (se_and (se_cmp (eq_sound (unR c.ro)) (se_fld (ok := ok_rows) (k := 3) (se_var 0) rfl (hok_rows fx)) (se_fld (ok := ok_rows) (k := 3) (se_var 1) rfl (hok_rows fx))) (se_and (se_cmp (eq_sound (unR c.ro)) (se_fld (ok := ok_deeds) (k := 1) (se_var 0) rfl (hok_deeds fx)) (se_fld (ok := ok_deeds) (k := 1) (se_var 1) rfl (hok_deeds fx))) (se_and (se_cmp (eq_sound (unR c.ro)) (se_fld (ok := ok_ends) (k := 2) (se_var 0) rfl (hok_ends fx)) (se_fld (ok := ok_ends) (k := 2) (se_var 1) rfl (hok_ends fx))) (se_one (se_cmp (eq_sound (unR c.ro)) (se_fld (ok := ok_states) (k := 4) (se_var 0) rfl (hok_states fx)) (se_fld (ok := ok_states) (k := 4) (se_var 1) rfl (hok_states fx))))))))))
theorem b_Book__eq_ (fx : Fx K mg fd) : BodyOk P w K mg base (ct K) (fns K fd) ⟨He.fAd K d_Book__eq_.at_, fd 9, ["self", "other"]⟩ ⟨2, 2, false, m_Book__eq_⟩ :=
  ⟨_, "Book.__eq__", _, _, _, _, _, N_Book__eq_, fx.D_Book__eq_, sc_Book__eq_, rfl, rfl, by decide, fun call n co cdv A outer s H E hr => t_Book__eq_ fx call n cdv A outer s H E ⟨co, hr⟩⟩
abbrev N_Clash__init_ : List Str := ["self", "why", "at"]
theorem sc_Clash__init_ : FnScope N_Clash__init_ ["self", "why", "at"] (defScope s_Clash__init_) := ⟨by kernel_rfl, by kernel_rfl, by kernel_rfl, by decide +kernel, rfl, by decide +kernel, by decide +kernel⟩
theorem t_Clash__init_ (fx : Fx K mg fd) (call : CallT) (n : Nat) (cdv : Value) (A : Around) (outer : List Env) (s : Shared) (H : Hp) (E : XK) (c : Cq (cxOf (L2.CX P w) P w K mg base N_Clash__init_ "Clash.__init__" (defScope s_Clash__init_) (He.fAd K d_Clash__init_.at_) cdv A outer s H E) (ct K) (fns K fd) call n) :
    SSs (cxOf (L2.CX P w) P w K mg base N_Clash__init_ "Clash.__init__" (defScope s_Clash__init_) (He.fAd K d_Clash__init_.at_) cdv A outer s H E) (ct K) (fun c d _ H' => E c d H') (defBody s_Clash__init_) (m_Clash__init_ call) := by
  have tk : Takes (cxOf (L2.CX P w) P w K mg base N_Clash__init_ "Clash.__init__" (defScope s_Clash__init_) (He.fAd K d_Clash__init_.at_) cdv A outer s H E) (fun cls d _ H' => E cls d H') := takes_of rfl rfl rfl rfl
  have nd := sc_Clash__init_.nd
  have po : PassesOwn (model P w) (cxOf (L2.CX P w) P w K mg base N_Clash__init_ "Clash.__init__" (defScope s_Clash__init_) (He.fAd K d_Clash__init_.at_) cdv A outer s H E).A (cxOf (L2.CX P w) P w K mg base N_Clash__init_ "Clash.__init__" (defScope s_Clash__init_) (He.fAd K d_Clash__init_.at_) cdv A outer s H E).env (cxOf (L2.CX P w) P w K mg base N_Clash__init_ "Clash.__init__" (defScope s_Clash__init_) (He.fAd K d_Clash__init_.at_) cdv A outer s H E).xe := passes_of rfl
  exact (sss_cons (ss_fld (ok := ok_why) (k := 5) (se_var 0) (se_var 1) rfl (hok_why fx))
      (sss_one (ss_fld (ok := ok_at) (k := 6) (se_var 0) (se_var 2) rfl (hok_at fx))))
theorem b_Clash__init_ (fx : Fx K mg fd) : BodyOk P w K mg base (ct K) (fns K fd) ⟨He.fAd K d_Clash__init_.at_, fd 10, ["self", "why", "at"]⟩ ⟨3, 3, false, m_Clash__init_⟩ :=
  ⟨_, "Clash.__init__", _, _, _, _, _, N_Clash__init_, fx.D_Clash__init_, sc_Clash__init_, rfl, rfl, by decide, fun call n co cdv A outer s H E hr => t_Clash__init_ fx call n cdv A outer s H E ⟨co, hr⟩⟩
abbrev N_Clash__eq_ : List Str := ["self", "other"]
theorem sc_Clash__eq_ : FnScope N_Clash__eq_ ["self", "other"] (defScope s_Clash__eq_) := ⟨by kernel_rfl, by kernel_rfl, by kernel_rfl, by decide +kernel, rfl, by decide +kernel, by decide +kernel⟩
theorem t_Clash__eq_ (fx : Fx K mg fd) (call : CallT) (n : Nat) (cdv : Value) (A : Around) (outer : List Env) (s : Shared) (H : Hp) (E : XK) (c : Cq (cxOf (L2.CX P w) P w K mg base N_Clash__eq_ "Clash.__eq__" (defScope s_Clash__eq_) (He.fAd K d_Clash__eq_.at_) cdv A outer s H E) (ct K) (fns K fd) call n) :
    SSs (cxOf (L2.CX P w) P w K mg base N_Clash__eq_ "Clash.__eq__" (defScope s_Clash__eq_) (He.fAd K d_Clash__eq_.at_) cdv A outer s H E) (ct K) (fun c d _ H' => E c d H') (defBody s_Clash__eq_) (m_Clash__eq_ call) := by
  have tk : Takes (cxOf (L2.CX P w) P w K mg base N_Clash__eq_ "Clash.__eq__" (defScope s_Clash__eq_) (He.fAd K d_Clash__eq_.at_) cdv A outer s H E) (fun cls d _ H' => E cls d H') := takes_of rfl rfl rfl rfl
  have nd := sc_Clash__eq_.nd
  have po : PassesOwn (model P w) (cxOf (L2.CX P w) P w K mg base N_Clash__eq_ "Clash.__eq__" (defScope s_Clash__eq_) (He.fAd K d_Clash__eq_.at_) cdv A outer s H E).A (cxOf (L2.CX P w) P w K mg base N_Clash__eq_ "Clash.__eq__" (defScope s_Clash__eq_) (He.fAd K d_Clash__eq_.at_) cdv A outer s H E).env (cxOf (L2.CX P w) P w K mg base N_Clash__eq_ "Clash.__eq__" (defScope s_Clash__eq_) (He.fAd K d_Clash__eq_.at_) cdv A outer s H E).xe := passes_of rfl
  exact (sss_one (ss_ret' (se_and (se_isiC rfl fx.g_Clash (isiOk_Clash fx) rfl fx.f_isinstance (se_var 1)) (se_and (se_cmp (eq_sound (unR c.ro)) (se_fld (ok := ok_why) (k := 5) (se_var 0) rfl (hok_why fx)) (se_fld (ok := ok_why) (k := 5) (se_var 1) rfl (hok_why fx))) (se_one (se_cmp (eq_sound (unR c.ro)) (se_fld (ok := ok_at) (k := 6) (se_var 0) rfl (hok_at fx)) (se_fld (ok := ok_at) (k := 6) (se_var 1) rfl (hok_at fx))))))))
theorem b_Clash__eq_ (fx : Fx K mg fd) : BodyOk P w K mg base (ct K) (fns K fd) ⟨He.fAd K d_Clash__eq_.at_, fd 11, ["self", "other"]⟩ ⟨2, 2, false, m_Clash__eq_⟩ :=
  ⟨_, "Clash.__eq__", _, _, _, _, _, N_Clash__eq_, fx.D_Clash__eq_, sc_Clash__eq_, rfl, rfl, by decide, fun call n co cdv A outer s H E hr => t_Clash__eq_ fx call n cdv A outer s H E ⟨co, hr⟩⟩
abbrev N_stripped : List Str := ["left", "right", "front", "least", "back"]
theorem sc_stripped : FnScope N_stripped ["left", "right"] (defScope s_stripped) := ⟨by kernel_rfl, by kernel_rfl, by kernel_rfl, by decide +kernel, rfl, by decide +kernel, by decide +kernel⟩
theorem t_stripped (fx : Fx K mg fd) (call : CallT) (n : Nat) (cdv : Value) (A : Around) (outer : List Env) (s : Shared) (H : Hp) (E : XK) (c : Cq (cxOf (L2.CX P w) P w K mg base N_stripped "stripped" (defScope s_stripped) (He.fAd K d_stripped.at_) cdv A outer s H E) (ct K) (fns K fd) call n) :
    SSs (cxOf (L2.CX P w) P w K mg base N_stripped "stripped" (defScope s_stripped) (He.fAd K d_stripped.at_) cdv A outer s H E) (ct K) (fun c d _ H' => E c d H') (defBody s_stripped) (m_stripped call) := by
  have tk : Takes (cxOf (L2.CX P w) P w K mg base N_stripped "stripped" (defScope s_stripped) (He.fAd K d_stripped.at_) cdv A outer s H E) (fun cls d _ H' => E cls d H') := takes_of rfl rfl rfl rfl
  have nd := sc_stripped.nd
  have po : PassesOwn (model P w) (cxOf (L2.CX P w) P w K mg base N_stripped "stripped" (defScope s_stripped) (He.fAd K d_stripped.at_) cdv A outer s H E).A (cxOf (L2.CX P w) P w K mg base N_stripped "stripped" (defScope s_stripped) (He.fAd K d_stripped.at_) cdv A outer s H E).env (cxOf (L2.CX P w) P w K mg base N_stripped "stripped" (defScope s_stripped) (He.fAd K d_stripped.at_) cdv A outer s H E).xe := passes_of rfl
  exact (sss_cons (ss_set nd (i := 2) rfl (by first | exact .inl rfl | exact .inr rfl) se_int)
      (sss_cons (ss_set nd (i := 3) rfl (by first | exact .inl rfl | exact .inr rfl) (se_callB (min2_sound rfl) rfl fx.f_min (by decide +kernel) (sa_cons (se_callB len_sound rfl fx.f_len (by decide +kernel) (sa_cons (se_var 0) sa_nil)) (sa_cons (se_callB len_sound rfl fx.f_len (by decide +kernel) (sa_cons (se_var 1) sa_nil)) sa_nil))))
      (sss_cons (ss_while po (st_bool (sw_and (st_cmp lt_sound (se_var 2) (se_var 3)) (sw_and1 (st_cmp (eq_sound (unR c.ro)) (se_ix ix_sound (se_var 0) (se_var 2)) (se_ix ix_sound (se_var 1) (se_var 2))))))
      (sss_one (ss_aug nd (i := 2) rfl (by first | exact .inl rfl | exact .inr rfl) se_int iadd_sound)))
      (sss_cons (ss_set nd (i := 0) rfl (by first | exact .inl rfl | exact .inr rfl) (se_slice (se_var 0) (so_some (se_var 2)) so_none))
      (sss_cons (ss_set nd (i := 1) rfl (by first | exact .inl rfl | exact .inr rfl) (se_slice (se_var 1) (so_some (se_var 2)) so_none))
      (sss_cons (ss_set nd (i := 4) rfl (by first | exact .inl rfl | exact .inr rfl) se_int)
      (sss_cons (ss_set nd (i := 3) rfl (by first | exact .inl rfl | exact .inr rfl) (se_callB (min2_sound rfl) rfl fx.f_min (by decide +kernel) (sa_cons (se_callB len_sound rfl fx.f_len (by decide +kernel) (sa_cons (se_var 0) sa_nil)) (sa_cons (se_callB len_sound rfl fx.f_len (by decide +kernel) (sa_cons (se_var 1) sa_nil)) sa_nil))))
      (sss_cons (ss_while po (st_bool (sw_and (st_cmp lt_sound (se_var 4) (se_var 3)) (sw_and1 (st_cmp (eq_sound (unR c.ro)) (se_ix ix_sound (se_var 0) (se_bin sub_sound (se_bin sub_sound (se_callB len_sound rfl fx.f_len (by decide +kernel) (sa_cons (se_var 0) sa_nil)) se_int) (se_var 4))) (se_ix ix_sound (se_var 1) (se_bin sub_sound (se_bin sub_sound (se_callB len_sound rfl fx.f_len (by decide +kernel) (sa_cons (se_var 1) sa_nil)) se_int) (se_var 4)))))))
      (sss_one (ss_aug nd (i := 4) rfl (by first | exact .inl rfl | exact .inr rfl) se_int iadd_sound)))
      (sss_one (ss_ret' (se_tup (sa_cons (se_slice (se_var 0) so_none (so_some (se_bin sub_sound (se_callB len_sound rfl fx.f_len (by decide +kernel) (sa_cons (se_var 0) sa_nil)) (se_var 4)))) (sa_cons (se_slice (se_var 1) so_none (so_some (se_bin sub_sound (se_callB len_sound rfl fx.f_len (by decide +kernel) (sa_cons (se_var 1) sa_nil)) (se_var 4)))) sa_nil)))))))))))))
theorem b_stripped (fx : Fx K mg fd) : BodyOk P w K mg base (ct K) (fns K fd) ⟨He.fAd K d_stripped.at_, fd 12, ["left", "right"]⟩ ⟨2, 5, false, m_stripped⟩ :=
  ⟨_, "stripped", _, _, _, _, _, N_stripped, fx.D_stripped, sc_stripped, rfl, rfl, by decide, fun call n co cdv A outer s H E hr => t_stripped fx call n cdv A outer s H E ⟨co, hr⟩⟩
abbrev N_clash_word : List Str := ["left", "right"]
theorem sc_clash_word : FnScope N_clash_word ["left", "right"] (defScope s_clash_word) := ⟨by kernel_rfl, by kernel_rfl, by kernel_rfl, by decide +kernel, rfl, by decide +kernel, by decide +kernel⟩
theorem t_clash_word (fx : Fx K mg fd) (call : CallT) (n : Nat) (cdv : Value) (A : Around) (outer : List Env) (s : Shared) (H : Hp) (E : XK) (c : Cq (cxOf (L2.CX P w) P w K mg base N_clash_word "clash_word" (defScope s_clash_word) (He.fAd K d_clash_word.at_) cdv A outer s H E) (ct K) (fns K fd) call n) :
    SSs (cxOf (L2.CX P w) P w K mg base N_clash_word "clash_word" (defScope s_clash_word) (He.fAd K d_clash_word.at_) cdv A outer s H E) (ct K) (fun c d _ H' => E c d H') (defBody s_clash_word) (m_clash_word call) := by
  have tk : Takes (cxOf (L2.CX P w) P w K mg base N_clash_word "clash_word" (defScope s_clash_word) (He.fAd K d_clash_word.at_) cdv A outer s H E) (fun cls d _ H' => E cls d H') := takes_of rfl rfl rfl rfl
  have nd := sc_clash_word.nd
  have po : PassesOwn (model P w) (cxOf (L2.CX P w) P w K mg base N_clash_word "clash_word" (defScope s_clash_word) (He.fAd K d_clash_word.at_) cdv A outer s H E).A (cxOf (L2.CX P w) P w K mg base N_clash_word "clash_word" (defScope s_clash_word) (He.fAd K d_clash_word.at_) cdv A outer s H E).env (cxOf (L2.CX P w) P w K mg base N_clash_word "clash_word" (defScope s_clash_word) (He.fAd K d_clash_word.at_) cdv A outer s H E).xe := passes_of rfl
  exact (sss_cons (ss_if (st_bool (sw_or (st_cmp (eq_sound (unR c.ro)) (se_var 0) (se_tup sa_nil)) (sw_or1 (st_cmp (eq_sound (unR c.ro)) (se_var 1) (se_tup sa_nil)))))
      (sss_one (ss_ret' se_str))
      sss_nil)
      (sss_cons (ss_if (st_bool (sw_and (st_cmp ge_sound (se_ix ix_sound (se_var 0) se_int) se_int) (sw_and1 (st_cmp ge_sound (se_ix ix_sound (se_var 1) se_int) se_int))))
      (sss_one (ss_ret' se_str))
      sss_nil)
      (sss_cons (ss_if (st_bool (sw_and (st_cmp ge_sound (se_ix ix_sound (se_var 0) (se_bin sub_sound (se_callB len_sound rfl fx.f_len (by decide +kernel) (sa_cons (se_var 0) sa_nil)) se_int)) se_int) (sw_and1 (st_cmp ge_sound (se_ix ix_sound (se_var 1) (se_bin sub_sound (se_callB len_sound rfl fx.f_len (by decide +kernel) (sa_cons (se_var 1) sa_nil)) se_int)) se_int))))
      (sss_one (ss_ret' se_str))
      sss_nil)
      (sss_one (ss_ret' se_non)))))
theorem b_clash_word (fx : Fx K mg fd) : BodyOk P w K mg base (ct K) (fns K fd) ⟨He.fAd K d_clash_word.at_, fd 13, ["left", "right"]⟩ ⟨2, 2, false, m_clash_word⟩ :=
  ⟨_, "clash_word", _, _, _, _, _, N_clash_word, fx.D_clash_word, sc_clash_word, rfl, rfl, by decide, fun call n co cdv A outer s H E hr => t_clash_word fx call n cdv A outer s H E ⟨co, hr⟩⟩
abbrev N_tidy : List Str := ["book", "kept", "at", "left", "right", "why"]
theorem sc_tidy : FnScope N_tidy ["book"] (defScope s_tidy) := ⟨by kernel_rfl, by kernel_rfl, by kernel_rfl, by decide +kernel, rfl, by decide +kernel, by decide +kernel⟩
theorem t_tidy (fx : Fx K mg fd) (call : CallT) (n : Nat) (cdv : Value) (A : Around) (outer : List Env) (s : Shared) (H : Hp) (E : XK) (c : Cq (cxOf (L2.CX P w) P w K mg base N_tidy "tidy" (defScope s_tidy) (He.fAd K d_tidy.at_) cdv A outer s H E) (ct K) (fns K fd) call n) :
    SSs (cxOf (L2.CX P w) P w K mg base N_tidy "tidy" (defScope s_tidy) (He.fAd K d_tidy.at_) cdv A outer s H E) (ct K) (fun c d _ H' => E c d H') (defBody s_tidy) (m_tidy call) := by
  have tk : Takes (cxOf (L2.CX P w) P w K mg base N_tidy "tidy" (defScope s_tidy) (He.fAd K d_tidy.at_) cdv A outer s H E) (fun cls d _ H' => E cls d H') := takes_of rfl rfl rfl rfl
  have nd := sc_tidy.nd
  have po : PassesOwn (model P w) (cxOf (L2.CX P w) P w K mg base N_tidy "tidy" (defScope s_tidy) (He.fAd K d_tidy.at_) cdv A outer s H E).A (cxOf (L2.CX P w) P w K mg base N_tidy "tidy" (defScope s_tidy) (He.fAd K d_tidy.at_) cdv A outer s H E).env (cxOf (L2.CX P w) P w K mg base N_tidy "tidy" (defScope s_tidy) (He.fAd K d_tidy.at_) cdv A outer s H E).xe := passes_of rfl
  exact (sss_cons (ss_set nd (i := 1) rfl (by first | exact .inl rfl | exact .inr rfl) (se_lst sa_nil))
      (sss_cons (ss_for po rfl (si_enumT rfl fx.f_enumerate (sa_cons (se_fld (ok := ok_rows) (k := 3) (se_var 0) rfl (hok_rows fx)) sa_nil)) (sg_tup rfl (sgs_cons (sg_name nd (i := 2) rfl (by first | exact .inl rfl | exact .inr rfl)) (sgs_cons (sg_tup rfl (sgs_cons (sg_name nd (i := 3) rfl (by first | exact .inl rfl | exact .inr rfl)) (sgs_cons (sg_name nd (i := 4) rfl (by first | exact .inl rfl | exact .inr rfl)) sgs_nil))) sgs_nil)))
      (sss_cons (ss_asg (sc_call ⟨c.co, c.ro⟩ tk fx.i_stripped fx.g_stripped rfl rfl (sa_cons (se_var 3) (sa_cons (se_var 4) sa_nil))) (sg_tup rfl (sgs_cons (sg_name nd (i := 3) rfl (by first | exact .inl rfl | exact .inr rfl)) (sgs_cons (sg_name nd (i := 4) rfl (by first | exact .inl rfl | exact .inr rfl)) sgs_nil))))
      (sss_cons (ss_if (st_bool (sw_and (st_cmp (eq_sound (unR c.ro)) (se_var 3) (se_tup sa_nil)) (sw_and1 (st_cmp (eq_sound (unR c.ro)) (se_var 4) (se_tup sa_nil)))))
      (sss_one ss_continue)
      sss_nil)
      (sss_cons (ss_set nd (i := 5) rfl (by first | exact .inl rfl | exact .inr rfl) (sc_call ⟨c.co, c.ro⟩ tk fx.i_clash_word fx.g_clash_word rfl rfl (sa_cons (se_var 3) (sa_cons (se_var 4) sa_nil))))
      (sss_cons (ss_if (st_cmp notN_sound (se_var 5) se_non)
      (sss_one (ss_ret' (sc_make ⟨c.co, c.ro⟩ tk fx.i_Clash__init_ fx.m_Clash fx.g_Clash rfl rfl (sa_cons (se_var 5) (sa_cons (se_var 2) sa_nil)))))
      sss_nil)
      (sss_one (ss_expr (se_append (se_var 1) (sa_cons (se_tup (sa_cons (se_var 3) (sa_cons (se_var 4) sa_nil))) sa_nil)))))))))
      (sss_frz (i := 1) (sss_one (ss_ret' (sc_make ⟨c.co, c.ro⟩ tk fx.i_Book__init_ fx.m_Book fx.g_Book rfl rfl (sa_cons (se_var 1) (sa_cons (se_fld (ok := ok_deeds) (k := 1) (se_var 0) rfl (hok_deeds fx)) (sa_cons (se_fld (ok := ok_ends) (k := 2) (se_var 0) rfl (hok_ends fx)) (sa_cons (se_fld (ok := ok_states) (k := 4) (se_var 0) rfl (hok_states fx)) sa_nil))))))))))
theorem b_tidy (fx : Fx K mg fd) : BodyOk P w K mg base (ct K) (fns K fd) ⟨He.fAd K d_tidy.at_, fd 14, ["book"]⟩ ⟨1, 6, false, m_tidy⟩ :=
  ⟨_, "tidy", _, _, _, _, _, N_tidy, fx.D_tidy, sc_tidy, rfl, rfl, by decide, fun call n co cdv A outer s H E hr => t_tidy fx call n cdv A outer s H E ⟨co, hr⟩⟩
abbrev N__law_source : List Str := ["_law_script"]
theorem sc__law_source : FnScope N__law_source ["_law_script"] (defScope s__law_source) := ⟨by kernel_rfl, by kernel_rfl, by kernel_rfl, by decide +kernel, rfl, by decide +kernel, by decide +kernel⟩
theorem t__law_source (fx : Fx K mg fd) (call : CallT) (n : Nat) (cdv : Value) (A : Around) (outer : List Env) (s : Shared) (H : Hp) (E : XK) (c : Cq (cxOf (L2.CX P w) P w K mg base N__law_source "_law_source" (defScope s__law_source) (He.fAd K d__law_source.at_) cdv A outer s H E) (ct K) (fns K fd) call n) :
    SSs (cxOf (L2.CX P w) P w K mg base N__law_source "_law_source" (defScope s__law_source) (He.fAd K d__law_source.at_) cdv A outer s H E) (ct K) (fun c d _ H' => E c d H') (defBody s__law_source) (m__law_source call) := by
  have tk : Takes (cxOf (L2.CX P w) P w K mg base N__law_source "_law_source" (defScope s__law_source) (He.fAd K d__law_source.at_) cdv A outer s H E) (fun cls d _ H' => E cls d H') := takes_of rfl rfl rfl rfl
  have nd := sc__law_source.nd
  have po : PassesOwn (model P w) (cxOf (L2.CX P w) P w K mg base N__law_source "_law_source" (defScope s__law_source) (He.fAd K d__law_source.at_) cdv A outer s H E).A (cxOf (L2.CX P w) P w K mg base N__law_source "_law_source" (defScope s__law_source) (He.fAd K d__law_source.at_) cdv A outer s H E).env (cxOf (L2.CX P w) P w K mg base N__law_source "_law_source" (defScope s__law_source) (He.fAd K d__law_source.at_) cdv A outer s H E).xe := passes_of rfl
  exact (sss_one (ss_ret' (se_lst (sa_cons (se_callTy listV_sound rfl fx.f_list (by decide +kernel) (sa_cons (se_var 0) sa_nil)) (sa_cons se_int (sa_cons se_int (sa_cons se_int sa_nil)))))))
theorem b__law_source (fx : Fx K mg fd) : BodyOk P w K mg base (ct K) (fns K fd) ⟨He.fAd K d__law_source.at_, fd 15, ["_law_script"]⟩ ⟨1, 1, true, m__law_source⟩ :=
  ⟨_, "_law_source", _, _, _, _, _, N__law_source, fx.D__law_source, sc__law_source, rfl, rfl, by decide, fun call n co cdv A outer s H E hr => t__law_source fx call n cdv A outer s H E ⟨co, hr⟩⟩
abbrev N__law_take : List Str := ["_law_source_here", "_law_many", "_law_cell", "_law_mixed", "_law_told"]
theorem sc__law_take : FnScope N__law_take ["_law_source_here", "_law_many"] (defScope s__law_take) := ⟨by kernel_rfl, by kernel_rfl, by kernel_rfl, by decide +kernel, rfl, by decide +kernel, by decide +kernel⟩
theorem t__law_take (fx : Fx K mg fd) (call : CallT) (n : Nat) (cdv : Value) (A : Around) (outer : List Env) (s : Shared) (H : Hp) (E : XK) (c : Cq (cxOf (L2.CX P w) P w K mg base N__law_take "_law_take" (defScope s__law_take) (He.fAd K d__law_take.at_) cdv A outer s H E) (ct K) (fns K fd) call n) :
    SSs (cxOf (L2.CX P w) P w K mg base N__law_take "_law_take" (defScope s__law_take) (He.fAd K d__law_take.at_) cdv A outer s H E) (ct K) (fun c d _ H' => E c d H') (defBody s__law_take) (m__law_take call) := by
  have tk : Takes (cxOf (L2.CX P w) P w K mg base N__law_take "_law_take" (defScope s__law_take) (He.fAd K d__law_take.at_) cdv A outer s H E) (fun cls d _ H' => E cls d H') := takes_of rfl rfl rfl rfl
  have nd := sc__law_take.nd
  have po : PassesOwn (model P w) (cxOf (L2.CX P w) P w K mg base N__law_take "_law_take" (defScope s__law_take) (He.fAd K d__law_take.at_) cdv A outer s H E).A (cxOf (L2.CX P w) P w K mg base N__law_take "_law_take" (defScope s__law_take) (He.fAd K d__law_take.at_) cdv A outer s H E).env (cxOf (L2.CX P w) P w K mg base N__law_take "_law_take" (defScope s__law_take) (He.fAd K d__law_take.at_) cdv A outer s H E).xe := passes_of rfl
  exact (sss_cons (ss_if (st_cmp (eq_sound (unR c.ro)) (se_ix ix_sound (se_var 0) se_int) se_int)
      (sss_cons (ss_set nd (i := 2) rfl (by first | exact .inl rfl | exact .inr rfl) se_int)
      (sss_cons (ss_if (st_cmp lt_sound (se_ix ix_sound (se_var 0) se_int) (se_callB len_sound rfl fx.f_len (by decide +kernel) (sa_cons (se_ix ix_sound (se_var 0) se_int) sa_nil)))
      (sss_one (ss_set nd (i := 2) rfl (by first | exact .inl rfl | exact .inr rfl) (se_ix ix_sound (se_ix ix_sound (se_var 0) se_int) (se_ix ix_sound (se_var 0) se_int))))
      sss_nil)
      (sss_cons (ss_asg (se_bin add_sound (se_ix ix_sound (se_var 0) se_int) se_int) (sg_store (se_var 0) se_int))
      (sss_one (ss_if (st_cmp ge_sound (se_var 2) (se_bin pow_sound se_int se_int))
      (sss_one (ss_asg (se_var 2) (sg_store (se_var 0) se_int)))
      (sss_cons (ss_set nd (i := 3) rfl (by first | exact .inl rfl | exact .inr rfl) (se_bin mod_sound (se_callTy int_sound rfl fx.f_int (by decide +kernel) (sa_cons (se_bin add_sound (se_bin add_sound (se_bin add_sound (se_bin mulI_sound (se_ix ix_sound (se_var 0) se_int) se_int) (se_bin mulI_sound (se_bin mod_sound (se_callTy int_sound rfl fx.f_int (by decide +kernel) (sa_cons (se_var 2) sa_nil)) se_int) se_int)) (se_bin mulI_sound (se_ix ix_sound (se_var 0) se_int) se_int)) se_int) sa_nil)) se_int))
      (sss_cons (ss_set nd (i := 3) rfl (by first | exact .inl rfl | exact .inr rfl) (se_bin mod_sound (se_callTy int_sound rfl fx.f_int (by decide +kernel) (sa_cons (se_bin add_sound (se_bin add_sound (se_bin mulI_sound (se_var 3) (se_var 3)) (se_bin mulI_sound (se_ix ix_sound (se_var 0) se_int) se_int)) se_int) sa_nil)) se_int))
      (sss_cons (ss_asg (se_var 3) (sg_store (se_var 0) se_int))
      (sss_one (ss_ret' (se_bin mod_sound (se_bin div_sound (se_var 3) se_int) (se_var 1))))))))))))
      sss_nil)
      (sss_cons (ss_set nd (i := 4) rfl (by first | exact .inl rfl | exact .inr rfl) (se_bin mod_sound (se_callTy int_sound rfl fx.f_int (by decide +kernel) (sa_cons (se_ix ix_sound (se_var 0) se_int) sa_nil)) (se_var 1)))
      (sss_cons (ss_asg (se_bin div_sound (se_ix ix_sound (se_var 0) se_int) (se_var 1)) (sg_store (se_var 0) se_int))
      (sss_one (ss_ret' (se_var 4))))))
theorem b__law_take (fx : Fx K mg fd) : BodyOk P w K mg base (ct K) (fns K fd) ⟨He.fAd K d__law_take.at_, fd 16, ["_law_source_here", "_law_many"]⟩ ⟨2, 5, false, m__law_take⟩ :=
  ⟨_, "_law_take", _, _, _, _, _, N__law_take, fx.D__law_take, sc__law_take, rfl, rfl, by decide, fun call n co cdv A outer s H E hr => t__law_take fx call n cdv A outer s H E ⟨co, hr⟩⟩
abbrev N__law_pick : List Str := ["_law_source_here", "_law_things"]
theorem sc__law_pick : FnScope N__law_pick ["_law_source_here", "_law_things"] (defScope s__law_pick) := ⟨by kernel_rfl, by kernel_rfl, by kernel_rfl, by decide +kernel, rfl, by decide +kernel, by decide +kernel⟩
theorem t__law_pick (fx : Fx K mg fd) (call : CallT) (n : Nat) (cdv : Value) (A : Around) (outer : List Env) (s : Shared) (H : Hp) (E : XK) (c : Cq (cxOf (L2.CX P w) P w K mg base N__law_pick "_law_pick" (defScope s__law_pick) (He.fAd K d__law_pick.at_) cdv A outer s H E) (ct K) (fns K fd) call n) :
    SSs (cxOf (L2.CX P w) P w K mg base N__law_pick "_law_pick" (defScope s__law_pick) (He.fAd K d__law_pick.at_) cdv A outer s H E) (ct K) (fun c d _ H' => E c d H') (defBody s__law_pick) (m__law_pick call) := by
  have tk : Takes (cxOf (L2.CX P w) P w K mg base N__law_pick "_law_pick" (defScope s__law_pick) (He.fAd K d__law_pick.at_) cdv A outer s H E) (fun cls d _ H' => E cls d H') := takes_of rfl rfl rfl rfl
  have nd := sc__law_pick.nd
  have po : PassesOwn (model P w) (cxOf (L2.CX P w) P w K mg base N__law_pick "_law_pick" (defScope s__law_pick) (He.fAd K d__law_pick.at_) cdv A outer s H E).A (cxOf (L2.CX P w) P w K mg base N__law_pick "_law_pick" (defScope s__law_pick) (He.fAd K d__law_pick.at_) cdv A outer s H E).env (cxOf (L2.CX P w) P w K mg base N__law_pick "_law_pick" (defScope s__law_pick) (He.fAd K d__law_pick.at_) cdv A outer s H E).xe := passes_of rfl
  exact (sss_one (ss_ret' (se_ix ix_sound (se_var 1) (sc_call ⟨c.co, c.ro⟩ tk fx.i__law_take fx.g__law_take rfl rfl (sa_cons (se_var 0) (sa_cons (se_callB len_sound rfl fx.f_len (by decide +kernel) (sa_cons (se_var 1) sa_nil)) sa_nil))))))
theorem b__law_pick (fx : Fx K mg fd) : BodyOk P w K mg base (ct K) (fns K fd) ⟨He.fAd K d__law_pick.at_, fd 17, ["_law_source_here", "_law_things"]⟩ ⟨2, 2, false, m__law_pick⟩ :=
  ⟨_, "_law_pick", _, _, _, _, _, N__law_pick, fx.D__law_pick, sc__law_pick, rfl, rfl, by decide, fun call n co cdv A outer s H E hr => t__law_pick fx call n cdv A outer s H E ⟨co, hr⟩⟩
abbrev N__law_moves : List Str := ["_law_source_here", "_law_states", "_law_letters", "_law_s", "_law_j"]
theorem sc__law_moves : FnScope N__law_moves ["_law_source_here", "_law_states", "_law_letters"] (defScope s__law_moves) := ⟨by kernel_rfl, by kernel_rfl, by kernel_rfl, by decide +kernel, rfl, by decide +kernel, by decide +kernel⟩
theorem t__law_moves (fx : Fx K mg fd) (call : CallT) (n : Nat) (cdv : Value) (A : Around) (outer : List Env) (s : Shared) (H : Hp) (E : XK) (c : Cq (cxOf (L2.CX P w) P w K mg base N__law_moves "_law_moves" (defScope s__law_moves) (He.fAd K d__law_moves.at_) cdv A outer s H E) (ct K) (fns K fd) call n) :
    SSs (cxOf (L2.CX P w) P w K mg base N__law_moves "_law_moves" (defScope s__law_moves) (He.fAd K d__law_moves.at_) cdv A outer s H E) (ct K) (fun c d _ H' => E c d H') (defBody s__law_moves) (m__law_moves call) := by
  have tk : Takes (cxOf (L2.CX P w) P w K mg base N__law_moves "_law_moves" (defScope s__law_moves) (He.fAd K d__law_moves.at_) cdv A outer s H E) (fun cls d _ H' => E cls d H') := takes_of rfl rfl rfl rfl
  have nd := sc__law_moves.nd
  have po : PassesOwn (model P w) (cxOf (L2.CX P w) P w K mg base N__law_moves "_law_moves" (defScope s__law_moves) (He.fAd K d__law_moves.at_) cdv A outer s H E).A (cxOf (L2.CX P w) P w K mg base N__law_moves "_law_moves" (defScope s__law_moves) (He.fAd K d__law_moves.at_) cdv A outer s H E).env (cxOf (L2.CX P w) P w K mg base N__law_moves "_law_moves" (defScope s__law_moves) (He.fAd K d__law_moves.at_) cdv A outer s H E).xe := passes_of rfl
  exact (sss_one (ss_ret' (se_callTy tuple_sound rfl fx.f_tuple (by decide +kernel) (sa_cons (se_lc false rfl nd (si_rng1 rfl fx.f_range (sa_cons (se_var 1) sa_nil)) (own := [("_law_s", 3)]) (blkOk_by (by first | decide +kernel | kernel_rfl)) rfl (fun _ _ _ _ _ => (sgc_name nd (i := 3) rfl (by first | exact .inl rfl | exact .inr rfl) (by decide))) (fun _ _ _ _ _ => spt_nil) (fun _ _ _ _ _ => (se_callTy tuple_sound rfl fx.f_tuple (by decide +kernel) (sa_cons (se_lc false rfl nd (si_rng1 rfl fx.f_range (sa_cons (se_var 2) sa_nil)) (own := [("_law_j", 4)]) (blkOk_by (by first | decide +kernel | kernel_rfl)) rfl (fun _ _ _ _ _ => (sgc_name nd (i := 4) rfl (by first | exact .inl rfl | exact .inr rfl) (by decide))) (fun _ _ _ _ _ => spt_nil) (fun _ _ _ _ _ => (sc_call ⟨c.co, c.ro⟩ takesW fx.i__law_take fx.g__law_take rfl rfl (sa_cons (se_var 0) (sa_cons (se_var 1) sa_nil))))) sa_nil)))) sa_nil))))
theorem b__law_moves (fx : Fx K mg fd) : BodyOk P w K mg base (ct K) (fns K fd) ⟨He.fAd K d__law_moves.at_, fd 18, ["_law_source_here", "_law_states", "_law_letters"]⟩ ⟨3, 5, false, m__law_moves⟩ :=
  ⟨_, "_law_moves", _, _, _, _, _, N__law_moves, fx.D__law_moves, sc__law_moves, rfl, rfl, by decide, fun call n co cdv A outer s H E hr => t__law_moves fx call n cdv A outer s H E ⟨co, hr⟩⟩
abbrev N__law_deed : List Str := ["_law_moves_here", "_law_places", "_law_told", "_law_state", "_law_at", "_law_place"]
theorem sc__law_deed : FnScope N__law_deed ["_law_moves_here", "_law_places"] (defScope s__law_deed) := ⟨by kernel_rfl, by kernel_rfl, by kernel_rfl, by decide +kernel, rfl, by decide +kernel, by decide +kernel⟩
theorem t__law_deed (fx : Fx K mg fd) (call : CallT) (n : Nat) (cdv : Value) (A : Around) (outer : List Env) (s : Shared) (H : Hp) (E : XK) (c : Cq (cxOf (L2.CX P w) P w K mg base N__law_deed "_law_deed" (defScope s__law_deed) (He.fAd K d__law_deed.at_) cdv A outer s H E) (ct K) (fns K fd) call n) :
    SSs (cxOf (L2.CX P w) P w K mg base N__law_deed "_law_deed" (defScope s__law_deed) (He.fAd K d__law_deed.at_) cdv A outer s H E) (ct K) (fun c d _ H' => E c d H') (defBody s__law_deed) (m__law_deed call) := by
  have tk : Takes (cxOf (L2.CX P w) P w K mg base N__law_deed "_law_deed" (defScope s__law_deed) (He.fAd K d__law_deed.at_) cdv A outer s H E) (fun cls d _ H' => E cls d H') := takes_of rfl rfl rfl rfl
  have nd := sc__law_deed.nd
  have po : PassesOwn (model P w) (cxOf (L2.CX P w) P w K mg base N__law_deed "_law_deed" (defScope s__law_deed) (He.fAd K d__law_deed.at_) cdv A outer s H E).A (cxOf (L2.CX P w) P w K mg base N__law_deed "_law_deed" (defScope s__law_deed) (He.fAd K d__law_deed.at_) cdv A outer s H E).env (cxOf (L2.CX P w) P w K mg base N__law_deed "_law_deed" (defScope s__law_deed) (He.fAd K d__law_deed.at_) cdv A outer s H E).xe := passes_of rfl
  exact (sss_cons (ss_set nd (i := 2) rfl (by first | exact .inl rfl | exact .inr rfl) (se_lst sa_nil))
      (sss_cons (ss_for po rfl (si_rng1 rfl fx.f_range (sa_cons (se_callB len_sound rfl fx.f_len (by decide +kernel) (sa_cons (se_var 0) sa_nil)) sa_nil)) (sg_name nd (i := 3) rfl (by first | exact .inl rfl | exact .inr rfl))
      (sss_cons (ss_set nd (i := 4) rfl (by first | exact .inl rfl | exact .inr rfl) (se_var 3))
      (sss_cons (ss_for po rfl (si_seq (se_var 1)) (sg_name nd (i := 5) rfl (by first | exact .inl rfl | exact .inr rfl))
      (sss_one (ss_set nd (i := 4) rfl (by first | exact .inl rfl | exact .inr rfl) (se_ix ix_sound (se_ix ix_sound (se_var 0) (se_var 4)) (se_var 5)))))
      (sss_one (ss_expr (se_append (se_var 2) (sa_cons (se_var 4) sa_nil)))))))
      (sss_one (ss_ret' (se_callTy tuple_sound rfl fx.f_tuple (by decide +kernel) (sa_cons (se_var 2) sa_nil))))))
theorem b__law_deed (fx : Fx K mg fd) : BodyOk P w K mg base (ct K) (fns K fd) ⟨He.fAd K d__law_deed.at_, fd 19, ["_law_moves_here", "_law_places"]⟩ ⟨2, 6, false, m__law_deed⟩ :=
  ⟨_, "_law_deed", _, _, _, _, _, N__law_deed, fx.D__law_deed, sc__law_deed, rfl, rfl, by decide, fun call n co cdv A outer s H E hr => t__law_deed fx call n cdv A outer s H E ⟨co, hr⟩⟩
abbrev N__law_after : List Str := ["_law_first", "_law_then", "_law_goal"]
theorem sc__law_after : FnScope N__law_after ["_law_first", "_law_then"] (defScope s__law_after) := ⟨by kernel_rfl, by kernel_rfl, by kernel_rfl, by decide +kernel, rfl, by decide +kernel, by decide +kernel⟩
theorem t__law_after (fx : Fx K mg fd) (call : CallT) (n : Nat) (cdv : Value) (A : Around) (outer : List Env) (s : Shared) (H : Hp) (E : XK) (c : Cq (cxOf (L2.CX P w) P w K mg base N__law_after "_law_after" (defScope s__law_after) (He.fAd K d__law_after.at_) cdv A outer s H E) (ct K) (fns K fd) call n) :
    SSs (cxOf (L2.CX P w) P w K mg base N__law_after "_law_after" (defScope s__law_after) (He.fAd K d__law_after.at_) cdv A outer s H E) (ct K) (fun c d _ H' => E c d H') (defBody s__law_after) (m__law_after call) := by
  have tk : Takes (cxOf (L2.CX P w) P w K mg base N__law_after "_law_after" (defScope s__law_after) (He.fAd K d__law_after.at_) cdv A outer s H E) (fun cls d _ H' => E cls d H') := takes_of rfl rfl rfl rfl
  have nd := sc__law_after.nd
  have po : PassesOwn (model P w) (cxOf (L2.CX P w) P w K mg base N__law_after "_law_after" (defScope s__law_after) (He.fAd K d__law_after.at_) cdv A outer s H E).A (cxOf (L2.CX P w) P w K mg base N__law_after "_law_after" (defScope s__law_after) (He.fAd K d__law_after.at_) cdv A outer s H E).env (cxOf (L2.CX P w) P w K mg base N__law_after "_law_after" (defScope s__law_after) (He.fAd K d__law_after.at_) cdv A outer s H E).xe := passes_of rfl
  exact (sss_one (ss_ret' (se_callTy tuple_sound rfl fx.f_tuple (by decide +kernel) (sa_cons (se_lc false rfl nd (si_seq (se_var 0)) (own := [("_law_goal", 2)]) (blkOk_by (by first | decide +kernel | kernel_rfl)) rfl (fun _ _ _ _ _ => (sgc_name nd (i := 2) rfl (by first | exact .inl rfl | exact .inr rfl) (by decide))) (fun _ _ _ _ _ => spt_nil) (fun _ _ _ _ _ => (se_ix ix_sound (se_var 1) (se_var 2)))) sa_nil))))
theorem b__law_after (fx : Fx K mg fd) : BodyOk P w K mg base (ct K) (fns K fd) ⟨He.fAd K d__law_after.at_, fd 20, ["_law_first", "_law_then"]⟩ ⟨2, 3, false, m__law_after⟩ :=
  ⟨_, "_law_after", _, _, _, _, _, N__law_after, fx.D__law_after, sc__law_after, rfl, rfl, by decide, fun call n co cdv A outer s H E hr => t__law_after fx call n cdv A outer s H E ⟨co, hr⟩⟩
abbrev N__law_side : List Str := ["_law_source_here", "_law_letters", "_law_unknowns", "_law_most", "_law_told", "_law_k"]
theorem sc__law_side : FnScope N__law_side ["_law_source_here", "_law_letters", "_law_unknowns", "_law_most"] (defScope s__law_side) := ⟨by kernel_rfl, by kernel_rfl, by kernel_rfl, by decide +kernel, rfl, by decide +kernel, by decide +kernel⟩
theorem t__law_side (fx : Fx K mg fd) (call : CallT) (n : Nat) (cdv : Value) (A : Around) (outer : List Env) (s : Shared) (H : Hp) (E : XK) (c : Cq (cxOf (L2.CX P w) P w K mg base N__law_side "_law_side" (defScope s__law_side) (He.fAd K d__law_side.at_) cdv A outer s H E) (ct K) (fns K fd) call n) :
    SSs (cxOf (L2.CX P w) P w K mg base N__law_side "_law_side" (defScope s__law_side) (He.fAd K d__law_side.at_) cdv A outer s H E) (ct K) (fun c d _ H' => E c d H') (defBody s__law_side) (m__law_side call) := by
  have tk : Takes (cxOf (L2.CX P w) P w K mg base N__law_side "_law_side" (defScope s__law_side) (He.fAd K d__law_side.at_) cdv A outer s H E) (fun cls d _ H' => E cls d H') := takes_of rfl rfl rfl rfl
  have nd := sc__law_side.nd
  have po : PassesOwn (model P w) (cxOf (L2.CX P w) P w K mg base N__law_side "_law_side" (defScope s__law_side) (He.fAd K d__law_side.at_) cdv A outer s H E).A (cxOf (L2.CX P w) P w K mg base N__law_side "_law_side" (defScope s__law_side) (He.fAd K d__law_side.at_) cdv A outer s H E).env (cxOf (L2.CX P w) P w K mg base N__law_side "_law_side" (defScope s__law_side) (He.fAd K d__law_side.at_) cdv A outer s H E).xe := passes_of rfl
  exact (sss_cons (ss_set nd (i := 4) rfl (by first | exact .inl rfl | exact .inr rfl) (se_lst sa_nil))
      (sss_cons (ss_for po rfl (si_rng1 rfl fx.f_range (sa_cons (se_bin add_sound se_int (sc_call ⟨c.co, c.ro⟩ tk fx.i__law_take fx.g__law_take rfl rfl (sa_cons (se_var 0) (sa_cons (se_var 3) sa_nil)))) sa_nil)) (sg_name nd (i := 5) rfl (by first | exact .inl rfl | exact .inr rfl))
      (sss_one (ss_if (st_cmp (eq_sound (unR c.ro)) (sc_call ⟨c.co, c.ro⟩ tk fx.i__law_take fx.g__law_take rfl rfl (sa_cons (se_var 0) (sa_cons se_int sa_nil))) se_int)
      (sss_one (ss_expr (se_append (se_var 4) (sa_cons (se_bin sub_sound (se_un neg_sound se_int) (sc_call ⟨c.co, c.ro⟩ tk fx.i__law_take fx.g__law_take rfl rfl (sa_cons (se_var 0) (sa_cons (se_var 2) sa_nil)))) sa_nil))))
      (sss_one (ss_expr (se_append (se_var 4) (sa_cons (sc_call ⟨c.co, c.ro⟩ tk fx.i__law_take fx.g__law_take rfl rfl (sa_cons (se_var 0) (sa_cons (se_var 1) sa_nil))) sa_nil)))))))
      (sss_one (ss_ret' (se_callTy tuple_sound rfl fx.f_tuple (by decide +kernel) (sa_cons (se_var 4) sa_nil))))))
theorem b__law_side (fx : Fx K mg fd) : BodyOk P w K mg base (ct K) (fns K fd) ⟨He.fAd K d__law_side.at_, fd 21, ["_law_source_here", "_law_letters", "_law_unknowns", "_law_most"]⟩ ⟨4, 6, false, m__law_side⟩ :=
  ⟨_, "_law_side", _, _, _, _, _, N__law_side, fx.D__law_side, sc__law_side, rfl, rfl, by decide, fun call n co cdv A outer s H E hr => t__law_side fx call n cdv A outer s H E ⟨co, hr⟩⟩
abbrev N__law_filled : List Str := ["_law_side_here", "_law_texts_here", "_law_told", "_law_sign"]
theorem sc__law_filled : FnScope N__law_filled ["_law_side_here", "_law_texts_here"] (defScope s__law_filled) := ⟨by kernel_rfl, by kernel_rfl, by kernel_rfl, by decide +kernel, rfl, by decide +kernel, by decide +kernel⟩
theorem t__law_filled (fx : Fx K mg fd) (call : CallT) (n : Nat) (cdv : Value) (A : Around) (outer : List Env) (s : Shared) (H : Hp) (E : XK) (c : Cq (cxOf (L2.CX P w) P w K mg base N__law_filled "_law_filled" (defScope s__law_filled) (He.fAd K d__law_filled.at_) cdv A outer s H E) (ct K) (fns K fd) call n) :
    SSs (cxOf (L2.CX P w) P w K mg base N__law_filled "_law_filled" (defScope s__law_filled) (He.fAd K d__law_filled.at_) cdv A outer s H E) (ct K) (fun c d _ H' => E c d H') (defBody s__law_filled) (m__law_filled call) := by
  have tk : Takes (cxOf (L2.CX P w) P w K mg base N__law_filled "_law_filled" (defScope s__law_filled) (He.fAd K d__law_filled.at_) cdv A outer s H E) (fun cls d _ H' => E cls d H') := takes_of rfl rfl rfl rfl
  have nd := sc__law_filled.nd
  have po : PassesOwn (model P w) (cxOf (L2.CX P w) P w K mg base N__law_filled "_law_filled" (defScope s__law_filled) (He.fAd K d__law_filled.at_) cdv A outer s H E).A (cxOf (L2.CX P w) P w K mg base N__law_filled "_law_filled" (defScope s__law_filled) (He.fAd K d__law_filled.at_) cdv A outer s H E).env (cxOf (L2.CX P w) P w K mg base N__law_filled "_law_filled" (defScope s__law_filled) (He.fAd K d__law_filled.at_) cdv A outer s H E).xe := passes_of rfl
  exact (sss_cons (ss_set nd (i := 2) rfl (by first | exact .inl rfl | exact .inr rfl) (se_lst sa_nil))
      (sss_cons (ss_for po rfl (si_seq (se_var 0)) (sg_name nd (i := 3) rfl (by first | exact .inl rfl | exact .inr rfl))
      (sss_one (ss_if (st_cmp ge_sound (se_var 3) se_int)
      (sss_one (ss_expr (se_append (se_var 2) (sa_cons (se_var 3) sa_nil))))
      (sss_one (ss_expr (se_extend (se_var 2) (sa_cons (se_ix ix_sound (se_var 1) (se_bin sub_sound (se_un neg_sound se_int) (se_var 3))) sa_nil)))))))
      (sss_one (ss_ret' (se_callTy tuple_sound rfl fx.f_tuple (by decide +kernel) (sa_cons (se_var 2) sa_nil))))))
theorem b__law_filled (fx : Fx K mg fd) : BodyOk P w K mg base (ct K) (fns K fd) ⟨He.fAd K d__law_filled.at_, fd 22, ["_law_side_here", "_law_texts_here"]⟩ ⟨2, 4, false, m__law_filled⟩ :=
  ⟨_, "_law_filled", _, _, _, _, _, N__law_filled, fx.D__law_filled, sc__law_filled, rfl, rfl, by decide, fun call n co cdv A outer s H E hr => t__law_filled fx call n cdv A outer s H E ⟨co, hr⟩⟩
abbrev N__law_cut_row : List Str := ["_law_source_here", "_law_texts_here", "_law_most", "_law_letters", "_law_left", "_law_rest", "_law_right", "_law_turn", "_law_fit", "_law_j"]
theorem sc__law_cut_row : FnScope N__law_cut_row ["_law_source_here", "_law_texts_here", "_law_most", "_law_letters"] (defScope s__law_cut_row) := ⟨by kernel_rfl, by kernel_rfl, by kernel_rfl, by decide +kernel, rfl, by decide +kernel, by decide +kernel⟩
theorem t__law_cut_row (fx : Fx K mg fd) (call : CallT) (n : Nat) (cdv : Value) (A : Around) (outer : List Env) (s : Shared) (H : Hp) (E : XK) (c : Cq (cxOf (L2.CX P w) P w K mg base N__law_cut_row "_law_cut_row" (defScope s__law_cut_row) (He.fAd K d__law_cut_row.at_) cdv A outer s H E) (ct K) (fns K fd) call n) :
    SSs (cxOf (L2.CX P w) P w K mg base N__law_cut_row "_law_cut_row" (defScope s__law_cut_row) (He.fAd K d__law_cut_row.at_) cdv A outer s H E) (ct K) (fun c d _ H' => E c d H') (defBody s__law_cut_row) (m__law_cut_row call) := by
  have tk : Takes (cxOf (L2.CX P w) P w K mg base N__law_cut_row "_law_cut_row" (defScope s__law_cut_row) (He.fAd K d__law_cut_row.at_) cdv A outer s H E) (fun cls d _ H' => E cls d H') := takes_of rfl rfl rfl rfl
  have nd := sc__law_cut_row.nd
  have po : PassesOwn (model P w) (cxOf (L2.CX P w) P w K mg base N__law_cut_row "_law_cut_row" (defScope s__law_cut_row) (He.fAd K d__law_cut_row.at_) cdv A outer s H E).A (cxOf (L2.CX P w) P w K mg base N__law_cut_row "_law_cut_row" (defScope s__law_cut_row) (He.fAd K d__law_cut_row.at_) cdv A outer s H E).env (cxOf (L2.CX P w) P w K mg base N__law_cut_row "_law_cut_row" (defScope s__law_cut_row) (He.fAd K d__law_cut_row.at_) cdv A outer s H E).xe := passes_of rfl
  exact (sss_cons (ss_set nd (i := 4) rfl (by first | exact .inl rfl | exact .inr rfl) (sc_call ⟨c.co, c.ro⟩ tk fx.i__law_side fx.g__law_side rfl rfl (sa_cons (se_var 0) (sa_cons (se_var 3) (sa_cons (se_callB len_sound rfl fx.f_len (by decide +kernel) (sa_cons (se_var 1) sa_nil)) (sa_cons (se_var 2) sa_nil))))))
      (sss_cons (ss_set nd (i := 5) rfl (by first | exact .inl rfl | exact .inr rfl) (sc_call ⟨c.co, c.ro⟩ tk fx.i__law_filled fx.g__law_filled rfl rfl (sa_cons (se_var 4) (sa_cons (se_var 1) sa_nil))))
      (sss_cons (ss_set nd (i := 6) rfl (by first | exact .inl rfl | exact .inr rfl) (se_lst sa_nil))
      (sss_cons (ss_for po rfl (si_rng1 rfl fx.f_range (sa_cons (se_bin add_sound (se_bin mulI_sound se_int (se_var 2)) se_int) sa_nil)) (sg_name nd (i := 7) rfl (by first | exact .inl rfl | exact .inr rfl))
      (sss_cons (ss_if (st_cmp (eq_sound (unR c.ro)) (se_callB len_sound rfl fx.f_len (by decide +kernel) (sa_cons (se_var 5) sa_nil)) se_int)
      (sss_one ss_break)
      sss_nil)
      (sss_cons (ss_setLc false rfl nd (i := 8) rfl rfl (sw_true rfl rfl rfl (by decide +kernel)) (si_rng1 rfl fx.f_range (sa_cons (se_callB len_sound rfl fx.f_len (by decide +kernel) (sa_cons (se_var 1) sa_nil)) sa_nil)) (own := [("_law_j", 9)]) (blkOk_by (by first | decide +kernel | kernel_rfl)) rfl (fun _ _ _ _ _ => (sgc_name nd (i := 9) rfl (by first | exact .inl rfl | exact .inr rfl) (by decide))) (fun _ _ _ _ _ => (spt_one (st_cmp (eq_sound (unR c.ro)) (se_slice (se_var 5) so_none (so_some (se_callB len_sound rfl fx.f_len (by decide +kernel) (sa_cons (se_ix ix_sound (se_var 1) (se_var 9)) sa_nil)))) (se_ix ix_sound (se_var 1) (se_var 9))))) (fun _ _ _ _ _ => (se_var 9)))
      (sss_one (ss_if (st_bool (sw_and (st_cmp gt_sound (se_callB len_sound rfl fx.f_len (by decide +kernel) (sa_cons (se_var 8) sa_nil)) se_int) (sw_and1 (st_cmp (eq_sound (unR c.ro)) (sc_call ⟨c.co, c.ro⟩ tk fx.i__law_take fx.g__law_take rfl rfl (sa_cons (se_var 0) (sa_cons se_int sa_nil))) se_int))))
      (sss_cons (ss_set nd (i := 9) rfl (by first | exact .inl rfl | exact .inr rfl) (sc_call ⟨c.co, c.ro⟩ tk fx.i__law_pick fx.g__law_pick rfl rfl (sa_cons (se_var 0) (sa_cons (se_var 8) sa_nil))))
      (sss_cons (ss_expr (se_append (se_var 6) (sa_cons (se_bin sub_sound (se_un neg_sound se_int) (se_var 9)) sa_nil)))
      (sss_one (ss_set nd (i := 5) rfl (by first | exact .inl rfl | exact .inr rfl) (se_slice (se_var 5) (so_some (se_callB len_sound rfl fx.f_len (by decide +kernel) (sa_cons (se_ix ix_sound (se_var 1) (se_var 9)) sa_nil))) so_none)))))
      (sss_cons (ss_expr (se_append (se_var 6) (sa_cons (se_ix ix_sound (se_var 5) se_int) sa_nil)))
      (sss_one (ss_set nd (i := 5) rfl (by first | exact .inl rfl | exact .inr rfl) (se_slice (se_var 5) (so_some se_int) so_none)))))))))
      (sss_one (ss_ret' (se_tup (sa_cons (se_var 4) (sa_cons (se_bin add_sound (se_callTy tuple_sound rfl fx.f_tuple (by decide +kernel) (sa_cons (se_var 6) sa_nil)) (se_var 5)) sa_nil)))))))))
theorem b__law_cut_row (fx : Fx K mg fd) : BodyOk P w K mg base (ct K) (fns K fd) ⟨He.fAd K d__law_cut_row.at_, fd 23, ["_law_source_here", "_law_texts_here", "_law_most", "_law_letters"]⟩ ⟨4, 10, false, m__law_cut_row⟩ :=
  ⟨_, "_law_cut_row", _, _, _, _, _, N__law_cut_row, fx.D__law_cut_row, sc__law_cut_row, rfl, rfl, by decide, fun call n co cdv A outer s H E hr => t__law_cut_row fx call n cdv A outer s H E ⟨co, hr⟩⟩
abbrev N__law_text_deed : List Str := ["_law_deeds", "_law_states", "_law_text", "_law_told", "_law_letter"]
theorem sc__law_text_deed : FnScope N__law_text_deed ["_law_deeds", "_law_states", "_law_text"] (defScope s__law_text_deed) := ⟨by kernel_rfl, by kernel_rfl, by kernel_rfl, by decide +kernel, rfl, by decide +kernel, by decide +kernel⟩
theorem t__law_text_deed (fx : Fx K mg fd) (call : CallT) (n : Nat) (cdv : Value) (A : Around) (outer : List Env) (s : Shared) (H : Hp) (E : XK) (c : Cq (cxOf (L2.CX P w) P w K mg base N__law_text_deed "_law_text_deed" (defScope s__law_text_deed) (He.fAd K d__law_text_deed.at_) cdv A outer s H E) (ct K) (fns K fd) call n) :
    SSs (cxOf (L2.CX P w) P w K mg base N__law_text_deed "_law_text_deed" (defScope s__law_text_deed) (He.fAd K d__law_text_deed.at_) cdv A outer s H E) (ct K) (fun c d _ H' => E c d H') (defBody s__law_text_deed) (m__law_text_deed call) := by
  have tk : Takes (cxOf (L2.CX P w) P w K mg base N__law_text_deed "_law_text_deed" (defScope s__law_text_deed) (He.fAd K d__law_text_deed.at_) cdv A outer s H E) (fun cls d _ H' => E cls d H') := takes_of rfl rfl rfl rfl
  have nd := sc__law_text_deed.nd
  have po : PassesOwn (model P w) (cxOf (L2.CX P w) P w K mg base N__law_text_deed "_law_text_deed" (defScope s__law_text_deed) (He.fAd K d__law_text_deed.at_) cdv A outer s H E).A (cxOf (L2.CX P w) P w K mg base N__law_text_deed "_law_text_deed" (defScope s__law_text_deed) (He.fAd K d__law_text_deed.at_) cdv A outer s H E).env (cxOf (L2.CX P w) P w K mg base N__law_text_deed "_law_text_deed" (defScope s__law_text_deed) (He.fAd K d__law_text_deed.at_) cdv A outer s H E).xe := passes_of rfl
  exact (sss_cons (ss_set nd (i := 3) rfl (by first | exact .inl rfl | exact .inr rfl) (se_tupR rfl rfl fx.f_tuple rfl fx.f_range (se_var 1)))
      (sss_cons (ss_for po rfl (si_seq (se_var 2)) (sg_name nd (i := 4) rfl (by first | exact .inl rfl | exact .inr rfl))
      (sss_one (ss_set nd (i := 3) rfl (by first | exact .inl rfl | exact .inr rfl) (sc_call ⟨c.co, c.ro⟩ tk fx.i__law_after fx.g__law_after rfl rfl (sa_cons (se_var 3) (sa_cons (se_ix ix_sound (se_var 0) (se_var 4)) sa_nil))))))
      (sss_one (ss_ret' (se_var 3)))))
theorem b__law_text_deed (fx : Fx K mg fd) : BodyOk P w K mg base (ct K) (fns K fd) ⟨He.fAd K d__law_text_deed.at_, fd 24, ["_law_deeds", "_law_states", "_law_text"]⟩ ⟨3, 5, false, m__law_text_deed⟩ :=
  ⟨_, "_law_text_deed", _, _, _, _, _, N__law_text_deed, fx.D__law_text_deed, sc__law_text_deed, rfl, rfl, by decide, fun call n co cdv A outer s H E hr => t__law_text_deed fx call n cdv A outer s H E ⟨co, hr⟩⟩
abbrev N__law_fits : List Str := ["_law_deeds", "_law_states", "_law_ends", "_law_text"]
theorem sc__law_fits : FnScope N__law_fits ["_law_deeds", "_law_states", "_law_ends", "_law_text"] (defScope s__law_fits) := ⟨by kernel_rfl, by kernel_rfl, by kernel_rfl, by decide +kernel, rfl, by decide +kernel, by decide +kernel⟩
theorem t__law_fits (fx : Fx K mg fd) (call : CallT) (n : Nat) (cdv : Value) (A : Around) (outer : List Env) (s : Shared) (H : Hp) (E : XK) (c : Cq (cxOf (L2.CX P w) P w K mg base N__law_fits "_law_fits" (defScope s__law_fits) (He.fAd K d__law_fits.at_) cdv A outer s H E) (ct K) (fns K fd) call n) :
    SSs (cxOf (L2.CX P w) P w K mg base N__law_fits "_law_fits" (defScope s__law_fits) (He.fAd K d__law_fits.at_) cdv A outer s H E) (ct K) (fun c d _ H' => E c d H') (defBody s__law_fits) (m__law_fits call) := by
  have tk : Takes (cxOf (L2.CX P w) P w K mg base N__law_fits "_law_fits" (defScope s__law_fits) (He.fAd K d__law_fits.at_) cdv A outer s H E) (fun cls d _ H' => E cls d H') := takes_of rfl rfl rfl rfl
  have nd := sc__law_fits.nd
  have po : PassesOwn (model P w) (cxOf (L2.CX P w) P w K mg base N__law_fits "_law_fits" (defScope s__law_fits) (He.fAd K d__law_fits.at_) cdv A outer s H E).A (cxOf (L2.CX P w) P w K mg base N__law_fits "_law_fits" (defScope s__law_fits) (He.fAd K d__law_fits.at_) cdv A outer s H E).env (cxOf (L2.CX P w) P w K mg base N__law_fits "_law_fits" (defScope s__law_fits) (He.fAd K d__law_fits.at_) cdv A outer s H E).xe := passes_of rfl
  exact (sss_one (ss_ret' (se_and (se_cmp gt_sound (se_callB len_sound rfl fx.f_len (by decide +kernel) (sa_cons (se_var 3) sa_nil)) se_int) (se_one (se_cmp inT_sound (se_ix ix_sound (sc_call ⟨c.co, c.ro⟩ tk fx.i__law_text_deed fx.g__law_text_deed rfl rfl (sa_cons (se_var 0) (sa_cons (se_var 1) (sa_cons (se_var 3) sa_nil)))) (se_ix ix_sound (se_var 2) se_int)) (se_ix ix_sound (se_var 2) se_int))))))
theorem b__law_fits (fx : Fx K mg fd) : BodyOk P w K mg base (ct K) (fns K fd) ⟨He.fAd K d__law_fits.at_, fd 25, ["_law_deeds", "_law_states", "_law_ends", "_law_text"]⟩ ⟨4, 4, false, m__law_fits⟩ :=
  ⟨_, "_law_fits", _, _, _, _, _, N__law_fits, fx.D__law_fits, sc__law_fits, rfl, rfl, by decide, fun call n co cdv A outer s H E hr => t__law_fits fx call n cdv A outer s H E ⟨co, hr⟩⟩
abbrev N__law_texts : List Str := ["_law_letters", "_law_most", "_law_told", "_law_layer", "_law_k", "_law_more", "_law_text", "_law_letter"]
theorem sc__law_texts : FnScope N__law_texts ["_law_letters", "_law_most"] (defScope s__law_texts) := ⟨by kernel_rfl, by kernel_rfl, by kernel_rfl, by decide +kernel, rfl, by decide +kernel, by decide +kernel⟩
theorem t__law_texts (fx : Fx K mg fd) (call : CallT) (n : Nat) (cdv : Value) (A : Around) (outer : List Env) (s : Shared) (H : Hp) (E : XK) (c : Cq (cxOf (L2.CX P w) P w K mg base N__law_texts "_law_texts" (defScope s__law_texts) (He.fAd K d__law_texts.at_) cdv A outer s H E) (ct K) (fns K fd) call n) :
    SSs (cxOf (L2.CX P w) P w K mg base N__law_texts "_law_texts" (defScope s__law_texts) (He.fAd K d__law_texts.at_) cdv A outer s H E) (ct K) (fun c d _ H' => E c d H') (defBody s__law_texts) (m__law_texts call) := by
  have tk : Takes (cxOf (L2.CX P w) P w K mg base N__law_texts "_law_texts" (defScope s__law_texts) (He.fAd K d__law_texts.at_) cdv A outer s H E) (fun cls d _ H' => E cls d H') := takes_of rfl rfl rfl rfl
  have nd := sc__law_texts.nd
  have po : PassesOwn (model P w) (cxOf (L2.CX P w) P w K mg base N__law_texts "_law_texts" (defScope s__law_texts) (He.fAd K d__law_texts.at_) cdv A outer s H E).A (cxOf (L2.CX P w) P w K mg base N__law_texts "_law_texts" (defScope s__law_texts) (He.fAd K d__law_texts.at_) cdv A outer s H E).env (cxOf (L2.CX P w) P w K mg base N__law_texts "_law_texts" (defScope s__law_texts) (He.fAd K d__law_texts.at_) cdv A outer s H E).xe := passes_of rfl
  exact (sss_cons (ss_set nd (i := 2) rfl (by first | exact .inl rfl | exact .inr rfl) (se_lst sa_nil))
      (sss_cons (ss_set nd (i := 3) rfl (by first | exact .inl rfl | exact .inr rfl) (se_lv (sa_cons (se_tup sa_nil) sa_nil)))
      (sss_cons (ss_for po rfl (si_rng1 rfl fx.f_range (sa_cons (se_var 1) sa_nil)) (sg_name nd (i := 4) rfl (by first | exact .inl rfl | exact .inr rfl))
      (sss_cons (ss_set nd (i := 5) rfl (by first | exact .inl rfl | exact .inr rfl) (se_lst sa_nil))
      (sss_cons (ss_for po rfl (si_seq (se_callTy listV_sound rfl fx.f_list (by decide +kernel) (sa_cons (se_var 3) sa_nil))) (sg_name nd (i := 6) rfl (by first | exact .inl rfl | exact .inr rfl))
      (sss_one (ss_expr (se_extend (se_var 5) (sa_cons (se_lc false rfl nd (si_rng1 rfl fx.f_range (sa_cons (se_var 0) sa_nil)) (own := [("_law_letter", 7)]) (blkOk_by (by first | decide +kernel | kernel_rfl)) rfl (fun _ _ _ _ _ => (sgc_name nd (i := 7) rfl (by first | exact .inl rfl | exact .inr rfl) (by decide))) (fun _ _ _ _ _ => spt_nil) (fun _ _ _ _ _ => (se_bin add_sound (se_var 6) (se_tup (sa_cons (se_var 7) sa_nil))))) sa_nil)))))
      (sss_frz (i := 5) (sss_cons (ss_set nd (i := 3) rfl (by first | exact .inl rfl | exact .inr rfl) (se_var 5))
      (sss_one (ss_expr (se_extend (se_var 2) (sa_cons (se_var 5) sa_nil)))))))))
      (sss_one (ss_ret' (se_var 2))))))
theorem b__law_texts (fx : Fx K mg fd) : BodyOk P w K mg base (ct K) (fns K fd) ⟨He.fAd K d__law_texts.at_, fd 26, ["_law_letters", "_law_most"]⟩ ⟨2, 8, false, m__law_texts⟩ :=
  ⟨_, "_law_texts", _, _, _, _, _, N__law_texts, fx.D__law_texts, sc__law_texts, rfl, rfl, by decide, fun call n co cdv A outer s H E hr => t__law_texts fx call n cdv A outer s H E ⟨co, hr⟩⟩
abbrev N__law_rows_hold : List Str := ["_law_rows", "_law_texts_here", "_law_left", "_law_right"]
theorem sc__law_rows_hold : FnScope N__law_rows_hold ["_law_rows", "_law_texts_here"] (defScope s__law_rows_hold) := ⟨by kernel_rfl, by kernel_rfl, by kernel_rfl, by decide +kernel, rfl, by decide +kernel, by decide +kernel⟩
theorem t__law_rows_hold (fx : Fx K mg fd) (call : CallT) (n : Nat) (cdv : Value) (A : Around) (outer : List Env) (s : Shared) (H : Hp) (E : XK) (c : Cq (cxOf (L2.CX P w) P w K mg base N__law_rows_hold "_law_rows_hold" (defScope s__law_rows_hold) (He.fAd K d__law_rows_hold.at_) cdv A outer s H E) (ct K) (fns K fd) call n) :
    SSs (cxOf (L2.CX P w) P w K mg base N__law_rows_hold "_law_rows_hold" (defScope s__law_rows_hold) (He.fAd K d__law_rows_hold.at_) cdv A outer s H E) (ct K) (fun c d _ H' => E c d H') (defBody s__law_rows_hold) (m__law_rows_hold call) := by
  have tk : Takes (cxOf (L2.CX P w) P w K mg base N__law_rows_hold "_law_rows_hold" (defScope s__law_rows_hold) (He.fAd K d__law_rows_hold.at_) cdv A outer s H E) (fun cls d _ H' => E cls d H') := takes_of rfl rfl rfl rfl
  have nd := sc__law_rows_hold.nd
  have po : PassesOwn (model P w) (cxOf (L2.CX P w) P w K mg base N__law_rows_hold "_law_rows_hold" (defScope s__law_rows_hold) (He.fAd K d__law_rows_hold.at_) cdv A outer s H E).A (cxOf (L2.CX P w) P w K mg base N__law_rows_hold "_law_rows_hold" (defScope s__law_rows_hold) (He.fAd K d__law_rows_hold.at_) cdv A outer s H E).env (cxOf (L2.CX P w) P w K mg base N__law_rows_hold "_law_rows_hold" (defScope s__law_rows_hold) (He.fAd K d__law_rows_hold.at_) cdv A outer s H E).xe := passes_of rfl
  exact (sss_cons (ss_for po rfl (si_seq (se_var 0)) (sg_tup rfl (sgs_cons (sg_name nd (i := 2) rfl (by first | exact .inl rfl | exact .inr rfl)) (sgs_cons (sg_name nd (i := 3) rfl (by first | exact .inl rfl | exact .inr rfl)) sgs_nil)))
      (sss_one (ss_if (st_cmp (ne_sound (unR c.ro)) (sc_call ⟨c.co, c.ro⟩ tk fx.i__law_filled fx.g__law_filled rfl rfl (sa_cons (se_var 2) (sa_cons (se_var 1) sa_nil))) (sc_call ⟨c.co, c.ro⟩ tk fx.i__law_filled fx.g__law_filled rfl rfl (sa_cons (se_var 3) (sa_cons (se_var 1) sa_nil))))
      (sss_one (ss_ret' se_bl))
      sss_nil)))
      (sss_one (ss_ret' se_bl)))
theorem b__law_rows_hold (fx : Fx K mg fd) : BodyOk P w K mg base (ct K) (fns K fd) ⟨He.fAd K d__law_rows_hold.at_, fd 27, ["_law_rows", "_law_texts_here"]⟩ ⟨2, 4, false, m__law_rows_hold⟩ :=
  ⟨_, "_law_rows_hold", _, _, _, _, _, N__law_rows_hold, fx.D__law_rows_hold, sc__law_rows_hold, rfl, rfl, by decide, fun call n co cdv A outer s H E hr => t__law_rows_hold fx call n cdv A outer s H E ⟨co, hr⟩⟩
abbrev N__law_fillings : List Str := ["_law_rows", "_law_deeds", "_law_ends", "_law_states", "_law_most", "_law_lists", "_law_one", "_law_told", "_law_texts_here", "_law_more", "_law_had", "_law_text"]
theorem sc__law_fillings : FnScope N__law_fillings ["_law_rows", "_law_deeds", "_law_ends", "_law_states", "_law_most"] (defScope s__law_fillings) := ⟨by kernel_rfl, by kernel_rfl, by kernel_rfl, by decide +kernel, rfl, by decide +kernel, by decide +kernel⟩
theorem t__law_fillings (fx : Fx K mg fd) (call : CallT) (n : Nat) (cdv : Value) (A : Around) (outer : List Env) (s : Shared) (H : Hp) (E : XK) (c : Cq (cxOf (L2.CX P w) P w K mg base N__law_fillings "_law_fillings" (defScope s__law_fillings) (He.fAd K d__law_fillings.at_) cdv A outer s H E) (ct K) (fns K fd) call n) :
    SSs (cxOf (L2.CX P w) P w K mg base N__law_fillings "_law_fillings" (defScope s__law_fillings) (He.fAd K d__law_fillings.at_) cdv A outer s H E) (ct K) (fun c d _ H' => E c d H') (defBody s__law_fillings) (m__law_fillings call) := by
  have tk : Takes (cxOf (L2.CX P w) P w K mg base N__law_fillings "_law_fillings" (defScope s__law_fillings) (He.fAd K d__law_fillings.at_) cdv A outer s H E) (fun cls d _ H' => E cls d H') := takes_of rfl rfl rfl rfl
  have nd := sc__law_fillings.nd
  have po : PassesOwn (model P w) (cxOf (L2.CX P w) P w K mg base N__law_fillings "_law_fillings" (defScope s__law_fillings) (He.fAd K d__law_fillings.at_) cdv A outer s H E).A (cxOf (L2.CX P w) P w K mg base N__law_fillings "_law_fillings" (defScope s__law_fillings) (He.fAd K d__law_fillings.at_) cdv A outer s H E).env (cxOf (L2.CX P w) P w K mg base N__law_fillings "_law_fillings" (defScope s__law_fillings) (He.fAd K d__law_fillings.at_) cdv A outer s H E).xe := passes_of rfl
  exact (sss_cons (ss_set nd (i := 5) rfl (by first | exact .inl rfl | exact .inr rfl) (se_lst sa_nil))
      (sss_cons (ss_for po rfl (si_seq (se_var 2)) (sg_name nd (i := 6) rfl (by first | exact .inl rfl | exact .inr rfl))
      (sss_one (ss_expr (se_append (se_var 5) (sa_cons (se_lc false rfl nd (si_seq (sc_call ⟨c.co, c.ro⟩ tk fx.i__law_texts fx.g__law_texts rfl rfl (sa_cons (se_callB len_sound rfl fx.f_len (by decide +kernel) (sa_cons (se_var 1) sa_nil)) (sa_cons (se_var 4) sa_nil)))) (own := [("_law_text", 11)]) (blkOk_by (by first | decide +kernel | kernel_rfl)) rfl (fun _ _ _ _ _ => (sgc_name nd (i := 11) rfl (by first | exact .inl rfl | exact .inr rfl) (by decide))) (fun _ _ _ _ _ => (spt_one (st_truth (sc_call ⟨c.co, c.ro⟩ takesW fx.i__law_fits fx.g__law_fits rfl rfl (sa_cons (se_var 1) (sa_cons (se_var 3) (sa_cons (se_var 6) (sa_cons (se_var 11) sa_nil)))))))) (fun _ _ _ _ _ => (se_var 11))) sa_nil)))))
      (sss_frz (i := 5) (sss_cons (ss_set nd (i := 7) rfl (by first | exact .inl rfl | exact .inr rfl) (se_lv (sa_cons (se_tup sa_nil) sa_nil)))
      (sss_cons (ss_for po rfl (si_seq (se_var 5)) (sg_name nd (i := 8) rfl (by first | exact .inl rfl | exact .inr rfl))
      (sss_cons (ss_set nd (i := 9) rfl (by first | exact .inl rfl | exact .inr rfl) (se_lst sa_nil))
      (sss_cons (ss_for po rfl (si_seq (se_callTy listV_sound rfl fx.f_list (by decide +kernel) (sa_cons (se_var 7) sa_nil))) (sg_name nd (i := 10) rfl (by first | exact .inl rfl | exact .inr rfl))
      (sss_one (ss_expr (se_extend (se_var 9) (sa_cons (se_lc false rfl nd (si_seq (se_var 8)) (own := [("_law_text", 11)]) (blkOk_by (by first | decide +kernel | kernel_rfl)) rfl (fun _ _ _ _ _ => (sgc_name nd (i := 11) rfl (by first | exact .inl rfl | exact .inr rfl) (by decide))) (fun _ _ _ _ _ => spt_nil) (fun _ _ _ _ _ => (se_bin add_sound (se_var 10) (se_tup (sa_cons (se_var 11) sa_nil))))) sa_nil)))))
      (sss_frz (i := 9) (sss_one (ss_set nd (i := 7) rfl (by first | exact .inl rfl | exact .inr rfl) (se_var 9)))))))
      (sss_one (ss_ret' (se_lc false rfl nd (si_seq (se_var 7)) (own := [("_law_had", 10)]) (blkOk_by (by first | decide +kernel | kernel_rfl)) rfl (fun _ _ _ _ _ => (sgc_name nd (i := 10) rfl (by first | exact .inl rfl | exact .inr rfl) (by decide))) (fun _ _ _ _ _ => (spt_one (st_truth (sc_call ⟨c.co, c.ro⟩ takesW fx.i__law_rows_hold fx.g__law_rows_hold rfl rfl (sa_cons (se_var 0) (sa_cons (se_var 10) sa_nil)))))) (fun _ _ _ _ _ => (se_var 10))))))))))
theorem b__law_fillings (fx : Fx K mg fd) : BodyOk P w K mg base (ct K) (fns K fd) ⟨He.fAd K d__law_fillings.at_, fd 28, ["_law_rows", "_law_deeds", "_law_ends", "_law_states", "_law_most"]⟩ ⟨5, 12, false, m__law_fillings⟩ :=
  ⟨_, "_law_fillings", _, _, _, _, _, N__law_fillings, fx.D__law_fillings, sc__law_fillings, rfl, rfl, by decide, fun call n co cdv A outer s H E hr => t__law_fillings fx call n cdv A outer s H E ⟨co, hr⟩⟩
abbrev N__law_strip : List Str := ["_law_left", "_law_right"]
theorem sc__law_strip : FnScope N__law_strip ["_law_left", "_law_right"] (defScope s__law_strip) := ⟨by kernel_rfl, by kernel_rfl, by kernel_rfl, by decide +kernel, rfl, by decide +kernel, by decide +kernel⟩
theorem t__law_strip (fx : Fx K mg fd) (call : CallT) (n : Nat) (cdv : Value) (A : Around) (outer : List Env) (s : Shared) (H : Hp) (E : XK) (c : Cq (cxOf (L2.CX P w) P w K mg base N__law_strip "_law_strip" (defScope s__law_strip) (He.fAd K d__law_strip.at_) cdv A outer s H E) (ct K) (fns K fd) call n) :
    SSs (cxOf (L2.CX P w) P w K mg base N__law_strip "_law_strip" (defScope s__law_strip) (He.fAd K d__law_strip.at_) cdv A outer s H E) (ct K) (fun c d _ H' => E c d H') (defBody s__law_strip) (m__law_strip call) := by
  have tk : Takes (cxOf (L2.CX P w) P w K mg base N__law_strip "_law_strip" (defScope s__law_strip) (He.fAd K d__law_strip.at_) cdv A outer s H E) (fun cls d _ H' => E cls d H') := takes_of rfl rfl rfl rfl
  have nd := sc__law_strip.nd
  have po : PassesOwn (model P w) (cxOf (L2.CX P w) P w K mg base N__law_strip "_law_strip" (defScope s__law_strip) (He.fAd K d__law_strip.at_) cdv A outer s H E).A (cxOf (L2.CX P w) P w K mg base N__law_strip "_law_strip" (defScope s__law_strip) (He.fAd K d__law_strip.at_) cdv A outer s H E).env (cxOf (L2.CX P w) P w K mg base N__law_strip "_law_strip" (defScope s__law_strip) (He.fAd K d__law_strip.at_) cdv A outer s H E).xe := passes_of rfl
  exact (sss_cons (ss_while po (st_bool (sw_and (st_cmp gt_sound (se_callB len_sound rfl fx.f_len (by decide +kernel) (sa_cons (se_var 0) sa_nil)) se_int) (sw_and (st_cmp gt_sound (se_callB len_sound rfl fx.f_len (by decide +kernel) (sa_cons (se_var 1) sa_nil)) se_int) (sw_and1 (st_cmp (eq_sound (unR c.ro)) (se_ix ix_sound (se_var 0) se_int) (se_ix ix_sound (se_var 1) se_int))))))
      (sss_cons (ss_set nd (i := 0) rfl (by first | exact .inl rfl | exact .inr rfl) (se_slice (se_var 0) (so_some se_int) so_none))
      (sss_one (ss_set nd (i := 1) rfl (by first | exact .inl rfl | exact .inr rfl) (se_slice (se_var 1) (so_some se_int) so_none)))))
      (sss_cons (ss_while po (st_bool (sw_and (st_cmp gt_sound (se_callB len_sound rfl fx.f_len (by decide +kernel) (sa_cons (se_var 0) sa_nil)) se_int) (sw_and (st_cmp gt_sound (se_callB len_sound rfl fx.f_len (by decide +kernel) (sa_cons (se_var 1) sa_nil)) se_int) (sw_and1 (st_cmp (eq_sound (unR c.ro)) (se_ix ix_sound (se_var 0) (se_bin sub_sound (se_callB len_sound rfl fx.f_len (by decide +kernel) (sa_cons (se_var 0) sa_nil)) se_int)) (se_ix ix_sound (se_var 1) (se_bin sub_sound (se_callB len_sound rfl fx.f_len (by decide +kernel) (sa_cons (se_var 1) sa_nil)) se_int)))))))
      (sss_cons (ss_set nd (i := 0) rfl (by first | exact .inl rfl | exact .inr rfl) (se_slice (se_var 0) so_none (so_some (se_bin sub_sound (se_callB len_sound rfl fx.f_len (by decide +kernel) (sa_cons (se_var 0) sa_nil)) se_int))))
      (sss_one (ss_set nd (i := 1) rfl (by first | exact .inl rfl | exact .inr rfl) (se_slice (se_var 1) so_none (so_some (se_bin sub_sound (se_callB len_sound rfl fx.f_len (by decide +kernel) (sa_cons (se_var 1) sa_nil)) se_int)))))))
      (sss_one (ss_ret' (se_tup (sa_cons (se_var 0) (sa_cons (se_var 1) sa_nil)))))))
theorem b__law_strip (fx : Fx K mg fd) : BodyOk P w K mg base (ct K) (fns K fd) ⟨He.fAd K d__law_strip.at_, fd 29, ["_law_left", "_law_right"]⟩ ⟨2, 2, false, m__law_strip⟩ :=
  ⟨_, "_law_strip", _, _, _, _, _, N__law_strip, fx.D__law_strip, sc__law_strip, rfl, rfl, by decide, fun call n co cdv A outer s H E hr => t__law_strip fx call n cdv A outer s H E ⟨co, hr⟩⟩
abbrev N__law_tidy : List Str := ["_law_rows", "_law_told", "_law_at", "_law_left", "_law_right"]
theorem sc__law_tidy : FnScope N__law_tidy ["_law_rows"] (defScope s__law_tidy) := ⟨by kernel_rfl, by kernel_rfl, by kernel_rfl, by decide +kernel, rfl, by decide +kernel, by decide +kernel⟩
theorem t__law_tidy (fx : Fx K mg fd) (call : CallT) (n : Nat) (cdv : Value) (A : Around) (outer : List Env) (s : Shared) (H : Hp) (E : XK) (c : Cq (cxOf (L2.CX P w) P w K mg base N__law_tidy "_law_tidy" (defScope s__law_tidy) (He.fAd K d__law_tidy.at_) cdv A outer s H E) (ct K) (fns K fd) call n) :
    SSs (cxOf (L2.CX P w) P w K mg base N__law_tidy "_law_tidy" (defScope s__law_tidy) (He.fAd K d__law_tidy.at_) cdv A outer s H E) (ct K) (fun c d _ H' => E c d H') (defBody s__law_tidy) (m__law_tidy call) := by
  have tk : Takes (cxOf (L2.CX P w) P w K mg base N__law_tidy "_law_tidy" (defScope s__law_tidy) (He.fAd K d__law_tidy.at_) cdv A outer s H E) (fun cls d _ H' => E cls d H') := takes_of rfl rfl rfl rfl
  have nd := sc__law_tidy.nd
  have po : PassesOwn (model P w) (cxOf (L2.CX P w) P w K mg base N__law_tidy "_law_tidy" (defScope s__law_tidy) (He.fAd K d__law_tidy.at_) cdv A outer s H E).A (cxOf (L2.CX P w) P w K mg base N__law_tidy "_law_tidy" (defScope s__law_tidy) (He.fAd K d__law_tidy.at_) cdv A outer s H E).env (cxOf (L2.CX P w) P w K mg base N__law_tidy "_law_tidy" (defScope s__law_tidy) (He.fAd K d__law_tidy.at_) cdv A outer s H E).xe := passes_of rfl
  exact (sss_cons (ss_set nd (i := 1) rfl (by first | exact .inl rfl | exact .inr rfl) (se_lst sa_nil))
      (sss_cons (ss_for po rfl (si_rng1 rfl fx.f_range (sa_cons (se_callB len_sound rfl fx.f_len (by decide +kernel) (sa_cons (se_var 0) sa_nil)) sa_nil)) (sg_name nd (i := 2) rfl (by first | exact .inl rfl | exact .inr rfl))
      (sss_cons (ss_asg (sc_call ⟨c.co, c.ro⟩ tk fx.i__law_strip fx.g__law_strip rfl rfl (sa_cons (se_ix ix_sound (se_ix ix_sound (se_var 0) (se_var 2)) se_int) (sa_cons (se_ix ix_sound (se_ix ix_sound (se_var 0) (se_var 2)) se_int) sa_nil))) (sg_tup rfl (sgs_cons (sg_name nd (i := 3) rfl (by first | exact .inl rfl | exact .inr rfl)) (sgs_cons (sg_name nd (i := 4) rfl (by first | exact .inl rfl | exact .inr rfl)) sgs_nil))))
      (sss_cons (ss_if (st_bool (sw_and (st_cmp (eq_sound (unR c.ro)) (se_callB len_sound rfl fx.f_len (by decide +kernel) (sa_cons (se_var 3) sa_nil)) se_int) (sw_and1 (st_cmp (eq_sound (unR c.ro)) (se_callB len_sound rfl fx.f_len (by decide +kernel) (sa_cons (se_var 4) sa_nil)) se_int))))
      (sss_one ss_continue)
      sss_nil)
      (sss_cons (ss_if (st_bool (sw_or (st_cmp (eq_sound (unR c.ro)) (se_callB len_sound rfl fx.f_len (by decide +kernel) (sa_cons (se_var 3) sa_nil)) se_int) (sw_or1 (st_cmp (eq_sound (unR c.ro)) (se_callB len_sound rfl fx.f_len (by decide +kernel) (sa_cons (se_var 4) sa_nil)) se_int))))
      (sss_one (ss_ret' (se_tup (sa_cons se_str (sa_cons (se_var 2) sa_nil)))))
      sss_nil)
      (sss_cons (ss_if (st_bool (sw_and (st_cmp ge_sound (se_ix ix_sound (se_var 3) se_int) se_int) (sw_and1 (st_cmp ge_sound (se_ix ix_sound (se_var 4) se_int) se_int))))
      (sss_one (ss_ret' (se_tup (sa_cons se_str (sa_cons (se_var 2) sa_nil)))))
      sss_nil)
      (sss_cons (ss_if (st_bool (sw_and (st_cmp ge_sound (se_ix ix_sound (se_var 3) (se_bin sub_sound (se_callB len_sound rfl fx.f_len (by decide +kernel) (sa_cons (se_var 3) sa_nil)) se_int)) se_int) (sw_and1 (st_cmp ge_sound (se_ix ix_sound (se_var 4) (se_bin sub_sound (se_callB len_sound rfl fx.f_len (by decide +kernel) (sa_cons (se_var 4) sa_nil)) se_int)) se_int))))
      (sss_one (ss_ret' (se_tup (sa_cons se_str (sa_cons (se_var 2) sa_nil)))))
      sss_nil)
      (sss_one (ss_expr (se_append (se_var 1) (sa_cons (se_tup (sa_cons (se_var 3) (sa_cons (se_var 4) sa_nil))) sa_nil))))))))))
      (sss_one (ss_ret' (se_var 1)))))
theorem b__law_tidy (fx : Fx K mg fd) : BodyOk P w K mg base (ct K) (fns K fd) ⟨He.fAd K d__law_tidy.at_, fd 30, ["_law_rows"]⟩ ⟨1, 5, false, m__law_tidy⟩ :=
  ⟨_, "_law_tidy", _, _, _, _, _, N__law_tidy, fx.D__law_tidy, sc__law_tidy, rfl, rfl, by decide, fun call n co cdv A outer s H E hr => t__law_tidy fx call n cdv A outer s H E ⟨co, hr⟩⟩
abbrev N__law_lots : List Str := ["_law_source_here", "_law_moves_here", "_law_many", "_law_told", "_law_k", "_law_places", "_law_j"]
theorem sc__law_lots : FnScope N__law_lots ["_law_source_here", "_law_moves_here", "_law_many"] (defScope s__law_lots) := ⟨by kernel_rfl, by kernel_rfl, by kernel_rfl, by decide +kernel, rfl, by decide +kernel, by decide +kernel⟩
theorem t__law_lots (fx : Fx K mg fd) (call : CallT) (n : Nat) (cdv : Value) (A : Around) (outer : List Env) (s : Shared) (H : Hp) (E : XK) (c : Cq (cxOf (L2.CX P w) P w K mg base N__law_lots "_law_lots" (defScope s__law_lots) (He.fAd K d__law_lots.at_) cdv A outer s H E) (ct K) (fns K fd) call n) :
    SSs (cxOf (L2.CX P w) P w K mg base N__law_lots "_law_lots" (defScope s__law_lots) (He.fAd K d__law_lots.at_) cdv A outer s H E) (ct K) (fun c d _ H' => E c d H') (defBody s__law_lots) (m__law_lots call) := by
  have tk : Takes (cxOf (L2.CX P w) P w K mg base N__law_lots "_law_lots" (defScope s__law_lots) (He.fAd K d__law_lots.at_) cdv A outer s H E) (fun cls d _ H' => E cls d H') := takes_of rfl rfl rfl rfl
  have nd := sc__law_lots.nd
  have po : PassesOwn (model P w) (cxOf (L2.CX P w) P w K mg base N__law_lots "_law_lots" (defScope s__law_lots) (He.fAd K d__law_lots.at_) cdv A outer s H E).A (cxOf (L2.CX P w) P w K mg base N__law_lots "_law_lots" (defScope s__law_lots) (He.fAd K d__law_lots.at_) cdv A outer s H E).env (cxOf (L2.CX P w) P w K mg base N__law_lots "_law_lots" (defScope s__law_lots) (He.fAd K d__law_lots.at_) cdv A outer s H E).xe := passes_of rfl
  exact (sss_cons (ss_set nd (i := 3) rfl (by first | exact .inl rfl | exact .inr rfl) (se_lst sa_nil))
      (sss_cons (ss_for po rfl (si_rng1 rfl fx.f_range (sa_cons (se_var 2) sa_nil)) (sg_name nd (i := 4) rfl (by first | exact .inl rfl | exact .inr rfl))
      (sss_cons (ss_setLc false rfl nd (i := 5) rfl rfl (sw_true rfl rfl rfl (by decide +kernel)) (si_rng1 rfl fx.f_range (sa_cons (se_bin add_sound se_int (sc_call ⟨c.co, c.ro⟩ tk fx.i__law_take fx.g__law_take rfl rfl (sa_cons (se_var 0) (sa_cons se_int sa_nil)))) sa_nil)) (own := [("_law_j", 6)]) (blkOk_by (by first | decide +kernel | kernel_rfl)) rfl (fun _ _ _ _ _ => (sgc_name nd (i := 6) rfl (by first | exact .inl rfl | exact .inr rfl) (by decide))) (fun _ _ _ _ _ => spt_nil) (fun _ _ _ _ _ => (sc_call ⟨c.co, c.ro⟩ takesW fx.i__law_take fx.g__law_take rfl rfl (sa_cons (se_var 0) (sa_cons (se_callB len_sound rfl fx.f_len (by decide +kernel) (sa_cons (se_ix ix_sound (se_var 1) se_int) sa_nil)) sa_nil)))))
      (sss_one (ss_expr (se_append (se_var 3) (sa_cons (sc_call ⟨c.co, c.ro⟩ tk fx.i__law_deed fx.g__law_deed rfl rfl (sa_cons (se_var 1) (sa_cons (se_var 5) sa_nil))) sa_nil))))))
      (sss_one (ss_ret' (se_var 3)))))
theorem b__law_lots (fx : Fx K mg fd) : BodyOk P w K mg base (ct K) (fns K fd) ⟨He.fAd K d__law_lots.at_, fd 31, ["_law_source_here", "_law_moves_here", "_law_many"]⟩ ⟨3, 7, false, m__law_lots⟩ :=
  ⟨_, "_law_lots", _, _, _, _, _, N__law_lots, fx.D__law_lots, sc__law_lots, rfl, rfl, by decide, fun call n co cdv A outer s H E hr => t__law_lots fx call n cdv A outer s H E ⟨co, hr⟩⟩
abbrev N__law_end_states : List Str := ["_law_source_here", "_law_states", "_law_start", "_law_s"]
theorem sc__law_end_states : FnScope N__law_end_states ["_law_source_here", "_law_states"] (defScope s__law_end_states) := ⟨by kernel_rfl, by kernel_rfl, by kernel_rfl, by decide +kernel, rfl, by decide +kernel, by decide +kernel⟩
theorem t__law_end_states (fx : Fx K mg fd) (call : CallT) (n : Nat) (cdv : Value) (A : Around) (outer : List Env) (s : Shared) (H : Hp) (E : XK) (c : Cq (cxOf (L2.CX P w) P w K mg base N__law_end_states "_law_end_states" (defScope s__law_end_states) (He.fAd K d__law_end_states.at_) cdv A outer s H E) (ct K) (fns K fd) call n) :
    SSs (cxOf (L2.CX P w) P w K mg base N__law_end_states "_law_end_states" (defScope s__law_end_states) (He.fAd K d__law_end_states.at_) cdv A outer s H E) (ct K) (fun c d _ H' => E c d H') (defBody s__law_end_states) (m__law_end_states call) := by
  have tk : Takes (cxOf (L2.CX P w) P w K mg base N__law_end_states "_law_end_states" (defScope s__law_end_states) (He.fAd K d__law_end_states.at_) cdv A outer s H E) (fun cls d _ H' => E cls d H') := takes_of rfl rfl rfl rfl
  have nd := sc__law_end_states.nd
  have po : PassesOwn (model P w) (cxOf (L2.CX P w) P w K mg base N__law_end_states "_law_end_states" (defScope s__law_end_states) (He.fAd K d__law_end_states.at_) cdv A outer s H E).A (cxOf (L2.CX P w) P w K mg base N__law_end_states "_law_end_states" (defScope s__law_end_states) (He.fAd K d__law_end_states.at_) cdv A outer s H E).env (cxOf (L2.CX P w) P w K mg base N__law_end_states "_law_end_states" (defScope s__law_end_states) (He.fAd K d__law_end_states.at_) cdv A outer s H E).xe := passes_of rfl
  exact (sss_cons (ss_set nd (i := 2) rfl (by first | exact .inl rfl | exact .inr rfl) (sc_call ⟨c.co, c.ro⟩ tk fx.i__law_take fx.g__law_take rfl rfl (sa_cons (se_var 0) (sa_cons (se_var 1) sa_nil))))
      (sss_cons (ss_if (st_cmp (eq_sound (unR c.ro)) (sc_call ⟨c.co, c.ro⟩ tk fx.i__law_take fx.g__law_take rfl rfl (sa_cons (se_var 0) (sa_cons se_int sa_nil))) se_int)
      (sss_one (ss_ret' (se_tup (sa_cons (se_var 2) (sa_cons (se_tupR rfl rfl fx.f_tuple rfl fx.f_range (se_var 1)) sa_nil)))))
      sss_nil)
      (sss_one (ss_ret' (se_tup (sa_cons (se_var 2) (sa_cons (se_callTy tuple_sound rfl fx.f_tuple (by decide +kernel) (sa_cons (se_lc false rfl nd (si_rng1 rfl fx.f_range (sa_cons (se_var 1) sa_nil)) (own := [("_law_s", 3)]) (blkOk_by (by first | decide +kernel | kernel_rfl)) rfl (fun _ _ _ _ _ => (sgc_name nd (i := 3) rfl (by first | exact .inl rfl | exact .inr rfl) (by decide))) (fun _ _ _ _ _ => (spt_one (st_cmp gt_sound (sc_call ⟨c.co, c.ro⟩ takesW fx.i__law_take fx.g__law_take rfl rfl (sa_cons (se_var 0) (sa_cons se_int sa_nil))) se_int))) (fun _ _ _ _ _ => (se_var 3))) sa_nil)) sa_nil)))))))
theorem b__law_end_states (fx : Fx K mg fd) : BodyOk P w K mg base (ct K) (fns K fd) ⟨He.fAd K d__law_end_states.at_, fd 32, ["_law_source_here", "_law_states"]⟩ ⟨2, 4, false, m__law_end_states⟩ :=
  ⟨_, "_law_end_states", _, _, _, _, _, N__law_end_states, fx.D__law_end_states, sc__law_end_states, rfl, rfl, by decide, fun call n co cdv A outer s H E hr => t__law_end_states fx call n cdv A outer s H E ⟨co, hr⟩⟩
abbrev N__law_draw_rows : List Str := ["_law_source_here", "_law_letters", "_law_unknowns", "_law_texts_here", "_law_way", "_law_rows", "_law_k", "_law_left", "_law_right", "_law_front", "_law_back"]
theorem sc__law_draw_rows : FnScope N__law_draw_rows ["_law_source_here", "_law_letters", "_law_unknowns", "_law_texts_here"] (defScope s__law_draw_rows) := ⟨by kernel_rfl, by kernel_rfl, by kernel_rfl, by decide +kernel, rfl, by decide +kernel, by decide +kernel⟩
theorem t__law_draw_rows (fx : Fx K mg fd) (call : CallT) (n : Nat) (cdv : Value) (A : Around) (outer : List Env) (s : Shared) (H : Hp) (E : XK) (c : Cq (cxOf (L2.CX P w) P w K mg base N__law_draw_rows "_law_draw_rows" (defScope s__law_draw_rows) (He.fAd K d__law_draw_rows.at_) cdv A outer s H E) (ct K) (fns K fd) call n) :
    SSs (cxOf (L2.CX P w) P w K mg base N__law_draw_rows "_law_draw_rows" (defScope s__law_draw_rows) (He.fAd K d__law_draw_rows.at_) cdv A outer s H E) (ct K) (fun c d _ H' => E c d H') (defBody s__law_draw_rows) (m__law_draw_rows call) := by
  have tk : Takes (cxOf (L2.CX P w) P w K mg base N__law_draw_rows "_law_draw_rows" (defScope s__law_draw_rows) (He.fAd K d__law_draw_rows.at_) cdv A outer s H E) (fun cls d _ H' => E cls d H') := takes_of rfl rfl rfl rfl
  have nd := sc__law_draw_rows.nd
  have po : PassesOwn (model P w) (cxOf (L2.CX P w) P w K mg base N__law_draw_rows "_law_draw_rows" (defScope s__law_draw_rows) (He.fAd K d__law_draw_rows.at_) cdv A outer s H E).A (cxOf (L2.CX P w) P w K mg base N__law_draw_rows "_law_draw_rows" (defScope s__law_draw_rows) (He.fAd K d__law_draw_rows.at_) cdv A outer s H E).env (cxOf (L2.CX P w) P w K mg base N__law_draw_rows "_law_draw_rows" (defScope s__law_draw_rows) (He.fAd K d__law_draw_rows.at_) cdv A outer s H E).xe := passes_of rfl
  exact (sss_cons (ss_set nd (i := 4) rfl (by first | exact .inl rfl | exact .inr rfl) (sc_call ⟨c.co, c.ro⟩ tk fx.i__law_take fx.g__law_take rfl rfl (sa_cons (se_var 0) (sa_cons se_int sa_nil))))
      (sss_cons (ss_set nd (i := 5) rfl (by first | exact .inl rfl | exact .inr rfl) (se_lst sa_nil))
      (sss_cons (ss_for po rfl (si_rng1 rfl fx.f_range (sa_cons (se_bin add_sound se_int (sc_call ⟨c.co, c.ro⟩ tk fx.i__law_take fx.g__law_take rfl rfl (sa_cons (se_var 0) (sa_cons se_int sa_nil)))) sa_nil)) (sg_name nd (i := 6) rfl (by first | exact .inl rfl | exact .inr rfl))
      (sss_one (ss_if (st_cmp (eq_sound (unR c.ro)) (se_var 4) se_int)
      (sss_one (ss_expr (se_append (se_var 5) (sa_cons (sc_call ⟨c.co, c.ro⟩ tk fx.i__law_cut_row fx.g__law_cut_row rfl rfl (sa_cons (se_var 0) (sa_cons (se_var 3) (sa_cons se_int (sa_cons (se_var 1) sa_nil))))) sa_nil))))
      (sss_cons (ss_set nd (i := 7) rfl (by first | exact .inl rfl | exact .inr rfl) (sc_call ⟨c.co, c.ro⟩ tk fx.i__law_side fx.g__law_side rfl rfl (sa_cons (se_var 0) (sa_cons (se_var 1) (sa_cons (se_var 2) (sa_cons se_int sa_nil))))))
      (sss_cons (ss_set nd (i := 8) rfl (by first | exact .inl rfl | exact .inr rfl) (sc_call ⟨c.co, c.ro⟩ tk fx.i__law_side fx.g__law_side rfl rfl (sa_cons (se_var 0) (sa_cons (se_var 1) (sa_cons (se_var 2) (sa_cons se_int sa_nil))))))
      (sss_cons (ss_set nd (i := 9) rfl (by first | exact .inl rfl | exact .inr rfl) (se_if (st_cmp (eq_sound (unR c.ro)) (se_var 4) se_int) (sc_call ⟨c.co, c.ro⟩ tk fx.i__law_side fx.g__law_side rfl rfl (sa_cons (se_var 0) (sa_cons (se_var 1) (sa_cons (se_var 2) (sa_cons se_int sa_nil))))) (se_tup sa_nil)))
      (sss_cons (ss_set nd (i := 10) rfl (by first | exact .inl rfl | exact .inr rfl) (se_if (st_cmp (eq_sound (unR c.ro)) (se_var 4) se_int) (sc_call ⟨c.co, c.ro⟩ tk fx.i__law_side fx.g__law_side rfl rfl (sa_cons (se_var 0) (sa_cons (se_var 1) (sa_cons (se_var 2) (sa_cons se_int sa_nil))))) (se_tup sa_nil)))
      (sss_one (ss_expr (se_append (se_var 5) (sa_cons (se_tup (sa_cons (se_bin add_sound (se_bin add_sound (se_var 9) (se_var 7)) (se_var 10)) (sa_cons (se_bin add_sound (se_bin add_sound (se_var 9) (se_var 8)) (se_var 10)) sa_nil))) sa_nil)))))))))))
      (sss_one (ss_ret' (se_var 5))))))
theorem b__law_draw_rows (fx : Fx K mg fd) : BodyOk P w K mg base (ct K) (fns K fd) ⟨He.fAd K d__law_draw_rows.at_, fd 33, ["_law_source_here", "_law_letters", "_law_unknowns", "_law_texts_here"]⟩ ⟨4, 11, false, m__law_draw_rows⟩ :=
  ⟨_, "_law_draw_rows", _, _, _, _, _, N__law_draw_rows, fx.D__law_draw_rows, sc__law_draw_rows, rfl, rfl, by decide, fun call n co cdv A outer s H E hr => t__law_draw_rows fx call n cdv A outer s H E ⟨co, hr⟩⟩
abbrev N__law_same_tidy : List Str := ["_law_book", "_law_told", "_law_rows", "_law_due"]
theorem sc__law_same_tidy : FnScope N__law_same_tidy ["_law_book", "_law_told", "_law_rows"] (defScope s__law_same_tidy) := ⟨by kernel_rfl, by kernel_rfl, by kernel_rfl, by decide +kernel, rfl, by decide +kernel, by decide +kernel⟩
theorem t__law_same_tidy (fx : Fx K mg fd) (call : CallT) (n : Nat) (cdv : Value) (A : Around) (outer : List Env) (s : Shared) (H : Hp) (E : XK) (c : Cq (cxOf (L2.CX P w) P w K mg base N__law_same_tidy "_law_same_tidy" (defScope s__law_same_tidy) (He.fAd K d__law_same_tidy.at_) cdv A outer s H E) (ct K) (fns K fd) call n) :
    SSs (cxOf (L2.CX P w) P w K mg base N__law_same_tidy "_law_same_tidy" (defScope s__law_same_tidy) (He.fAd K d__law_same_tidy.at_) cdv A outer s H E) (ct K) (fun c d _ H' => E c d H') (defBody s__law_same_tidy) (m__law_same_tidy call) := by
  have tk : Takes (cxOf (L2.CX P w) P w K mg base N__law_same_tidy "_law_same_tidy" (defScope s__law_same_tidy) (He.fAd K d__law_same_tidy.at_) cdv A outer s H E) (fun cls d _ H' => E cls d H') := takes_of rfl rfl rfl rfl
  have nd := sc__law_same_tidy.nd
  have po : PassesOwn (model P w) (cxOf (L2.CX P w) P w K mg base N__law_same_tidy "_law_same_tidy" (defScope s__law_same_tidy) (He.fAd K d__law_same_tidy.at_) cdv A outer s H E).A (cxOf (L2.CX P w) P w K mg base N__law_same_tidy "_law_same_tidy" (defScope s__law_same_tidy) (He.fAd K d__law_same_tidy.at_) cdv A outer s H E).env (cxOf (L2.CX P w) P w K mg base N__law_same_tidy "_law_same_tidy" (defScope s__law_same_tidy) (He.fAd K d__law_same_tidy.at_) cdv A outer s H E).xe := passes_of rfl
  exact (sss_cons (ss_set nd (i := 3) rfl (by first | exact .inl rfl | exact .inr rfl) (sc_call ⟨c.co, c.ro⟩ tk fx.i__law_tidy fx.g__law_tidy rfl rfl (sa_cons (se_var 2) sa_nil)))
      (sss_cons (ss_if (st_truth (se_isiB rfl fx.f_tuple (by decide +kernel) Mi.isi_tuple rfl fx.f_isinstance (se_var 3)))
      (sss_one (ss_ret' (se_and (se_isiC rfl fx.g_Clash (isiOk_Clash fx) rfl fx.f_isinstance (se_var 1)) (se_and (se_cmp (eq_sound (unR c.ro)) (se_tup (sa_cons (se_fld (ok := ok_why) (k := 5) (se_var 1) rfl (hok_why fx)) (sa_cons (se_fld (ok := ok_at) (k := 6) (se_var 1) rfl (hok_at fx)) sa_nil))) (se_var 3)) (se_one (se_cmp (sc_own ⟨c.co, c.ro⟩ fx.i_Clash__eq_ fx.e_Clash rfl) (se_var 1) (sc_make ⟨c.co, c.ro⟩ tk fx.i_Clash__init_ fx.m_Clash fx.g_Clash rfl rfl (sa_cons (se_ix ix_sound (se_var 3) se_int) (sa_cons (se_ix ix_sound (se_var 3) se_int) sa_nil)))))))))
      sss_nil)
      (sss_cons (ss_if (st_bool (sw_or (st_not (st_truth (se_isiC rfl fx.g_Book (isiOk_Book fx) rfl fx.f_isinstance (se_var 1)))) (sw_or1 (st_cmp (ne_sound (unR c.ro)) (se_fld (ok := ok_rows) (k := 3) (se_var 1) rfl (hok_rows fx)) (se_callTy tuple_sound rfl fx.f_tuple (by decide +kernel) (sa_cons (se_var 3) sa_nil))))))
      (sss_one (ss_ret' se_bl))
      sss_nil)
      (sss_cons (ss_if (st_cmp (ne_sound (unR c.ro)) (se_tup (sa_cons (se_fld (ok := ok_deeds) (k := 1) (se_var 1) rfl (hok_deeds fx)) (sa_cons (se_fld (ok := ok_ends) (k := 2) (se_var 1) rfl (hok_ends fx)) (sa_cons (se_fld (ok := ok_states) (k := 4) (se_var 1) rfl (hok_states fx)) sa_nil)))) (se_tup (sa_cons (se_fld (ok := ok_deeds) (k := 1) (se_var 0) rfl (hok_deeds fx)) (sa_cons (se_fld (ok := ok_ends) (k := 2) (se_var 0) rfl (hok_ends fx)) (sa_cons (se_fld (ok := ok_states) (k := 4) (se_var 0) rfl (hok_states fx)) sa_nil)))))
      (sss_one (ss_ret' se_bl))
      sss_nil)
      (sss_one (ss_ret' (se_cmp (sc_own ⟨c.co, c.ro⟩ fx.i_Book__eq_ fx.e_Book rfl) (sc_call ⟨c.co, c.ro⟩ tk fx.i_tidy fx.g_tidy rfl rfl (sa_cons (se_var 1) sa_nil)) (se_var 1))))))))
theorem b__law_same_tidy (fx : Fx K mg fd) : BodyOk P w K mg base (ct K) (fns K fd) ⟨He.fAd K d__law_same_tidy.at_, fd 34, ["_law_book", "_law_told", "_law_rows"]⟩ ⟨3, 4, false, m__law_same_tidy⟩ :=
  ⟨_, "_law_same_tidy", _, _, _, _, _, N__law_same_tidy, fx.D__law_same_tidy, sc__law_same_tidy, rfl, rfl, by decide, fun call n co cdv A outer s H E hr => t__law_same_tidy fx call n cdv A outer s H E ⟨co, hr⟩⟩
abbrev N_law : List Str := ["_law_script", "_law_source_here", "_law_states", "_law_letters", "_law_unknowns", "_law_moves_here", "_law_deeds", "_law_ends", "_law_pool", "_law_texts_here", "_law_rows", "_law_book", "_law_told", "_law_more", "_law_most", "_law_found", "_law_k"]
theorem sc_law : FnScope N_law ["_law_script"] (defScope s_law) := ⟨by kernel_rfl, by kernel_rfl, by kernel_rfl, by decide +kernel, rfl, by decide +kernel, by decide +kernel⟩
theorem t_law (fx : Fx K mg fd) (call : CallT) (n : Nat) (cdv : Value) (A : Around) (outer : List Env) (s : Shared) (H : Hp) (E : XK) (c : Cq (cxOf (L2.CX P w) P w K mg base N_law "law" (defScope s_law) (He.fAd K d_law.at_) cdv A outer s H E) (ct K) (fns K fd) call n) :
    SSs (cxOf (L2.CX P w) P w K mg base N_law "law" (defScope s_law) (He.fAd K d_law.at_) cdv A outer s H E) (ct K) (fun c d _ H' => E c d H') (defBody s_law) (m_law call) := by
  have tk : Takes (cxOf (L2.CX P w) P w K mg base N_law "law" (defScope s_law) (He.fAd K d_law.at_) cdv A outer s H E) (fun cls d _ H' => E cls d H') := takes_of rfl rfl rfl rfl
  have nd := sc_law.nd
  have po : PassesOwn (model P w) (cxOf (L2.CX P w) P w K mg base N_law "law" (defScope s_law) (He.fAd K d_law.at_) cdv A outer s H E).A (cxOf (L2.CX P w) P w K mg base N_law "law" (defScope s_law) (He.fAd K d_law.at_) cdv A outer s H E).env (cxOf (L2.CX P w) P w K mg base N_law "law" (defScope s_law) (He.fAd K d_law.at_) cdv A outer s H E).xe := passes_of rfl
  exact (sss_cons (ss_set nd (i := 1) rfl (by first | exact .inl rfl | exact .inr rfl) (sc_call ⟨c.co, c.ro⟩ tk fx.i__law_source fx.g__law_source rfl rfl (sa_cons (se_var 0) sa_nil)))
      (sss_cons (ss_set nd (i := 2) rfl (by first | exact .inl rfl | exact .inr rfl) (se_bin add_sound se_int (sc_call ⟨c.co, c.ro⟩ tk fx.i__law_take fx.g__law_take rfl rfl (sa_cons (se_var 1) (sa_cons se_int sa_nil)))))
      (sss_cons (ss_set nd (i := 3) rfl (by first | exact .inl rfl | exact .inr rfl) (se_bin add_sound se_int (sc_call ⟨c.co, c.ro⟩ tk fx.i__law_take fx.g__law_take rfl rfl (sa_cons (se_var 1) (sa_cons se_int sa_nil)))))
      (sss_cons (ss_set nd (i := 4) rfl (by first | exact .inl rfl | exact .inr rfl) (se_bin add_sound se_int (sc_call ⟨c.co, c.ro⟩ tk fx.i__law_take fx.g__law_take rfl rfl (sa_cons (se_var 1) (sa_cons se_int sa_nil)))))
      (sss_cons (ss_set nd (i := 5) rfl (by first | exact .inl rfl | exact .inr rfl) (sc_call ⟨c.co, c.ro⟩ tk fx.i__law_moves fx.g__law_moves rfl rfl (sa_cons (se_var 1) (sa_cons (se_var 2) (sa_cons se_int sa_nil)))))
      (sss_cons (ss_set nd (i := 6) rfl (by first | exact .inl rfl | exact .inr rfl) (sc_call ⟨c.co, c.ro⟩ tk fx.i__law_lots fx.g__law_lots rfl rfl (sa_cons (se_var 1) (sa_cons (se_var 5) (sa_cons (se_var 3) sa_nil)))))
      (sss_cons (ss_setLc false rfl nd (i := 7) rfl rfl (sw_true rfl rfl rfl (by decide +kernel)) (si_rng1 rfl fx.f_range (sa_cons (se_var 4) sa_nil)) (own := [("_law_k", 16)]) (blkOk_by (by first | decide +kernel | kernel_rfl)) rfl (fun _ _ _ _ _ => (sgc_name nd (i := 16) rfl (by first | exact .inl rfl | exact .inr rfl) (by decide))) (fun _ _ _ _ _ => spt_nil) (fun _ _ _ _ _ => (sc_call ⟨c.co, c.ro⟩ takesW fx.i__law_end_states fx.g__law_end_states rfl rfl (sa_cons (se_var 1) (sa_cons (se_var 2) sa_nil)))))
      (sss_cons (ss_set nd (i := 8) rfl (by first | exact .inl rfl | exact .inr rfl) (sc_call ⟨c.co, c.ro⟩ tk fx.i__law_texts fx.g__law_texts rfl rfl (sa_cons (se_var 3) (sa_cons se_int sa_nil))))
      (sss_cons (ss_setLc false rfl nd (i := 9) rfl rfl (sw_true rfl rfl rfl (by decide +kernel)) (si_rng1 rfl fx.f_range (sa_cons (se_var 4) sa_nil)) (own := [("_law_k", 16)]) (blkOk_by (by first | decide +kernel | kernel_rfl)) rfl (fun _ _ _ _ _ => (sgc_name nd (i := 16) rfl (by first | exact .inl rfl | exact .inr rfl) (by decide))) (fun _ _ _ _ _ => spt_nil) (fun _ _ _ _ _ => (sc_call ⟨c.co, c.ro⟩ takesW fx.i__law_pick fx.g__law_pick rfl rfl (sa_cons (se_var 1) (sa_cons (se_var 8) sa_nil)))))
      (sss_cons (ss_set nd (i := 10) rfl (by first | exact .inl rfl | exact .inr rfl) (sc_call ⟨c.co, c.ro⟩ tk fx.i__law_draw_rows fx.g__law_draw_rows rfl rfl (sa_cons (se_var 1) (sa_cons (se_var 3) (sa_cons (se_var 4) (sa_cons (se_var 9) sa_nil))))))
      (sss_cons (ss_set nd (i := 11) rfl (by first | exact .inl rfl | exact .inr rfl) (sc_make ⟨c.co, c.ro⟩ tk fx.i_Book__init_ fx.m_Book fx.g_Book rfl rfl (sa_cons (se_var 10) (sa_cons (se_var 6) (sa_cons (se_var 7) (sa_cons (se_var 2) sa_nil))))))
      (sss_cons (ss_set nd (i := 12) rfl (by first | exact .inl rfl | exact .inr rfl) (sc_call ⟨c.co, c.ro⟩ tk fx.i_tidy fx.g_tidy rfl rfl (sa_cons (se_var 11) sa_nil)))
      (sss_cons (ss_if (st_bool (sw_or (st_not (st_truth (sc_call ⟨c.co, c.ro⟩ tk fx.i__law_same_tidy fx.g__law_same_tidy rfl rfl (sa_cons (se_var 11) (sa_cons (se_var 12) (sa_cons (se_var 10) sa_nil)))))) (sw_or1 (st_cmp (ne_sound (unR c.ro)) (se_fld (ok := ok_rows) (k := 3) (se_var 11) rfl (hok_rows fx)) (se_callTy tuple_sound rfl fx.f_tuple (by decide +kernel) (sa_cons (se_var 10) sa_nil))))))
      (sss_one (ss_ret' se_bl))
      sss_nil)
      (sss_cons (ss_set nd (i := 13) rfl (by first | exact .inl rfl | exact .inr rfl) (se_bin add_sound (se_var 6) (se_lv (sa_cons (se_ix ix_sound (sc_call ⟨c.co, c.ro⟩ tk fx.i__law_lots fx.g__law_lots rfl rfl (sa_cons (se_var 1) (sa_cons (se_var 5) (sa_cons se_int sa_nil)))) se_int) sa_nil))))
      (sss_cons (ss_set nd (i := 14) rfl (by first | exact .inl rfl | exact .inr rfl) (se_if (st_cmp (eq_sound (unR c.ro)) (se_var 4) se_int) se_int se_int))
      (sss_cons (ss_set nd (i := 15) rfl (by first | exact .inl rfl | exact .inr rfl) (sc_call ⟨c.co, c.ro⟩ tk fx.i__law_fillings fx.g__law_fillings rfl rfl (sa_cons (se_var 10) (sa_cons (se_var 13) (sa_cons (se_var 7) (sa_cons (se_var 2) (sa_cons (se_var 14) sa_nil)))))))
      (sss_cons (ss_if (st_truth (se_isiC rfl fx.g_Clash (isiOk_Clash fx) rfl fx.f_isinstance (se_var 12)))
      (sss_one (ss_ret' (se_cmp (eq_sound (unR c.ro)) (se_var 15) (se_lv sa_nil))))
      sss_nil)
      (sss_one (ss_ret' (se_cmp (eq_sound (unR c.ro)) (sc_call ⟨c.co, c.ro⟩ tk fx.i__law_fillings fx.g__law_fillings rfl rfl (sa_cons (se_fld (ok := ok_rows) (k := 3) (se_var 12) rfl (hok_rows fx)) (sa_cons (se_var 13) (sa_cons (se_var 7) (sa_cons (se_var 2) (sa_cons (se_var 14) sa_nil)))))) (se_var 15)))))))))))))))))))))
theorem b_law (fx : Fx K mg fd) : BodyOk P w K mg base (ct K) (fns K fd) ⟨He.fAd K d_law.at_, fd 35, ["_law_script"]⟩ ⟨1, 17, false, m_law⟩ :=
  ⟨_, "law", _, _, _, _, _, N_law, fx.D_law, sc_law, rfl, rfl, by decide, fun call n co cdv A outer s H E hr => t_law fx call n cdv A outer s H E ⟨co, hr⟩⟩
theorem bodies (fx : Fx K mg fd) (i : Nat) (F : Fn) (md : MDef) (hF : (fns K fd)[i]? = some F) (hd : defs[i]? = some md) : BodyOk P w K mg base (ct K) (fns K fd) F md := by
  match i, hF, hd with
  | 0, hF, hd => cases hF; cases hd; exact b_is_whole fx
  | 1, hF, hd => cases hF; cases hd; exact b_is_sequence fx
  | 2, hF, hd => cases hF; cases hd; exact b_is_state fx
  | 3, hF, hd => cases hF; cases hd; exact b_checked_deeds fx
  | 4, hF, hd => cases hF; cases hd; exact b_are_goals fx
  | 5, hF, hd => cases hF; cases hd; exact b_checked_ends fx
  | 6, hF, hd => cases hF; cases hd; exact b_checked_rows fx
  | 7, hF, hd => cases hF; cases hd; exact b_check_signs fx
  | 8, hF, hd => cases hF; cases hd; exact b_Book__init_ fx
  | 9, hF, hd => cases hF; cases hd; exact b_Book__eq_ fx
  | 10, hF, hd => cases hF; cases hd; exact b_Clash__init_ fx
  | 11, hF, hd => cases hF; cases hd; exact b_Clash__eq_ fx
  | 12, hF, hd => cases hF; cases hd; exact b_stripped fx
  | 13, hF, hd => cases hF; cases hd; exact b_clash_word fx
  | 14, hF, hd => cases hF; cases hd; exact b_tidy fx
  | 15, hF, hd => cases hF; cases hd; exact b__law_source fx
  | 16, hF, hd => cases hF; cases hd; exact b__law_take fx
  | 17, hF, hd => cases hF; cases hd; exact b__law_pick fx
  | 18, hF, hd => cases hF; cases hd; exact b__law_moves fx
  | 19, hF, hd => cases hF; cases hd; exact b__law_deed fx
  | 20, hF, hd => cases hF; cases hd; exact b__law_after fx
  | 21, hF, hd => cases hF; cases hd; exact b__law_side fx
  | 22, hF, hd => cases hF; cases hd; exact b__law_filled fx
  | 23, hF, hd => cases hF; cases hd; exact b__law_cut_row fx
  | 24, hF, hd => cases hF; cases hd; exact b__law_text_deed fx
  | 25, hF, hd => cases hF; cases hd; exact b__law_fits fx
  | 26, hF, hd => cases hF; cases hd; exact b__law_texts fx
  | 27, hF, hd => cases hF; cases hd; exact b__law_rows_hold fx
  | 28, hF, hd => cases hF; cases hd; exact b__law_fillings fx
  | 29, hF, hd => cases hF; cases hd; exact b__law_strip fx
  | 30, hF, hd => cases hF; cases hd; exact b__law_tidy fx
  | 31, hF, hd => cases hF; cases hd; exact b__law_lots fx
  | 32, hF, hd => cases hF; cases hd; exact b__law_end_states fx
  | 33, hF, hd => cases hF; cases hd; exact b__law_draw_rows fx
  | 34, hF, hd => cases hF; cases hd; exact b__law_same_tidy fx
  | 35, hF, hd => cases hF; cases hd; exact b_law fx
  | _ + 36, hF, _ => simp at hF
theorem all (fx : Fx K mg fd) (n : Nat) : CallOk P w K mg base (ct K) (fns K fd) (callF defs n) n := all_ok rfl (bodies fx) n
end
end K03

namespace K03
open PySem PySem.Spec L2 Mi
/-! printed by head.py: the head -/
abbrev R : PySem.W.OpenRow := PySem.W.OpenLaw.row PySem.Challenge.rw_pressedwords_k03_whole_tidy_keeps_all_fi
abbrev xfa (K : PySem.W.Frag) : Bool := (xf K).all id
abbrev hk : PySem.W.Hook := hookM 5 xfa fa fn
def ob (s : PySem.W.SharedT) : Bool × He.AlD := obsMG 5 xfa fa fn (HandSHeadRun.getT s)
theorem ob_eq (s : PySem.W.SharedT) : ob s = hk.obs s.abs := obsMG_eq (HandSHeadRun.getT_eq s)
theorem run (w : World) : HandSHeadRun.RunEq R (PySem.W.view R.prog [40]) hk ob 6000 ((["_wall", "PressError", "BadBook", "is_whole", "is_sequence", "is_state", "checked_deeds", "are_goals", "checked_ends", "checked_rows", "check_signs", "Book", "Clash", "stripped", "clash_word", "tidy", "_law_source", "_law_take", "_law_pick", "_law_moves"] : List Str) ++ (["_law_deed", "_law_after", "_law_side", "_law_filled", "_law_cut_row", "_law_text_deed", "_law_fits", "_law_texts", "_law_rows_hold", "_law_fillings", "_law_strip", "_law_tidy", "_law_lots", "_law_end_states", "_law_draw_rows", "_law_same_tidy"] : List Str)) w := by
  intro os
  kernel_rfl
def fuel : Nat := 20
theorem close (hlaw : ∀ ns : List Int, ns.length ≤ 63 → ∃ h, callF defs fuel 35 [.d (.scr (ns.map D.int))] [] = .ok (.d (.bl true)) h) : PySem.Challenge.rw_pressedwords_k03_whole_tidy_keeps_all_fi.Holds := by
  open PySem.W PySem.Calls PyProof.Rows in
  w_on; o_law
  refine HandSHeadRun.head_any (r := R) (q := PySem.W.view R.prog [40]) (H := hk) (ob := ob) (M := 6000) (loose := ((["_wall", "PressError", "BadBook", "is_whole", "is_sequence", "is_state", "checked_deeds", "are_goals", "checked_ends", "checked_rows", "check_signs", "Book", "Clash", "stripped", "clash_word", "tidy", "_law_source", "_law_take", "_law_pick", "_law_moves"] : List Str) ++ (["_law_deed", "_law_after", "_law_side", "_law_filled", "_law_cut_row", "_law_text_deed", "_law_fits", "_law_texts", "_law_rows_hold", "_law_fillings", "_law_strip", "_law_tidy", "_law_lots", "_law_end_states", "_law_draw_rows", "_law_same_tidy"] : List Str))) (d := HandSHeadRun.topDef R.prog 40) (kwd := []) ob_eq
    (by kernel_rfl) (fun s => by kernel_rfl) run (by kernel_rfl) (by kernel_rfl) (by kernel_rfl) (by rfl) (by first | assumption | decide +kernel) (by decide +kernel) ⟨rfl, rfl, rfl, rfl, rfl, by decide +kernel⟩ ?hw ?hc
  case hw => w_witness2
  case hc =>
    refine L2.walk_ofE (l := PySem.Challenge.rw_pressedwords_k03_whole_tidy_keeps_all_fi) (n := 63) (k := 2 * fuel) (x := "_law_script") (CX := L2.CX0) rfl (by decide) (by kernel_rfl) ⟨rfl, by decide, by decide⟩ ?F (fun _ _ _ _ z => z)
    intro w mg fa h Y G hmg0
    obtain ⟨K, KX, c⟩ := Y
    have hmg : mg ("law" : PySem.Str) = some (.ref fa) := by
      have e : (HandSHeadRun.topDef R.prog 40).name = ("law" : PySem.Str) := by kernel_rfl
      rw [← e]
      exact hmg0
    have ex : ∀ i : Nat, ∃ f : FuncData, ∀ d : He.DefD, fn[i]? = some d → FunD K d.name d.qual d.params d.body d.scope (d.dvs K) (d.kws K) (He.fAd K d.at_) f := fun i => by
      cases q : fn[i]? with
      | none => exact ⟨⟨"", "", ⟨[], [], none, [], [], none, []⟩, .stmts [], ⟨.function, [], false, false, []⟩, 0, [], .none, .none, .none, .none, none, .none, .none, 0⟩, fun d z => nomatch z⟩
      | some d =>
        obtain ⟨f, z⟩ := c.d.def_ i q
        exact ⟨f, fun d' z' => by cases z'; exact z⟩
    have fx := fx_of (fd := fun i => (ex i).choose) KX G c fun i => (ex i).choose_spec
    have e := hmg.symm.trans fx.g_law
    cases e
    refine ⟨K, _, fun vs H Q _ => spC K (ct K) (callF defs fuel) 35 vs H Q fun _ _ _ => False, KX, fun s u => fx.D_law.bindsA (ps := ["_law_script"]) (fun _ _ _ _ _ _ us hl => match us, hl with | [_], _ => rfl) s [u] rfl, fun H a ns hl hO hS => law_sp (ct := ct K) hlaw H a ns hl hO hS, fun base hK hG => ?_⟩
    exact FnOk.still ((Mi.CallOk.ok (all (P := (PySem.Challenge.rw_pressedwords_k03_whole_tidy_keeps_all_fi).prog) (w := w) (base := base) fx fuel)) 35 _ rfl)
end K03

namespace K03
open PySem PySem.Spec Mi
theorem e_is_whole (n : Nat) (i : Int) (h : Hs) : callF defs (n + 1) 0 [.d (.int i)] h = .ok (.d (.bl true)) h := by
  rw [callF_at (md := ⟨1, 1, false, m_is_whole⟩) rfl rfl]
  simp [startL, lookT]
theorem e_is_seqT (n : Nat) (xs : List D) (h : Hs) : callF defs (n + 1) 1 [.d (.tup xs)] h = .ok (.d (.bl true)) h := by
  rw [callF_at (md := ⟨1, 1, false, m_is_sequence⟩) rfl rfl]
  simp [startL, lookT]
theorem e_is_seqL (n : Nat) (xs : List D) (h : Hs) : callF defs (n + 1) 1 [.d (.lv xs)] h = .ok (.d (.bl true)) h := by
  rw [callF_at (md := ⟨1, 1, false, m_is_sequence⟩) rfl rfl]
  simp [startL, lookT]
theorem e_is_state (n : Nat) (i k : Int) (h : Hs) : callF defs (n + 2) 2 [.d (.int i), .d (.int k)] h = .ok (.d (.bl (decide (0 ≤ i ∧ i < k)))) h := by
  rw [callF_at (md := ⟨2, 2, false, m_is_state⟩) rfl rfl]
  simp [startL, e_is_whole]
  by_cases h0 : 0 ≤ i <;> simp [h0]
/-- a list or a tuple of data -/
inductive Sq : D → List D → Prop
  | t (xs) : Sq (.tup xs) xs
  | l (xs) : Sq (.lv xs) xs
theorem Sq.is {d : D} {xs : List D} (s : Sq d xs) (n : Nat) (h : Hs) : callF defs (n + 1) 1 [.d d] h = .ok (.d (.bl true)) h := by
  cases s
  · exact e_is_seqT n _ h
  · exact e_is_seqL n _ h
theorem Sq.ps {d : D} {xs : List D} (s : Sq d xs) : pureSeq (.d d) = some xs := by cases s <;> rfl
theorem Sq.tp {d : D} {xs : List D} (s : Sq d xs) (h : Hs) : nTuple [.d d] h = some (.d (.tup xs), h) := by cases s <;> rfl

/-! ### deeds -/
def OkW (S : Nat) (x : List Int) : Prop := x.length = S ∧ ∀ i ∈ x, 0 ≤ i ∧ i < (S : Int)
theorem l_cd1 (n S L : Nat) (A B : D) (h : Hs) (hL : L < h.length) : ∀ xs : List Int, (∀ i ∈ xs, 0 ≤ i ∧ i < (S : Int)) → ∀ e, ∃ e', forL (gNm 4) (b_checked_deeds_1 (callF defs (n + 2))) (xs.map D.int) [some (.d A), some (.d (.int S)), some (.r L), some (.d B), e] h = .ok .nx [some (.d A), some (.d (.int S)), some (.r L), some (.d B), e'] h
  | [], _, e => ⟨e, rfl⟩
  | x :: xs, hx, e => by
    obtain ⟨e', q⟩ := l_cd1 n S L A B h hL xs (fun i hi => hx i (List.mem_cons_of_mem _ hi)) (some (.d (.int x)))
    exact ⟨e', by simp [forL, e_is_state, hx x List.mem_cons_self, hL, q]⟩
theorem l_cd2 (n S : Nat) (A : D) (h : Hs) : ∀ (ds : List (List Int)) (acc : List D), (∀ x ∈ ds, OkW S x) → acc.length + ds.length < sizeLine → ∀ d e, ∃ d' e', forL (gNm 3) (b_checked_deeds_2 (callF defs (n + 2))) (ds.map iT) [some (.d A), some (.d (.int S)), some (.r h.length), d, e] (h ++ [.lst acc]) = .ok .nx [some (.d A), some (.d (.int S)), some (.r h.length), d', e'] (h ++ [.lst (acc ++ ds.map iT)])
  | [], acc, _, _, d, e => ⟨d, e, by simp [forL]⟩
  | x :: ds, acc, hx, hz, d, e => by
    obtain ⟨h1, h2⟩ := hx x List.mem_cons_self
    obtain ⟨e1, q1⟩ := l_cd1 n S h.length A (iT x) (h ++ [.lst acc]) (by simp) x h2 e
    rw [List.length_cons] at hz
    obtain ⟨d', e', q⟩ := l_cd2 n S A h ds (acc ++ [iT x]) (fun y hy => hx y (List.mem_cons_of_mem _ hy)) (by rw [List.length_append, List.length_singleton]; omega) (some (.d (iT x))) (clr1 (h.length + 1) e1)
    refine ⟨d', e', ?_⟩
    have hz' : acc.length < sizeLine := by omega
    simp only [iT] at q q1 ⊢
    simp [forL, e_is_seqT, h1, q1, hz', q, iT]
theorem e_checked_deeds (n S : Nat) (A : D) (ds : List (List Int)) (h : Hs) (sq : Sq A (ds.map iT)) (hx : ∀ x ∈ ds, OkW S x) (hz : ds.length < sizeLine) : callF defs (n + 3) 3 [.d A, .d (.int S)] h = .ok (.d (.tup (ds.map iT))) h := by
  rw [callF_at (md := ⟨2, 5, false, m_checked_deeds⟩) rfl rfl]
  obtain ⟨d', e', q⟩ := l_cd2 n S A h ds [] hx (by simpa using hz) none none
  simp [startL, sq.is, sq.ps, q, n_tupR (at_len)]

/-! ### ends -/
def OkG (S : Nat) : Int → List Int → Prop
  | _, [] => True
  | b, x :: xs => b < x ∧ 0 ≤ x ∧ x < (S : Int) ∧ OkG S x xs
theorem l_ag (n S : Nat) (A : D) (h : Hs) : ∀ (xs : List Int) (b : Int), OkG S b xs → ∀ e, ∃ b' e', forL (gNm 3) (b_are_goals_1 (callF defs (n + 2))) (xs.map D.int) [some (.d A), some (.d (.int S)), some (.d (.int b)), e] h = .ok .nx [some (.d A), some (.d (.int S)), some (.d (.int b')), e'] h
  | [], b, _, e => ⟨b, e, rfl⟩
  | x :: xs, b, ⟨h1, h2, h3, h4⟩, e => by
    obtain ⟨b', e', q⟩ := l_ag n S A h xs x h4 (some (.d (.int x)))
    have h1' : ¬ x ≤ b := by omega
    exact ⟨b', e', by simp [forL, e_is_state, h1', h2, h3, q]⟩
theorem e_are_goals (n S : Nat) (xs : List Int) (h : Hs) (hx : OkG S (-1) xs) : callF defs (n + 3) 4 [.d (iT xs), .d (.int S)] h = .ok (.d (.bl true)) h := by
  rw [callF_at (md := ⟨2, 4, false, m_are_goals⟩) rfl rfl]
  obtain ⟨b', e', q⟩ := l_ag n S (iT xs) h xs (-1) hx none
  simp only [iT] at q ⊢
  simp [startL, e_is_seqT, q]
def eD (p : Int × List Int) : D := .tup [.int p.1, iT p.2]
def OkE (S : Nat) (p : Int × List Int) : Prop := (0 ≤ p.1 ∧ p.1 < (S : Int)) ∧ OkG S (-1) p.2
theorem l_ce (n S : Nat) (A : D) (h : Hs) : ∀ (ds : List (Int × List Int)) (acc : List D), (∀ x ∈ ds, OkE S x) → acc.length + ds.length < sizeLine → ∀ d e g, ∃ d' e' g', forL (gNm 3) (b_checked_ends_1 (callF defs (n + 3))) (ds.map eD) [some (.d A), some (.d (.int S)), some (.r h.length), d, e, g] (h ++ [.lst acc]) = .ok .nx [some (.d A), some (.d (.int S)), some (.r h.length), d', e', g'] (h ++ [.lst (acc ++ ds.map eD)])
  | [], acc, _, _, d, e, g => ⟨d, e, g, by simp [forL]⟩
  | x :: ds, acc, hx, hz, d, e, g => by
    obtain ⟨h1, h2⟩ := hx x List.mem_cons_self
    rw [List.length_cons] at hz
    obtain ⟨d', e', g', q⟩ := l_ce n S A h ds (acc ++ [eD x]) (fun y hy => hx y (List.mem_cons_of_mem _ hy)) (by rw [List.length_append, List.length_singleton]; omega) (some (.d (eD x))) (some (.d (.int x.1))) (some (.d (iT x.2)))
    refine ⟨d', e', g', ?_⟩
    have hz' : acc.length < sizeLine := by omega
    have hg := e_are_goals n S x.2 (h ++ [.lst acc]) h2
    simp only [iT, eD] at q hg ⊢
    simp [forL, e_is_seqT, e_is_state, h1, hg, hz', q, iT, eD]
theorem e_checked_ends (n S : Nat) (A : D) (ds : List (Int × List Int)) (h : Hs) (sq : Sq A (ds.map eD)) (hx : ∀ x ∈ ds, OkE S x) (hz : ds.length < sizeLine) : callF defs (n + 4) 5 [.d A, .d (.int S)] h = .ok (.d (.tup (ds.map eD))) h := by
  rw [callF_at (md := ⟨2, 6, false, m_checked_ends⟩) rfl rfl]
  obtain ⟨d', e', g', q⟩ := l_ce n S A h ds [] hx (by simpa using hz) none none none
  simp [startL, sq.is, sq.ps, q, n_tupR (at_len)]
/-! ### rows -/
def rD (p : List Int × List Int) : D := .tup [iT p.1, iT p.2]
theorem l_cr1 (n L : Nat) (A B C : D) (f g : Option Vl) (h : Hs) (hL : L < h.length) (hf : clr1 h.length f = f) (hg : clr1 h.length g = g) : ∀ xs : List Int, ∀ e, ∃ e', forL (gNm 4) (b_checked_rows_1 (callF defs (n + 1))) (xs.map D.int) [some (.d A), some (.r L), some (.d B), some (.d C), e, f, g] h = .ok .nx [some (.d A), some (.r L), some (.d B), some (.d C), e', f, g] h
  | [], e => ⟨e, rfl⟩
  | x :: xs, e => by
    obtain ⟨e', q⟩ := l_cr1 n L A B C f g h hL hf hg xs (some (.d (.int x)))
    exact ⟨e', by simp [forL, e_is_whole, hL, hf, hg, q]⟩
theorem clr1_clr1 (n : Nat) (o : Option Vl) : clr1 n (clr1 n o) = clr1 n o := by
  cases o with
  | none => rfl
  | some v =>
    cases v with
    | d x => rfl
    | r k =>
      simp only [clr1_r]
      by_cases hk : k < n
      · simp [hk]
      · simp [hk]
theorem l_cr2 (n : Nat) (A : D) (h : Hs) : ∀ (ds : List (List Int × List Int)) (acc : List D), acc.length + ds.length < sizeLine → ∀ a b c d e, clr1 (h.length + 1) d = d → clr1 (h.length + 1) e = e → ∃ a' b' c' d' e', forL (gNm 2) (b_checked_rows_3 (callF defs (n + 1))) (ds.map rD) [some (.d A), some (.r h.length), a, b, c, d, e] (h ++ [.lst acc]) = .ok .nx [some (.d A), some (.r h.length), a', b', c', d', e'] (h ++ [.lst (acc ++ ds.map rD)])
  | [], acc, _, a, b, c, d, e, _, _ => ⟨a, b, c, d, e, by simp [forL]⟩
  | (l, r) :: ds, acc, hz, a, b, c, d, e, hd, he => by
    rw [List.length_cons] at hz
    have hz' : acc.length < sizeLine := by omega
    obtain ⟨e1, q1⟩ := l_cr1 n h.length A (rD (l, r)) (iT l) d e (h ++ [.lst acc]) (by simp) (by simpa using hd) (by simpa using he) l c
    obtain ⟨e2, q2⟩ := l_cr1 n h.length A (rD (l, r)) (iT r) d e (h ++ [.lst acc]) (by simp) (by simpa using hd) (by simpa using he) r (clr1 (h.length + 1) e1)
    obtain ⟨a', b', c', d', e', q⟩ := l_cr2 n A h ds (acc ++ [rD (l, r)]) (by rw [List.length_append, List.length_singleton]; omega) (some (.d (rD (l, r)))) (some (.d (iT r))) (clr1 (h.length + 1) e2) (some (.d (iT l))) (some (.d (iT r))) rfl rfl
    refine ⟨a', b', c', d', e', ?_⟩
    simp only [iT, rD] at q q1 q2 ⊢
    simp [forL, e_is_seqT, q1, q2, hd, he, hz', q, iT, rD, clr1_clr1]
theorem e_checked_rows (n : Nat) (A : D) (ds : List (List Int × List Int)) (h : Hs) (sq : Sq A (ds.map rD)) (hz : ds.length < sizeLine) : callF defs (n + 2) 6 [.d A] h = .ok (.d (.tup (ds.map rD))) h := by
  rw [callF_at (md := ⟨1, 7, false, m_checked_rows⟩) rfl rfl]
  obtain ⟨a', b', c', d', e', q⟩ := l_cr2 n A h ds [] (by simpa using hz) none none none none none rfl rfl
  simp [startL, sq.is, sq.ps, q, n_tupR (at_len)]
def OkS (L U : Int) (s : Int) : Prop := s < L ∧ -1 - s < U
theorem l_cs1 (n : Nat) (A B C : D) (L U : Int) (h : Hs) : ∀ xs : List Int, (∀ s ∈ xs, OkS L U s) → ∀ e, ∃ e', forL (gNm 5) (b_check_signs_1 (callF defs n)) (xs.map D.int) [some (.d A), some (.d (.int L)), some (.d (.int U)), some (.d B), some (.d C), e] h = .ok .nx [some (.d A), some (.d (.int L)), some (.d (.int U)), some (.d B), some (.d C), e'] h
  | [], _, e => ⟨e, rfl⟩
  | x :: xs, hx, e => by
    obtain ⟨e', q⟩ := l_cs1 n A B C L U h xs (fun i hi => hx i (List.mem_cons_of_mem _ hi)) (some (.d (.int x)))
    obtain ⟨h1, h2⟩ := hx x List.mem_cons_self
    have h1' : ¬ L ≤ x := by omega
    have h2' : ¬ U ≤ -1 - x := by omega
    exact ⟨e', by simp [forL, h1', h2', q]⟩
def OkR (L U : Int) (p : List Int × List Int) : Prop := (∀ s ∈ p.1 ++ p.2, OkS L U s) ∧ p.1.length + p.2.length ≤ sizeLine
theorem l_cs2 (n : Nat) (A : D) (L U : Int) (h : Hs) : ∀ ds : List (List Int × List Int), (∀ x ∈ ds, OkR L U x) → ∀ b c e, ∃ b' c' e', forL (gTp 2 (gCo (gNm 3) (gCo (gNm 4) gNi))) (b_check_signs_2 (callF defs n)) (ds.map rD) [some (.d A), some (.d (.int L)), some (.d (.int U)), b, c, e] h = .ok .nx [some (.d A), some (.d (.int L)), some (.d (.int U)), b', c', e'] h
  | [], _, b, c, e => ⟨b, c, e, rfl⟩
  | (l, r) :: ds, hx, b, c, e => by
    obtain ⟨h1, h2⟩ := hx (l, r) List.mem_cons_self
    obtain ⟨e1, q1⟩ := l_cs1 n A (iT l) (iT r) L U h (l ++ r) h1 e
    obtain ⟨b', c', e', q⟩ := l_cs2 n A L U h ds (fun y hy => hx y (List.mem_cons_of_mem _ hy)) (some (.d (iT l))) (some (.d (iT r))) (clr1 h.length e1)
    refine ⟨b', c', e', ?_⟩
    dsimp only at h2
    simp only [iT, rD, List.map_append] at q q1 ⊢
    simp [forL, q1, q, h2, rD, iT]
theorem e_check_signs (n : Nat) (L U : Int) (ds : List (List Int × List Int)) (h : Hs) (hx : ∀ x ∈ ds, OkR L U x) : callF defs (n + 1) 7 [.d (.tup (ds.map rD)), .d (.int L), .d (.int U)] h = .ok (.d .non) h := by
  rw [callF_at (md := ⟨3, 6, false, m_check_signs⟩) rfl rfl]
  obtain ⟨b', c', e', q⟩ := l_cs2 n (.tup (ds.map rD)) L U h ds hx none none none
  simp [startL, q]
/-! ### books, clashes -/
structure Bk where
  S : Nat
  ds : List (List Int)
  es : List (Int × List Int)
  rs : List (List Int × List Int)
structure Bk.Ok (b : Bk) : Prop where
  s : 1 ≤ b.S
  d : ∀ x ∈ b.ds, OkW b.S x
  e : ∀ x ∈ b.es, OkE b.S x
  r : ∀ x ∈ b.rs, OkR b.ds.length b.es.length x
  dz : b.ds.length < sizeLine
  ez : b.es.length < sizeLine
  rz : b.rs.length < sizeLine
def Bk.D (b : Bk) : D := .ins 2 [(1, .tup (b.ds.map iT)), (2, .tup (b.es.map eD)), (3, .tup (b.rs.map rD)), (4, .int b.S)]
theorem e_book (n : Nat) (b : Bk) (h : Hs) (ok : b.Ok) {A B C : D} (sr : Sq A (b.rs.map rD)) (sd : Sq B (b.ds.map iT)) (se : Sq C (b.es.map eD)) : mkI (callF defs (n + 5)) 8 2 [.d A, .d B, .d C, .d (.int b.S)] h = .ok (.d b.D) h := by
  have hs := ok.s
  have hs' : ¬ ((b.S : Int) < 1) := by omega
  unfold mkI
  rw [callF_at (md := ⟨5, 5, false, m_Book__init_⟩) rfl rfl]
  have q1 := fun h => e_checked_deeds (n + 1) b.S B b.ds h sd ok.d ok.dz
  have q2 := fun h => e_checked_ends n b.S C b.es h se ok.e ok.ez
  have q3 := fun h => e_checked_rows (n + 2) A b.rs h sr ok.rz
  have q4 := fun h => e_check_signs (n + 3) b.ds.length b.es.length b.rs h ok.r
  simp [startL, e_is_whole, hs', q1, q2, q3, ok_deeds, ok_ends, ok_rows, ok_states, putN, List.lookup, q4, Bk.D]
def clD (w : Str) (at_ : Int) : D := .ins 3 [(5, .str w), (6, .int at_)]
theorem e_clash (n : Nat) (w : Str) (i : Int) (h : Hs) : mkI (callF defs (n + 1)) 10 3 [.d (.str w), .d (.int i)] h = .ok (.d (clD w i)) h := by
  unfold mkI
  rw [callF_at (md := ⟨3, 3, false, m_Clash__init_⟩) rfl rfl]
  simp [startL, ok_why, ok_at, putN, clD]
end K03

namespace K03
open PySem PySem.Spec Mi
/-! ### lists by places -/
theorem atI_nat {α : Type} (xs : List α) (k : Nat) : L2.atI xs (k : Int) = xs[k]? := by
  unfold L2.atI L2.ixN
  by_cases h : k < xs.length
  · rw [if_pos (by omega), if_pos (by omega)]; simp
  · rw [if_pos (by omega), if_neg (by omega), List.getElem?_eq_none (by omega)]; rfl
theorem atI_back {α : Type} (xs : List α) (k : Nat) (h : k < xs.length) : L2.atI xs ((xs.length : Int) - 1 - (k : Int)) = xs.reverse[k]? := by
  rw [show (xs.length : Int) - 1 - (k : Int) = ((xs.length - 1 - k : Nat) : Int) by omega, atI_nat, List.getElem?_reverse h]
theorem cut_from {α : Type} (xs : List α) (k : Nat) : cutL xs (some (k : Int)) none = xs.drop k := by
  unfold cutL
  rw [HT.sIx_nat, HT.sIx_none]
  by_cases h : k ≤ xs.length
  · rw [Nat.min_eq_left h, List.take_of_length_le (by simp)]
  · rw [Nat.min_eq_right (by omega), List.drop_length, List.drop_eq_nil_of_le (by omega)]; simp
theorem cut_to {α : Type} (xs : List α) (k : Nat) : cutL xs none (some (k : Int)) = xs.take k := by
  unfold cutL
  rw [HT.sIx_nat, HT.sIx_none, List.drop_zero, Nat.sub_zero]
  by_cases h : k ≤ xs.length
  · rw [Nat.min_eq_left h]
  · rw [Nat.min_eq_right (by omega), List.take_length, List.take_of_length_le (by omega)]
/-! ### what both strippings do -/
def sF : List Int → List Int → List Int × List Int
  | x :: xs, y :: ys => if x = y then sF xs ys else (x :: xs, y :: ys)
  | xs, ys => (xs, ys)
def sB (l r : List Int) : List Int × List Int := ((sF (sF l r).1.reverse (sF l r).2.reverse).1.reverse, (sF (sF l r).1.reverse (sF l r).2.reverse).2.reverse)
theorem sF_nil_l (r : List Int) : sF [] r = ([], r) := by cases r <;> rfl
theorem sF_nil_r (l : List Int) : sF l [] = (l, []) := by cases l <;> rfl
theorem drop_cons {α : Type} {xs : List α} {k : Nat} {x : α} (e : xs[k]? = some x) : xs.drop k = x :: xs.drop (k + 1) := by
  obtain ⟨h, rfl⟩ := List.getElem?_eq_some_iff.mp e
  exact List.drop_eq_getElem_cons h
theorem map_get (l : List Int) (k : Nat) : (l.map D.int)[k]? = (l[k]?).map D.int := List.getElem?_map
theorem minI (a b : Nat) : (if (b : Int) < (a : Int) then (b : Int) else (a : Int)) = ((min a b : Nat) : Int) := by
  by_cases h : b < a
  · rw [if_pos (by omega), Nat.min_eq_right (by omega)]
  · rw [if_neg (by omega), Nat.min_eq_left (by omega)]
/-- one loop of the program's stripping: t looks at the k-th of a and b -/
theorem l_strip {t : SemT} {body : SemS} {a b : List Int} {h : Hs} {σ : Nat → Lo} (hm : min a.length b.length < 1000000000)
    (hc : ∀ k, clr h.length (σ k) = σ k)
    (ht1 : ∀ k x y, k < min a.length b.length → a[k]? = some x → b[k]? = some y → t (σ k) h = .ok (decide (x = y)) h)
    (ht2 : ∀ k, min a.length b.length ≤ k → t (σ k) h = .ok false h)
    (hb : ∀ k, body (σ k) h = .ok .nx (σ (k + 1)) h) : ∃ k, k ≤ min a.length b.length ∧ sWh t body (σ 0) h = .ok .nx (σ k) h ∧ sF a b = (a.drop k, b.drop k) := by
  refine wh_ind (R := fun r => ∃ k, k ≤ min a.length b.length ∧ r = .ok .nx (σ k) h ∧ sF a b = (a.drop k, b.drop k))
    (fun n s g => ∃ k, k ≤ min a.length b.length ∧ n = min a.length b.length - k ∧ s = σ k ∧ g = h ∧ sF a b = sF (a.drop k) (b.drop k)) ⟨0, Nat.zero_le _, rfl, rfl, rfl, rfl⟩ hm ?_
  rintro n s g ⟨k, hk, rfl, rfl, rfl, hs⟩
  by_cases hlt : k < min a.length b.length
  · have ha : k < a.length := by omega
    have hb' : k < b.length := by omega
    have ea := List.getElem?_eq_getElem ha
    have eb := List.getElem?_eq_getElem hb'
    rw [ht1 k _ _ hlt ea eb]
    rw [drop_cons ea, drop_cons eb, sF] at hs
    by_cases e : a[k] = b[k]
    · rw [decide_eq_true e]
      rw [if_pos e] at hs
      refine ⟨min a.length b.length - (k + 1), by omega, ?_⟩
      rw [hb k]
      exact ⟨k + 1, hlt, rfl, hc _, List.take_length, hs⟩
    · rw [decide_eq_false e]
      rw [if_neg e] at hs
      exact ⟨k, hk, rfl, by rw [hs, drop_cons ea, drop_cons eb]⟩
  · rw [ht2 k (by omega)]
    refine ⟨k, hk, rfl, ?_⟩
    rw [hs]
    by_cases h1 : a.length ≤ k
    · rw [List.drop_eq_nil_of_le h1, sF_nil_l]
    · rw [List.drop_eq_nil_of_le (show b.length ≤ k by omega), sF_nil_r]
theorem e_stripped (n : Nat) (l r : List Int) (h : Hs) (hz : l.length < 1000000000) : callF defs (n + 1) 12 [.d (iT l), .d (iT r)] h = .ok (.d (rD (sB l r))) h := by
  rw [callF_at (md := ⟨2, 5, false, m_stripped⟩) rfl rfl]
  obtain ⟨k, hk, e1, s1⟩ := l_strip (t := w_stripped_1 (callF defs n)) (body := b_stripped_2 (callF defs n)) (a := l) (b := r) (h := h)
    (σ := fun k => [some (.d (iT l)), some (.d (iT r)), some (.d (.int (k : Nat))), some (.d (.int ((min l.length r.length : Nat) : Int))), none]) (by omega) (fun k => by simp)
    (fun k x y hk ex ey => by
      have hk' : ((k : Nat) : Int) < ((min l.length r.length : Nat) : Int) := by omega
      simp only [iT]
      simp [hk', atI_nat, ex, ey] <;> omega)
    (fun k hk => by
      have hk' : ¬ ((k : Nat) : Int) < ((min l.length r.length : Nat) : Int) := by omega
      simp only [iT]
      simp <;> omega)
    (fun k => by simp)
  obtain ⟨k2, hk2, e2, s2⟩ := l_strip (t := w_stripped_3 (callF defs n)) (body := b_stripped_4 (callF defs n)) (a := (l.drop k).reverse) (b := (r.drop k).reverse) (h := h)
    (σ := fun j => [some (.d (iT (l.drop k))), some (.d (iT (r.drop k))), some (.d (.int (k : Nat))), some (.d (.int ((min (l.drop k).length (r.drop k).length : Nat) : Int))), some (.d (.int (j : Nat)))]) (by simp only [List.length_reverse, List.length_drop]; omega) (fun k => by simp)
    (fun j x y hj ex ey => by
      rw [List.length_reverse, List.length_reverse] at hj
      have hj' : ((j : Nat) : Int) < ((min (l.drop k).length (r.drop k).length : Nat) : Int) := by omega
      have hx := atI_back ((l.drop k).map D.int) j (by rw [List.length_map]; omega)
      have hy := atI_back ((r.drop k).map D.int) j (by rw [List.length_map]; omega)
      rw [← List.map_reverse, map_get, ex] at hx
      rw [← List.map_reverse, map_get, ey] at hy
      simp only [iT, aw_stripped_3]
      simp only [ap_tan, ap_tbl, ap_bin, ap_var, List.getElem?_cons_zero, List.getElem?_cons_succ, rb_ok, o_lt, ro_some, hj', decide_true, if_true, ap_n, ap_cons, ap_nil, ap_k, n_lenT, o_sub, o_ixT, hx, hy, Option.map_some, o_eqI])
    (fun j hj => by
      rw [List.length_reverse, List.length_reverse] at hj
      have hj' : ¬ ((j : Nat) : Int) < ((min (l.drop k).length (r.drop k).length : Nat) : Int) := by omega
      simp only [iT, aw_stripped_3, ap_tan, ap_tbl, ap_bin, ap_var, List.getElem?_cons_zero, List.getElem?_cons_succ, rb_ok, o_lt, ro_some, hj', decide_false, if_false, Bool.false_eq_true])
    (fun j => by simp)
  have m1 := minI l.length r.length
  have m2 := minI (l.drop k).length (r.drop k).length
  have c1 := cut_from (l.map D.int) k
  have c2 := cut_from (r.map D.int) k
  rw [← List.map_drop] at c1 c2
  rw [List.length_reverse, List.length_reverse] at hk2
  have c3 : cutL ((l.drop k).map D.int) none (some (((l.drop k).length : Int) - (k2 : Int))) = (((l.drop k).reverse.drop k2).reverse).map D.int := by
    rw [show ((l.drop k).length : Int) - (k2 : Int) = (((l.drop k).length - k2 : Nat) : Int) by omega, cut_to, ← List.map_take, List.drop_reverse, List.reverse_reverse]
  have c4 : cutL ((r.drop k).map D.int) none (some (((r.drop k).length : Int) - (k2 : Int))) = (((r.drop k).reverse.drop k2).reverse).map D.int := by
    rw [show ((r.drop k).length : Int) - (k2 : Int) = (((r.drop k).length - k2 : Nat) : Int) by omega, cut_to, ← List.map_take, List.drop_reverse, List.reverse_reverse]
  have fin1 : sB l r = (((l.drop k).reverse.drop k2).reverse, ((r.drop k).reverse.drop k2).reverse) := by
    unfold sB
    rw [s1]
    dsimp only
    rw [s2]
  rw [fin1]
  have k1 : ∀ h, nMin2 [.d (.int (l.length : Int)), .d (.int (r.length : Int))] h = some (.d (.int ((min l.length r.length : Nat) : Int)), h) := fun h => by rw [n_min, m1]
  have k2' : ∀ h, nMin2 [.d (.int ((l.drop k).length : Int)), .d (.int ((r.drop k).length : Int))] h = some (.d (.int ((min (l.drop k).length (r.drop k).length : Nat) : Int)), h) := fun h => by rw [n_min, m2]
  change sWh _ _ [_, _, some (Vl.d (D.int 0)), _, _] _ = _ at e1
  change sWh _ _ [_, _, _, _, some (Vl.d (D.int 0))] _ = _ at e2
  clear s1 s2 fin1 m1 m2 hk hk2
  generalize l.drop k = a at *
  generalize r.drop k = b at *
  generalize min l.length r.length = M at *
  generalize min a.length b.length = M2 at *
  simp only [iT, rD] at e1 e2 ⊢
  simp [startL, k1, k2', e1, e2, c1, c2, c3, c4, -n_min, -aw_stripped_1, -aw_stripped_3]
end K03

namespace K03
open PySem PySem.Spec Mi
/-! ### the law's stripping -/
theorem eqTN (xs : List Int) (h : Hs) : oEq (.d (.tup (xs.map D.int))) (.d (.tup [])) h = some (.d (.bl (decide (xs = []))), h) := o_eqT xs [] h
theorem eqNN (h : Hs) : oEq (.d (.tup [])) (.d (.tup [])) h = some (.d (.bl true), h) := by
  have := eqTN [] h
  simpa using this
theorem l_ls1 (call : CallT) (h : Hs) (l r : List Int) (hz : l.length < 1000000000) : sWh (w__law_strip_1 call) (b__law_strip_2 call) [some (.d (iT l)), some (.d (iT r))] h = .ok .nx [some (.d (iT (sF l r).1)), some (.d (iT (sF l r).2))] h := by
  refine wh_ind (R := fun q => q = .ok .nx [some (.d (iT (sF l r).1)), some (.d (iT (sF l r).2))] h)
    (fun n s g => ∃ a b : List Int, n = a.length ∧ s = [some (.d (iT a)), some (.d (iT b))] ∧ g = h ∧ sF l r = sF a b) ⟨l, r, rfl, rfl, rfl, rfl⟩ hz ?_
  rintro n s g ⟨a, b, rfl, rfl, rfl, hs⟩
  cases a with
  | nil => simp [iT, hs, sF_nil_l]
  | cons x a =>
    cases b with
    | nil =>
      have : (0 : Int) < (a.length : Int) + 1 := by omega
      simp [iT, hs, sF_nil_r, this]
    | cons y b =>
      have h1 : (0 : Int) < (a.length : Int) + 1 := by omega
      have h2 : (0 : Int) < (b.length : Int) + 1 := by omega
      have a0 := fun (z : Int) (c : List Int) => atI_nat (D.int z :: c.map D.int) 0
      have d1 := fun (z : Int) (c : List Int) => cut_from (D.int z :: c.map D.int) 1
      simp only [Int.natCast_zero, List.getElem?_cons_zero] at a0
      change ∀ (z : Int) (c : List Int), cutL (D.int z :: c.map D.int) (some 1) none = _ at d1
      simp only [List.drop_succ_cons, List.drop_zero] at d1
      rw [sF] at hs
      by_cases e : x = y
      · rw [if_pos e] at hs
        subst e
        simp [iT, h1, h2, a0, d1]
        exact ⟨a, rfl, b, by simp, hs⟩
      · rw [if_neg e] at hs
        simp [iT, h1, h2, a0, e, hs]
theorem l_ls2 (call : CallT) (h : Hs) (l r : List Int) (hz : l.length < 1000000000) : sWh (w__law_strip_3 call) (b__law_strip_4 call) [some (.d (iT l)), some (.d (iT r))] h = .ok .nx [some (.d (iT (sF l.reverse r.reverse).1.reverse)), some (.d (iT (sF l.reverse r.reverse).2.reverse))] h := by
  refine wh_ind (R := fun q => q = .ok .nx [some (.d (iT (sF l.reverse r.reverse).1.reverse)), some (.d (iT (sF l.reverse r.reverse).2.reverse))] h)
    (fun n s g => ∃ a b : List Int, n = a.length ∧ s = [some (.d (iT a.reverse)), some (.d (iT b.reverse))] ∧ g = h ∧ sF l.reverse r.reverse = sF a b) ⟨l.reverse, r.reverse, by simp, by simp, rfl, rfl⟩ hz ?_
  rintro n s g ⟨a, b, rfl, rfl, rfl, hs⟩
  cases a with
  | nil => simp [iT, hs, sF_nil_l]
  | cons x a =>
    cases b with
    | nil =>
      have : (0 : Int) < (a.length : Int) + 1 := by omega
      simp [iT, hs, sF_nil_r, this]
    | cons y b =>
      have h1 : (0 : Int) < (a.length : Int) + 1 := by omega
      have h2 : (0 : Int) < (b.length : Int) + 1 := by omega
      have a0 : ∀ (z : Int) (c : List Int), L2.atI ((c.map D.int).reverse ++ [D.int z]) (c.length : Int) = some (D.int z) := fun z c => by
        rw [atI_nat]
        rw [List.getElem?_append_right (by simp)]; simp
      have d1 : ∀ (z : Int) (c : List Int), cutL ((c.map D.int).reverse ++ [D.int z]) none (some (c.length : Int)) = (c.map D.int).reverse := fun z c => by
        rw [cut_to, List.take_append_of_le_length (by simp), List.take_of_length_le (by simp)]
      have i1 : ∀ c : Nat, (c : Int) + 1 - 1 = (c : Int) := fun c => by omega
      rw [sF] at hs
      by_cases e : x = y
      · rw [if_pos e] at hs
        subst e
        simp [iT, h1, h2, a0, d1, i1]
        exact ⟨a, rfl, b, by simp, hs⟩
      · rw [if_neg e] at hs
        simp [iT, h1, h2, a0, e, hs, i1]
theorem e_law_strip (n : Nat) (l r : List Int) (h : Hs) (hz : l.length < 1000000000) : callF defs (n + 1) 29 [.d (iT l), .d (iT r)] h = .ok (.d (rD (sB l r))) h := by
  rw [callF_at (md := ⟨2, 2, false, m__law_strip⟩) rfl rfl]
  have e1 := l_ls1 (callF defs n) h l r hz
  have hl : ∀ l r : List Int, (sF l r).1.length ≤ l.length := by
    intro l
    induction l with
    | nil => intro r; rw [sF_nil_l]; simp
    | cons x l ih =>
      intro r
      cases r with
      | nil => rw [sF_nil_r]; simp
      | cons y r =>
        rw [sF]
        split
        · exact Nat.le_trans (ih r) (by simp)
        · simp
  have e2 := l_ls2 (callF defs n) h (sF l r).1 (sF l r).2 (Nat.lt_of_le_of_lt (hl l r) hz)
  unfold sB rD
  generalize sF l r = p at *
  generalize sF p.1.reverse p.2.reverse = q at *
  simp only [iT] at e1 e2 ⊢
  simp [startL, e1, e2]
/-! ### words of a clash -/
def cw (l r : List Int) : Option Str :=
  if l = [] ∨ r = [] then some "empty" else if 0 ≤ l.headD (-1) ∧ 0 ≤ r.headD (-1) then some "front" else if 0 ≤ l.getLastD (-1) ∧ 0 ≤ r.getLastD (-1) then some "back" else none
def oStr : Option Str → D
  | some x => .str x
  | none => .non
theorem hd0 (l : List Int) (h : l ≠ []) : L2.atI (l.map D.int) 0 = some (.int (l.headD (-1))) := by
  cases l with
  | nil => exact absurd rfl h
  | cons x l =>
    have := atI_nat (D.int x :: l.map D.int) 0
    simp only [Int.natCast_zero, List.getElem?_cons_zero] at this
    simpa using this
theorem la0 (l : List Int) (h : l ≠ []) : L2.atI (l.map D.int) ((l.length : Int) - 1) = some (.int (l.getLastD (-1))) := by
  have hp : 0 < l.length := List.length_pos_iff.mpr h
  rw [show (l.length : Int) - 1 = ((l.length - 1 : Nat) : Int) by omega, atI_nat, map_get]
  rw [List.getLastD_eq_getLast?, List.getLast?_eq_getElem?]
  rw [List.getElem?_eq_getElem (by omega)]
  rfl
theorem e_clash_word (n : Nat) (l r : List Int) (h : Hs) : callF defs (n + 1) 13 [.d (iT l), .d (iT r)] h = .ok (.d (oStr (cw l r))) h := by
  rw [callF_at (md := ⟨2, 2, false, m_clash_word⟩) rfl rfl]
  simp only [iT]
  unfold cw
  by_cases h1 : l = []
  · subst h1; simp [startL, eqTN, eqNN, oStr]
  by_cases h2 : r = []
  · subst h2
    simp [startL, eqTN, eqNN, oStr, h1]
  have a1 := hd0 l h1
  have a2 := hd0 r h2
  have a3 := la0 l h1
  have a4 := la0 r h2
  generalize l.headD (-1) = p1 at *
  generalize r.headD (-1) = p2 at *
  generalize l.getLastD (-1) = p3 at *
  generalize r.getLastD (-1) = p4 at *
  by_cases q1 : 0 ≤ p1 <;> by_cases q2 : 0 ≤ p2 <;> by_cases q3 : 0 ≤ p3 <;> by_cases q4 : 0 ≤ p4 <;> simp [startL, eqTN, h1, h2, a1, a2, a3, a4, q1, q2, q3, q4, oStr]
end K03

namespace K03
open PySem PySem.Spec Mi
/-! ### what stripping keeps -/
theorem sF_spec : ∀ l r : List Int, ∃ p, l = p ++ (sF l r).1 ∧ r = p ++ (sF l r).2
  | [], r => ⟨[], by simp [sF_nil_l]⟩
  | x :: l, [] => ⟨[], by simp [sF_nil_r]⟩
  | x :: l, y :: r => by
    rw [sF]
    by_cases e : x = y
    · rw [if_pos e]
      obtain ⟨p, h1, h2⟩ := sF_spec l r
      exact ⟨x :: p, by rw [List.cons_append, ← h1], by rw [List.cons_append, ← h2, e]⟩
    · rw [if_neg e]
      exact ⟨[], rfl, rfl⟩
theorem sB_spec (l r : List Int) : ∃ p q, l = p ++ (sB l r).1 ++ q ∧ r = p ++ (sB l r).2 ++ q := by
  obtain ⟨p, h1, h2⟩ := sF_spec l r
  obtain ⟨q, h3, h4⟩ := sF_spec (sF l r).1.reverse (sF l r).2.reverse
  refine ⟨p, q.reverse, ?_, ?_⟩
  · have := congrArg List.reverse h3
    rw [List.reverse_reverse, List.reverse_append] at this
    rw [List.append_assoc]
    exact h1.trans (congrArg (p ++ ·) this)
  · have := congrArg List.reverse h4
    rw [List.reverse_reverse, List.reverse_append] at this
    rw [List.append_assoc]
    exact h2.trans (congrArg (p ++ ·) this)
/-- nothing to strip in front -/
def Nd (a b : List Int) : Prop := a = [] ∨ b = [] ∨ ∃ x y a' b', a = x :: a' ∧ b = y :: b' ∧ x ≠ y
theorem nd_sF : ∀ l r : List Int, Nd (sF l r).1 (sF l r).2
  | [], r => by rw [sF_nil_l]; exact .inl rfl
  | x :: l, [] => by rw [sF_nil_r]; exact .inr (.inl rfl)
  | x :: l, y :: r => by
    rw [sF]
    by_cases e : x = y
    · rw [if_pos e]; exact nd_sF l r
    · rw [if_neg e]; exact .inr (.inr ⟨x, y, l, r, rfl, rfl, e⟩)
theorem sF_nd {a b : List Int} (h : Nd a b) : sF a b = (a, b) := by
  rcases h with rfl | rfl | ⟨x, y, a', b', rfl, rfl, e⟩
  · exact sF_nil_l b
  · exact sF_nil_r a
  · rw [sF, if_neg e]
theorem nd_cut {a b q : List Int} (h : Nd (a ++ q) (b ++ q)) : Nd a b := by
  cases a with
  | nil => exact .inl rfl
  | cons x a =>
    cases b with
    | nil => exact .inr (.inl rfl)
    | cons y b =>
      rcases h with h | h | ⟨x', y', a', b', h1, h2, e⟩
      · cases h
      · cases h
      · simp only [List.cons_append, List.cons.injEq] at h1 h2
        exact .inr (.inr ⟨x, y, a, b, rfl, rfl, by rw [h1.1, h2.1]; exact e⟩)
theorem sB_fix (l r : List Int) : sB (sB l r).1 (sB l r).2 = sB l r := by
  have n2 : Nd (sB l r).1.reverse (sB l r).2.reverse := by
    unfold sB
    rw [List.reverse_reverse, List.reverse_reverse]
    exact nd_sF _ _
  have n1 : Nd (sB l r).1 (sB l r).2 := by
    obtain ⟨q, h3, h4⟩ := sF_spec (sF l r).1.reverse (sF l r).2.reverse
    have h3' := congrArg List.reverse h3
    have h4' := congrArg List.reverse h4
    rw [List.reverse_reverse, List.reverse_append] at h3' h4'
    have this := nd_sF l r
    have e1 : (sF l r).1 = (sB l r).1 ++ q.reverse := h3'
    have e2 : (sF l r).2 = (sB l r).2 ++ q.reverse := h4'
    rw [e1, e2] at this
    exact nd_cut this
  generalize sB l r = p at *
  unfold sB
  rw [sF_nd n1]
  dsimp only
  rw [sF_nd n2]
  simp
theorem sB_len (l r : List Int) : (sB l r).1.length ≤ l.length ∧ (sB l r).2.length ≤ r.length := by
  obtain ⟨p, q, h1, h2⟩ := sB_spec l r
  have e1 := congrArg List.length h1
  have e2 := congrArg List.length h2
  simp only [List.length_append] at e1 e2
  exact ⟨by omega, by omega⟩
theorem sB_mem (l r : List Int) : (∀ s ∈ (sB l r).1, s ∈ l) ∧ ∀ s ∈ (sB l r).2, s ∈ r := by
  obtain ⟨p, q, h1, h2⟩ := sB_spec l r
  refine ⟨fun s hs => ?_, fun s hs => ?_⟩
  · rw [h1]; simp [hs]
  · rw [h2]; simp [hs]
/-! ### tidying -/
abbrev Row := List Int × List Int
def tdy : Nat → List Row → Sum (Str × Nat) (List Row)
  | _, [] => .inr []
  | i, p :: ps => if (sB p.1 p.2).1 = [] ∧ (sB p.1 p.2).2 = [] then tdy (i + 1) ps else match cw (sB p.1 p.2).1 (sB p.1 p.2).2 with
    | some w => .inl (w, i)
    | none => (match tdy (i + 1) ps with
      | .inl x => .inl x
      | .inr t => .inr (sB p.1 p.2 :: t))
def en : Nat → List D → List D
  | _, [] => []
  | i, x :: xs => .tup [.int (i : Nat), x] :: en (i + 1) xs
theorem en_get : ∀ (xs : List D) (i j : Nat), (en i xs)[j]? = (xs[j]?).map fun d => D.tup [.int ((i + j : Nat) : Int), d]
  | [], i, j => by simp [en]
  | x :: xs, i, 0 => by simp [en]
  | x :: xs, i, j + 1 => by
    rw [en, List.getElem?_cons_succ, List.getElem?_cons_succ, en_get xs (i + 1) j, show i + 1 + j = i + (j + 1) by omega]
theorem enumD_en (xs : List D) : enumD xs = en 0 xs := by
  apply List.ext_getElem?
  intro j
  rw [enumD_get, en_get, Nat.zero_add]
def st1 (n : Nat) (o : Option Vl) : Prop := clr1 n o = o
theorem l_td (n : Nat) (A : D) (h : Hs) : ∀ (ps : List Row) (i : Nat) (acc : List D), (∀ p ∈ ps, p.1.length < 1000000000) → acc.length + ps.length < sizeLine → ∀ a b c d, clr1 (h.length + 1) a = a → clr1 (h.length + 1) b = b → clr1 (h.length + 1) c = c → clr1 (h.length + 1) d = d → match tdy i ps with
    | .inl (w, k) => ∃ σ acc', forL (gTp 2 (gCo (gNm 2) (gCo (gTp 2 (gCo (gNm 3) (gCo (gNm 4) gNi))) gNi))) (b_tidy_1 (callF defs (n + 5))) (en i (ps.map rD)) [some (.d A), some (.r h.length), a, b, c, d] (h ++ [.lst acc]) = .ok (.ret (.d (clD w k))) σ (h ++ [.lst acc'])
    | .inr t => ∃ a' b' c' d', forL (gTp 2 (gCo (gNm 2) (gCo (gTp 2 (gCo (gNm 3) (gCo (gNm 4) gNi))) gNi))) (b_tidy_1 (callF defs (n + 5))) (en i (ps.map rD)) [some (.d A), some (.r h.length), a, b, c, d] (h ++ [.lst acc]) = .ok .nx [some (.d A), some (.r h.length), a', b', c', d'] (h ++ [.lst (acc ++ t.map rD)])
  | [], i, acc, _, _, a, b, c, d, _, _, _, _ => ⟨a, b, c, d, by simp [en, forL]⟩
  | (l, r) :: ps, i, acc, hp, hz, a, b, c, d, ha, hb, hc, hd => by
    rw [List.length_cons] at hz
    have hz' : acc.length < sizeLine := by omega
    have hl := hp (l, r) List.mem_cons_self
    dsimp only at hl
    have e1 := fun h => e_stripped (n + 4) l r h hl
    have e2 := fun h => e_clash_word (n + 4) (sB l r).1 (sB l r).2 h
    have e3 := fun w h => e_clash (n + 4) w (i : Int) h
    unfold tdy
    dsimp only
    unfold rD at e1
    generalize hs : sB l r = s at *
    obtain ⟨s1, s2⟩ := s
    dsimp only at e1 e2 ⊢
    have hps := fun p hp' => hp p (List.mem_cons_of_mem _ hp')
    by_cases hE : s1 = [] ∧ s2 = []
    · rw [if_pos hE]
      obtain ⟨rfl, rfl⟩ := hE
      have ih := l_td n A h ps (i + 1) acc hps (by omega) (some (.d (.int (i : Int)))) (some (.d (iT []))) (some (.d (iT []))) d rfl rfl rfl hd
      have stp : ∀ R, R = forL (gTp 2 (gCo (gNm 2) (gCo (gTp 2 (gCo (gNm 3) (gCo (gNm 4) gNi))) gNi))) (b_tidy_1 (callF defs (n + 5))) (en i (((l, r) :: ps).map rD)) [some (.d A), some (.r h.length), a, b, c, d] (h ++ [.lst acc]) → R = forL (gTp 2 (gCo (gNm 2) (gCo (gTp 2 (gCo (gNm 3) (gCo (gNm 4) gNi))) gNi))) (b_tidy_1 (callF defs (n + 5))) (en (i + 1) (ps.map rD)) [some (.d A), some (.r h.length), some (.d (.int (i : Int))), some (.d (iT [])), some (.d (iT [])), d] (h ++ [.lst acc]) := fun R hR => by
        rw [hR]
        simp only [iT] at e1 e2 ⊢
        simp [en, forL, rD, iT, e1, eqNN, hd]
      have q := stp _ rfl
      rw [q]
      exact ih
    · rw [if_neg hE]
      cases hw : cw s1 s2 with
      | some w =>
        rw [hw] at e2
        dsimp only
        refine ⟨[some (.d A), some (.r h.length), some (.d (.int (i : Int))), some (.d (iT s1)), some (.d (iT s2)), some (.d (.str w))], acc, ?_⟩
        have hE' : s1 = [] → ¬ s2 = [] := fun h1 h2 => hE ⟨h1, h2⟩
        simp only [iT, oStr] at e1 e2 ⊢
        by_cases h1 : s1 = []
        · have h2 := hE' h1
          subst h1
          simp only [List.map_nil] at e1 e2 ⊢
          simp [en, forL, rD, iT, e1, e2, e3, eqTN, eqNN, h2]
        · simp [en, forL, rD, iT, e1, e2, e3, eqTN, h1]
      | none =>
        rw [hw] at e2
        have ih := l_td n A h ps (i + 1) (acc ++ [rD (s1, s2)]) hps (by rw [List.length_append, List.length_singleton]; omega) (some (.d (.int (i : Int)))) (some (.d (iT s1))) (some (.d (iT s2))) (some (.d .non)) rfl rfl rfl rfl
        have hE' : s1 = [] → ¬ s2 = [] := fun h1 h2 => hE ⟨h1, h2⟩
        have q : forL (gTp 2 (gCo (gNm 2) (gCo (gTp 2 (gCo (gNm 3) (gCo (gNm 4) gNi))) gNi))) (b_tidy_1 (callF defs (n + 5))) (en i (((l, r) :: ps).map rD)) [some (.d A), some (.r h.length), a, b, c, d] (h ++ [.lst acc]) = forL (gTp 2 (gCo (gNm 2) (gCo (gTp 2 (gCo (gNm 3) (gCo (gNm 4) gNi))) gNi))) (b_tidy_1 (callF defs (n + 5))) (en (i + 1) (ps.map rD)) [some (.d A), some (.r h.length), some (.d (.int (i : Int))), some (.d (iT s1)), some (.d (iT s2)), some (.d .non)] (h ++ [.lst (acc ++ [rD (s1, s2)])]) := by
          simp only [iT, oStr] at e1 e2 ⊢
          by_cases h1 : s1 = []
          · have h2 := hE' h1
            subst h1
            simp only [List.map_nil] at e1 e2 ⊢
            simp [en, forL, rD, iT, e1, e2, eqTN, eqNN, h2, hz']
          · simp [en, forL, rD, iT, e1, e2, eqTN, h1, hz']
        rw [q]
        dsimp only
        cases ht : tdy (i + 1) ps with
        | inl x =>
          obtain ⟨w, k⟩ := x
          rw [ht] at ih
          exact ih
        | inr t =>
          rw [ht] at ih
          obtain ⟨a', b', c', d', e⟩ := ih
          exact ⟨a', b', c', d', by rw [e, List.append_assoc]; rfl⟩
def Bk.tidy (b : Bk) : Mi.D := match tdy 0 b.rs with
  | .inl (w, k) => clD w k
  | .inr t => Bk.D { b with rs := t }
theorem tdy_mem : ∀ (ps : List Row) (i : Nat) (t : List Row), tdy i ps = .inr t → t.length ≤ ps.length ∧ ∀ q ∈ t, ∃ p ∈ ps, q = sB p.1 p.2 ∧ ¬ (q.1 = [] ∧ q.2 = []) ∧ cw q.1 q.2 = none
  | [], i, t, h => by
    cases h
    exact ⟨Nat.le_refl _, fun q hq => by cases hq⟩
  | p :: ps, i, t, h => by
    unfold tdy at h
    split at h
    · obtain ⟨h1, h2⟩ := tdy_mem ps (i + 1) t h
      exact ⟨Nat.le_trans h1 (by simp), fun q hq => let ⟨p', a, b⟩ := h2 q hq; ⟨p', List.mem_cons_of_mem _ a, b⟩⟩
    · rename_i hE
      split at h
      · cases h
      · rename_i hw
        split at h
        · cases h
        · rename_i t' ht
          cases h
          obtain ⟨h1, h2⟩ := tdy_mem ps (i + 1) t' ht
          refine ⟨by simpa using h1, fun q hq => ?_⟩
          rcases List.mem_cons.mp hq with rfl | hq
          · exact ⟨p, List.mem_cons_self, rfl, hE, hw⟩
          · obtain ⟨p', a, b⟩ := h2 q hq
            exact ⟨p', List.mem_cons_of_mem _ a, b⟩
theorem tdy_again : ∀ (t : List Row) (i : Nat), (∀ q ∈ t, (∃ p : Row, q = sB p.1 p.2) ∧ ¬ (q.1 = [] ∧ q.2 = []) ∧ cw q.1 q.2 = none) → tdy i t = .inr t
  | [], i, _ => rfl
  | q :: t, i, h => by
    obtain ⟨⟨p, hp⟩, h1, h2⟩ := h q List.mem_cons_self
    have e : sB q.1 q.2 = q := by rw [hp, sB_fix]
    unfold tdy
    rw [e, if_neg h1, h2, tdy_again t (i + 1) fun q hq => h q (List.mem_cons_of_mem _ hq)]
theorem Bk.Ok.tidy {b : Bk} (ok : b.Ok) {t : List Row} (h : tdy 0 b.rs = .inr t) : Bk.Ok { b with rs := t } := by
  obtain ⟨h1, h2⟩ := tdy_mem _ _ _ h
  refine ⟨ok.s, ok.d, ok.e, fun x hx => ?_, ok.dz, ok.ez, Nat.lt_of_le_of_lt h1 ok.rz⟩
  obtain ⟨p, hp, rfl, _⟩ := h2 x hx
  obtain ⟨r1, r2⟩ := ok.r p hp
  refine ⟨fun s hs => r1 s ?_, ?_⟩
  · rcases List.mem_append.mp hs with hs | hs
    · exact List.mem_append.mpr (.inl ((sB_mem p.1 p.2).1 s hs))
    · exact List.mem_append.mpr (.inr ((sB_mem p.1 p.2).2 s hs))
  · have := sB_len p.1 p.2
    omega
theorem e_tidy (n : Nat) (b : Bk) (h : Hs) (ok : b.Ok) : callF defs (n + 6) 14 [.d b.D] h = .ok (.d b.tidy) h := by
  rw [callF_at (md := ⟨1, 6, false, m_tidy⟩) rfl rfl]
  have hl : ∀ p ∈ b.rs, p.1.length < 1000000000 := fun p hp => by
    have := (ok.r p hp).2
    have z : sizeLine = 16777216 := by decide
    omega
  have q := l_td n b.D h b.rs 0 [] hl (by simpa using ok.rz) none none none none rfl rfl rfl rfl
  unfold Bk.tidy
  cases ht : tdy 0 b.rs with
  | inl x =>
    obtain ⟨w, k⟩ := x
    rw [ht] at q
    obtain ⟨σ, acc', q⟩ := q
    simp only [Bk.D] at q ⊢
    simp [startL, ok_rows, List.lookup, enumD_en, q]
  | inr t =>
    rw [ht] at q
    obtain ⟨a', b', c', d', q⟩ := q
    have e := fun h => e_book n { b with rs := t } h (ok.tidy ht) (.l _) (.t _) (.t _)
    simp only [Bk.D, List.nil_append] at q e ⊢
    simp [startL, ok_rows, ok_deeds, ok_ends, ok_states, List.lookup, enumD_en, q, toD, e]
end K03

namespace K03
open PySem PySem.Spec Mi
theorem rng_nil (i : Int) : rngD i 0 = [] := rfl
theorem rng_cons (i : Nat) (k : Nat) : rngD (i : Int) (k + 1) = .int (i : Int) :: rngD ((i + 1 : Nat) : Int) k := by
  apply List.ext_getElem?
  intro j
  cases j with
  | zero => rw [rngD_get]; simp
  | succ j =>
    rw [List.getElem?_cons_succ, rngD_get, rngD_get]
    by_cases h : j < k
    · rw [if_pos (by omega), if_pos h]
      congr 2
      omega
    · rw [if_neg (by omega), if_neg h]
def ltD : Sum (Str × Nat) (List Row) → D
  | .inl (w, k) => .tup [.str w, .int (k : Nat)]
  | .inr t => .lv (t.map rD)
theorem hdI (z : Int) (xs : List D) : L2.atI (D.int z :: xs) 0 = some (D.int z) := by
  have := atI_nat (D.int z :: xs) 0
  simpa using this
theorem l_lt (n : Nat) (h : Hs) (rs : List Row) : ∀ (ps pre : List Row) (acc : List D), rs = pre ++ ps → (∀ p ∈ ps, p.1.length < 1000000000) → acc.length + ps.length < sizeLine → ∀ a b c, clr1 (h.length + 1) a = a → clr1 (h.length + 1) b = b → clr1 (h.length + 1) c = c → match tdy pre.length ps with
    | .inl (w, k) => ∃ σ acc', forL (gNm 2) (b__law_tidy_1 (callF defs (n + 1))) (rngD (pre.length : Int) ps.length) [some (.d (.lv (rs.map rD))), some (.r h.length), a, b, c] (h ++ [.lst acc]) = .ok (.ret (.d (.tup [.str w, .int (k : Nat)]))) σ (h ++ [.lst acc'])
    | .inr t => ∃ a' b' c', forL (gNm 2) (b__law_tidy_1 (callF defs (n + 1))) (rngD (pre.length : Int) ps.length) [some (.d (.lv (rs.map rD))), some (.r h.length), a, b, c] (h ++ [.lst acc]) = .ok .nx [some (.d (.lv (rs.map rD))), some (.r h.length), a', b', c'] (h ++ [.lst (acc ++ t.map rD)])
  | [], pre, acc, _, _, _, a, b, c, _, _, _ => ⟨a, b, c, by simp [rng_nil, forL]⟩
  | (l, r) :: ps, pre, acc, hrs, hp, hz, a, b, c, ha, hb, hc => by
    rw [List.length_cons] at hz
    have hz' : acc.length < sizeLine := by omega
    have hl := hp (l, r) List.mem_cons_self
    dsimp only at hl
    have e1 : ∀ h, callF defs (n + 1) 29 [.d (iT l), .d (iT r)] h = .ok (.d (.tup [iT (sB l r).1, iT (sB l r).2])) h := fun h => e_law_strip n l r h hl
    have gt : L2.atI (rs.map rD) (pre.length : Int) = some (.tup [iT l, iT r]) := by
      rw [atI_nat, hrs]; simp [rD]
    have g0 : L2.atI [iT l, iT r] 0 = some (iT l) := rfl
    have g1 : L2.atI [iT l, iT r] 1 = some (iT r) := rfl
    unfold tdy
    dsimp only
    generalize hs : sB l r = s at *
    obtain ⟨s1, s2⟩ := s
    dsimp only at e1 gt ⊢
    have hps := fun p hp' => hp p (List.mem_cons_of_mem _ hp')
    have ih := fun acc' hz a b c ha hb hc => l_lt n h rs ps (pre ++ [(l, r)]) acc' (by rw [hrs]; simp) hps hz a b c ha hb hc
    rw [List.length_append, List.length_singleton] at ih
    rw [List.length_cons, rng_cons]
    have l0 : ∀ s : List Int, (s.length : Int) = 0 ↔ s = [] := fun s => by
      rw [← List.length_eq_zero_iff]; omega
    by_cases hE : s1 = [] ∧ s2 = []
    · rw [if_pos hE]
      obtain ⟨rfl, rfl⟩ := hE
      have ih := ih acc (by omega) (some (.d (.int (pre.length : Int)))) (some (.d (iT []))) (some (.d (iT []))) rfl rfl rfl
      have q : forL (gNm 2) (b__law_tidy_1 (callF defs (n + 1))) (.int (pre.length : Int) :: rngD ((pre.length + 1 : Nat) : Int) ps.length) [some (.d (.lv (rs.map rD))), some (.r h.length), a, b, c] (h ++ [.lst acc]) = forL (gNm 2) (b__law_tidy_1 (callF defs (n + 1))) (rngD ((pre.length + 1 : Nat) : Int) ps.length) [some (.d (.lv (rs.map rD))), some (.r h.length), some (.d (.int (pre.length : Int))), some (.d (iT [])), some (.d (iT []))] (h ++ [.lst acc]) := by
        simp only [iT, List.map_nil] at e1 gt g0 g1 ⊢
        simp [forL, gt, g0, g1, e1]
      rw [q]
      exact ih
    · rw [if_neg hE]
      have hE' : s1 = [] → ¬ s2 = [] := fun h1 h2 => hE ⟨h1, h2⟩
      cases hw : cw s1 s2 with
      | some w =>
        dsimp only
        refine ⟨[some (.d (.lv (rs.map rD))), some (.r h.length), some (.d (.int (pre.length : Int))), some (.d (iT s1)), some (.d (iT s2))], acc, ?_⟩
        unfold cw at hw
        by_cases h1 : s1 = []
        · have h2 := hE' h1
          subst h1
          simp at hw
          subst hw
          simp only [iT, List.map_nil] at e1 gt g0 g1 ⊢
          simp [forL, gt, g0, g1, e1, l0, h2]
        by_cases h2 : s2 = []
        · subst h2
          simp at hw
          subst hw
          simp only [iT, List.map_nil] at e1 gt g0 g1 ⊢
          simp [forL, gt, g0, g1, e1, l0, h1]
        rw [if_neg (by simp [h1, h2])] at hw
        have a1 := hd0 s1 h1
        have a2 := hd0 s2 h2
        have a3 := la0 s1 h1
        have a4 := la0 s2 h2
        generalize s1.headD (-1) = p1 at *
        generalize s2.headD (-1) = p2 at *
        generalize s1.getLastD (-1) = p3 at *
        generalize s2.getLastD (-1) = p4 at *
        simp only [iT] at e1 gt g0 g1 ⊢
        by_cases q1 : 0 ≤ p1 ∧ 0 ≤ p2
        · rw [if_pos q1] at hw
          cases hw
          simp [forL, gt, g0, g1, e1, l0, h1, h2, a1, a2, q1.1, q1.2]
        · rw [if_neg q1] at hw
          by_cases q2 : 0 ≤ p3 ∧ 0 ≤ p4
          · rw [if_pos q2] at hw
            cases hw
            by_cases q3 : 0 ≤ p1
            · have q4 : ¬ 0 ≤ p2 := fun z => q1 ⟨q3, z⟩
              simp [forL, gt, g0, g1, e1, l0, h1, h2, a1, a2, a3, a4, q2.1, q2.2, q3, q4]
            · simp [forL, gt, g0, g1, e1, l0, h1, h2, a1, a2, a3, a4, q2.1, q2.2, q3]
          · rw [if_neg q2] at hw; cases hw
      | none =>
        have ih := ih (acc ++ [rD (s1, s2)]) (by rw [List.length_append, List.length_singleton]; omega) (some (.d (.int (pre.length : Int)))) (some (.d (iT s1))) (some (.d (iT s2))) rfl rfl rfl
        have q : forL (gNm 2) (b__law_tidy_1 (callF defs (n + 1))) (.int (pre.length : Int) :: rngD ((pre.length + 1 : Nat) : Int) ps.length) [some (.d (.lv (rs.map rD))), some (.r h.length), a, b, c] (h ++ [.lst acc]) = forL (gNm 2) (b__law_tidy_1 (callF defs (n + 1))) (rngD ((pre.length + 1 : Nat) : Int) ps.length) [some (.d (.lv (rs.map rD))), some (.r h.length), some (.d (.int (pre.length : Int))), some (.d (iT s1)), some (.d (iT s2))] (h ++ [.lst (acc ++ [rD (s1, s2)])]) := by
          unfold cw at hw
          by_cases h1 : s1 = []
          · rw [if_pos (.inl h1)] at hw; cases hw
          by_cases h2 : s2 = []
          · rw [if_pos (.inr h2)] at hw; cases hw
          rw [if_neg (by simp [h1, h2])] at hw
          have a1 := hd0 s1 h1
          have a2 := hd0 s2 h2
          have a3 := la0 s1 h1
          have a4 := la0 s2 h2
          generalize s1.headD (-1) = p1 at *
          generalize s2.headD (-1) = p2 at *
          generalize s1.getLastD (-1) = p3 at *
          generalize s2.getLastD (-1) = p4 at *
          by_cases q1 : 0 ≤ p1 ∧ 0 ≤ p2
          · rw [if_pos q1] at hw; cases hw
          rw [if_neg q1] at hw
          by_cases q2 : 0 ≤ p3 ∧ 0 ≤ p4
          · rw [if_pos q2] at hw; cases hw
          simp only [iT] at e1 gt g0 g1 ⊢
          by_cases q3 : 0 ≤ p1
          · have q4 : ¬ 0 ≤ p2 := fun z => q1 ⟨q3, z⟩
            by_cases q5 : 0 ≤ p3
            · have q6 : ¬ 0 ≤ p4 := fun z => q2 ⟨q5, z⟩
              simp [forL, gt, g0, g1, e1, l0, h1, h2, a1, a2, a3, a4, q3, q4, q5, q6, hz', rD, iT]
            · simp [forL, gt, g0, g1, e1, l0, h1, h2, a1, a2, a3, a4, q3, q4, q5, hz', rD, iT]
          · by_cases q5 : 0 ≤ p3
            · have q6 : ¬ 0 ≤ p4 := fun z => q2 ⟨q5, z⟩
              simp [forL, gt, g0, g1, e1, l0, h1, h2, a1, a2, a3, a4, q3, q5, q6, hz', rD, iT]
            · simp [forL, gt, g0, g1, e1, l0, h1, h2, a1, a2, a3, a4, q3, q5, hz', rD, iT]
        rw [q]
        dsimp only
        cases ht : tdy (pre.length + 1) ps with
        | inl x =>
          obtain ⟨w, k⟩ := x
          rw [ht] at ih
          exact ih
        | inr t =>
          rw [ht] at ih
          obtain ⟨a', b', c', e⟩ := ih
          exact ⟨a', b', c', by rw [e, List.append_assoc]; rfl⟩
theorem e_law_tidy (n : Nat) (rs : List Row) (h : Hs) (hl : ∀ p ∈ rs, p.1.length < 1000000000) (hz : rs.length < sizeLine) : callF defs (n + 2) 30 [.d (.lv (rs.map rD))] h = .ok (.d (ltD (tdy 0 rs))) h := by
  rw [callF_at (md := ⟨1, 5, false, m__law_tidy⟩) rfl rfl]
  have q := l_lt n h rs rs [] [] rfl hl (by simpa using hz) none none none rfl rfl rfl
  have hz1 : rs.length < 16777216 := Nat.lt_of_lt_of_eq hz sizeLine_eq
  rw [List.length_nil] at q
  cases ht : tdy 0 rs with
  | inl x =>
    obtain ⟨w, k⟩ := x
    rw [ht] at q
    obtain ⟨σ, acc', q⟩ := q
    change forL _ _ (rngD 0 _) _ _ = _ at q
    simp [startL, ltD, rngR_nat hz1, q]
  | inr t =>
    rw [ht] at q
    obtain ⟨a', b', c', q⟩ := q
    change forL _ _ (rngD 0 _) _ _ = _ at q
    rw [List.nil_append] at q
    simp [startL, ltD, rngR_nat hz1, q]
    rw [fin_retR (xs := t.map rD) (by simp)]
    simp
end K03

namespace K03
open PySem PySem.Spec Mi
/-! ### filling -/
def fill (ws : List (List Int)) : List Int → List Int
  | [] => []
  | x :: s => (if 0 ≤ x then [x] else ws.getD (-1 - x).toNat []) ++ fill ws s
theorem fill_app (ws : List (List Int)) : ∀ s t : List Int, fill ws (s ++ t) = fill ws s ++ fill ws t
  | [], t => rfl
  | x :: s, t => by rw [List.cons_append, fill, fill, fill_app ws s t, List.append_assoc]
theorem Sq.ix {d : D} {xs : List D} (s : Sq d xs) (i : Int) (h : Hs) : oIx (.d d) (.d (.int i)) h = (L2.atI xs i).map fun d => (.d d, h) := by cases s <;> rfl
theorem l_fill (call : CallT) (A T : D) (ws : List (List Int)) (sq : Sq T (ws.map iT)) (h : Hs) : ∀ (s acc : List Int), (∀ x ∈ s, x < 0 → -1 - x < (ws.length : Int)) → acc.length + (fill ws s).length < sizeLine → ∀ e, ∃ e', forL (gNm 3) (b__law_filled_1 call) (s.map D.int) [some (.d A), some (.d T), some (.r h.length), e] (h ++ [.lst (acc.map D.int)]) = .ok .nx [some (.d A), some (.d T), some (.r h.length), e'] (h ++ [.lst ((acc ++ fill ws s).map D.int)])
  | [], acc, _, _, e => ⟨e, by simp [forL, fill]⟩
  | x :: s, acc, hx, hz, e => by
    have hx0 := hx x List.mem_cons_self
    have hxs := fun y hy => hx y (List.mem_cons_of_mem _ hy)
    by_cases h0 : 0 ≤ x
    · rw [fill, if_pos h0] at hz ⊢
      rw [List.length_append, List.length_singleton] at hz
      have hz' : acc.length < sizeLine := by omega
      obtain ⟨e', q⟩ := l_fill call A T ws sq h s (acc ++ [x]) hxs (by rw [List.length_append, List.length_singleton]; omega) (some (.d (.int x)))
      simp only [List.map_append, List.map_cons, List.map_nil] at q
      exact ⟨e', by simp [forL, h0, hz', q]⟩
    · rw [fill, if_neg h0] at hz ⊢
      have h1 := hx0 (by omega)
      have hk : (-1 - x).toNat < ws.length := by omega
      have hg : L2.atI (ws.map iT) (-1 - x) = some (iT (ws.getD (-1 - x).toNat [])) := by
        rw [show (-1 - x : Int) = (((-1 - x).toNat : Nat) : Int) by omega, atI_nat, List.getElem?_map, Int.toNat_natCast]
        rw [List.getElem?_eq_getElem hk, List.getD_eq_getElem?_getD, List.getElem?_eq_getElem hk]
        rfl
      generalize ws.getD (-1 - x).toNat [] = w at *
      rw [List.length_append] at hz
      have hz' : acc.length + w.length ≤ sizeLine := by omega
      obtain ⟨e', q⟩ := l_fill call A T ws sq h s (acc ++ w) hxs (by rw [List.length_append]; omega) (some (.d (.int x)))
      simp only [List.map_append, List.map_cons, List.map_nil, iT] at q hg
      exact ⟨e', by simp [forL, h0, hz', q, sq.ix, hg, ← List.append_assoc]⟩
theorem e_filled (n : Nat) (T : D) (ws : List (List Int)) (sq : Sq T (ws.map iT)) (s : List Int) (h : Hs) (hx : ∀ x ∈ s, x < 0 → -1 - x < (ws.length : Int)) (hz : (fill ws s).length < sizeLine) : callF defs (n + 1) 22 [.d (iT s), .d T] h = .ok (.d (iT (fill ws s))) h := by
  rw [callF_at (md := ⟨2, 4, false, m__law_filled⟩) rfl rfl]
  obtain ⟨e', q⟩ := l_fill (callF defs n) (iT s) T ws sq h s [] hx (by simpa using hz) none
  simp only [iT, List.map_nil, List.nil_append] at q ⊢
  simp [startL, q, n_tupR (at_len)]
/-! ### rows that hold -/
def holds (ws : List (List Int)) (rs : List Row) : Bool := rs.all fun p => decide (fill ws p.1 = fill ws p.2)
/-- a row can be filled -/
def Fb (ws : List (List Int)) (p : Row) : Prop := (∀ x ∈ p.1, x < 0 → -1 - x < (ws.length : Int)) ∧ (∀ x ∈ p.2, x < 0 → -1 - x < (ws.length : Int)) ∧ (fill ws p.1).length < sizeLine ∧ (fill ws p.2).length < sizeLine
theorem l_rh (n : Nat) (A T : D) (ws : List (List Int)) (sq : Sq T (ws.map iT)) (h : Hs) : ∀ (rs : List Row), (∀ p ∈ rs, Fb ws p) → ∀ a b, ∃ a' b', forL (gTp 2 (gCo (gNm 2) (gCo (gNm 3) gNi))) (b__law_rows_hold_1 (callF defs (n + 1))) (rs.map rD) [some (.d A), some (.d T), a, b] h = .ok (if holds ws rs then .nx else .ret (.d (.bl false))) [some (.d A), some (.d T), a', b'] h
  | [], _, a, b => ⟨a, b, rfl⟩
  | (l, r) :: rs, hf, a, b => by
    obtain ⟨f1, f2, f3, f4⟩ := hf (l, r) List.mem_cons_self
    have e1 := fun h => e_filled n T ws sq l h f1 f3
    have e2 := fun h => e_filled n T ws sq r h f2 f4
    have e3 := fun h => o_neT (fill ws l) (fill ws r) h
    have hh : holds ws ((l, r) :: rs) = (decide (fill ws l = fill ws r) && holds ws rs) := rfl
    rw [hh]
    by_cases q0 : fill ws l = fill ws r
    · obtain ⟨a', b', q⟩ := l_rh n A T ws sq h rs (fun p hp => hf p (List.mem_cons_of_mem _ hp)) (some (.d (iT l))) (some (.d (iT r)))
      rw [q0] at e1
      have e4 := fun h => o_neT (fill ws r) (fill ws r) h
      simp only [iT] at e1 e2 e4 q ⊢
      exact ⟨a', b', by simp [forL, rD, iT, e1, e2, e4, q0, q]⟩
    · simp only [iT] at e1 e2 e3 ⊢
      exact ⟨some (.d (iT l)), some (.d (iT r)), by simp [forL, rD, iT, e1, e2, e3, q0]⟩
theorem e_rows_hold (n : Nat) (T R : D) (ws : List (List Int)) (rs : List Row) (sq : Sq T (ws.map iT)) (sr : Sq R (rs.map rD)) (h : Hs) (hf : ∀ p ∈ rs, Fb ws p) : callF defs (n + 2) 27 [.d R, .d T] h = .ok (.d (.bl (holds ws rs))) h := by
  rw [callF_at (md := ⟨2, 4, false, m__law_rows_hold⟩) rfl rfl]
  obtain ⟨a', b', q⟩ := l_rh n R T ws sq h rs hf none none
  cases hh : holds ws rs <;> rw [hh] at q <;> simp [startL, sr.ps, q]
end K03

namespace K03
open PySem PySem.Spec Mi
/-! ### deeds of texts -/
theorem e_after (n : Nat) (A B : List Int) (h : Hs) (S : Nat) (ha : ∀ i ∈ A, 0 ≤ i ∧ i < (S : Int)) (hb : B.length = S) (hz : A.length < sizeLine) : callF defs (n + 1) 20 [.d (iT A), .d (iT B)] h = .ok (.d (iT (A.map fun i => B.getD i.toNat 0))) h := by
  rw [callF_at (md := ⟨2, 3, false, m__law_after⟩) rfl rfl]
  have key := cmpL_map (vs := [2]) (g := gNm 2) (t := tYs) (f := eBin oIx (eVar 1) (eVar 2)) (σ := [some (.d (iT A)), some (.d (iT B)), none]) (h := h) (ds := A.map D.int) (keep := fun _ => true) (k := fun d => match d with
    | .int i => .int (B.getD i.toNat 0)
    | d => d) (by simpa using hz) (fun d h' hd => by
      obtain ⟨i, hi, rfl⟩ := List.mem_map.mp hd
      obtain ⟨h0, h1⟩ := ha i hi
      have hg : L2.atI (B.map D.int) i = some (.int (B.getD i.toNat 0)) := by
        rw [show (i : Int) = ((i.toNat : Nat) : Int) by omega, atI_nat, map_get, Int.toNat_natCast]
        rw [List.getElem?_eq_getElem (by omega), List.getD_eq_getElem?_getD, List.getElem?_eq_getElem (by omega)]
        rfl
      simp only [iT]
      exact ⟨[some (.d (.tup (A.map D.int))), some (.d (.tup (B.map D.int))), some (.d (.int i))], by simp [wipeL], by simp, fun _ => by simp [hg]⟩)
  have e2 : ((A.map D.int).filter fun _ => true).map (fun d => match d with
    | .int i => .int (B.getD i.toNat 0)
    | d => d) = (A.map fun i => B.getD i.toNat 0).map D.int := by
    rw [List.filter_eq_self.mpr (fun _ _ => rfl), List.map_map, List.map_map]; rfl
  rw [e2] at key
  simp only [iT] at key ⊢
  simp [startL, key, lcEnd]
def stepW (ds : List (List Int)) (a : List Int) (x : Int) : List Int := a.map fun i => (ds.getD x.toNat []).getD i.toNat 0
def rg (S : Nat) : List Int := (List.range S).map fun i : Nat => (i : Int)
theorem rngD_ints (n : Nat) : rngD 0 n = (rg n).map D.int := by
  unfold rngD rg
  rw [List.map_map]
  apply List.map_congr_left
  intro i _
  simp
def comp (S : Nat) (ds : List (List Int)) (w : List Int) : List Int := w.foldl (stepW ds) (rg S)
theorem l_td2 (n S : Nat) (DD : D) (ds : List (List Int)) (sq : Sq DD (ds.map iT)) (hd : ∀ x ∈ ds, OkW S x) (hS : S < sizeLine) (W : D) (h : Hs) : ∀ (w : List Int) (a : List Int), OkW S a → (∀ x ∈ w, 0 ≤ x ∧ x < (ds.length : Int)) → ∀ e, ∃ e', OkW S (w.foldl (stepW ds) a) ∧ forL (gNm 4) (b__law_text_deed_1 (callF defs (n + 1))) (w.map D.int) [some (.d DD), some (.d (.int (S : Int))), some (.d W), some (.d (iT a)), e] h = .ok .nx [some (.d DD), some (.d (.int (S : Int))), some (.d W), some (.d (iT (w.foldl (stepW ds) a))), e'] h
  | [], a, oa, _, e => ⟨e, oa, rfl⟩
  | x :: w, a, oa, hw, e => by
    obtain ⟨h0, h1⟩ := hw x List.mem_cons_self
    have hk : x.toNat < ds.length := by omega
    have hg : L2.atI (ds.map iT) x = some (iT (ds.getD x.toNat [])) := by
      rw [show (x : Int) = ((x.toNat : Nat) : Int) by omega, atI_nat, List.getElem?_map, Int.toNat_natCast]
      rw [List.getElem?_eq_getElem hk, List.getD_eq_getElem?_getD, List.getElem?_eq_getElem hk]
      rfl
    have hB : OkW S (ds.getD x.toNat []) := by
      rw [List.getD_eq_getElem?_getD, List.getElem?_eq_getElem hk]
      exact hd _ (List.getElem_mem hk)
    have oc : OkW S (stepW ds a x) := by
      unfold stepW
      refine ⟨by rw [List.length_map]; exact oa.1, fun i hi => ?_⟩
      obtain ⟨j, hj, rfl⟩ := List.mem_map.mp hi
      obtain ⟨j0, j1⟩ := oa.2 j hj
      have hb1 := hB.1
      generalize ds.getD x.toNat [] = B at *
      rw [List.getD_eq_getElem?_getD, List.getElem?_eq_getElem (by omega)]
      exact hB.2 _ (List.getElem_mem _)
    have ea : ∀ h, callF defs (n + 1) 20 [.d (iT a), .d (iT (ds.getD x.toNat []))] h = .ok (.d (iT (stepW ds a x))) h := fun h => e_after n a (ds.getD x.toNat []) h S oa.2 hB.1 (by rw [oa.1]; exact hS)
    obtain ⟨e', o', q⟩ := l_td2 n S DD ds sq hd hS W h w _ oc (fun y hy => hw y (List.mem_cons_of_mem _ hy)) (some (.d (.int x)))
    refine ⟨e', o', ?_⟩
    rw [List.foldl_cons]
    generalize List.foldl (stepW ds) (stepW ds a x) w = z at *
    generalize stepW ds a x = a2 at *
    generalize ds.getD x.toNat [] = B at *
    simp only [iT] at ea hg q ⊢
    simp [forL, sq.ix, hg, ea, q]
theorem ok_range (S : Nat) : OkW S (rg S) := by
  unfold rg
  refine ⟨by simp, fun i hi => ?_⟩
  obtain ⟨j, hj, rfl⟩ := List.mem_map.mp hi
  have := List.mem_range.mp hj
  exact ⟨by omega, by omega⟩
theorem e_text_deed (n S : Nat) (DD : D) (ds : List (List Int)) (sq : Sq DD (ds.map iT)) (hd : ∀ x ∈ ds, OkW S x) (hS : S < sizeLine) (w : List Int) (h : Hs) (hw : ∀ x ∈ w, 0 ≤ x ∧ x < (ds.length : Int)) : callF defs (n + 2) 24 [.d DD, .d (.int (S : Int)), .d (iT w)] h = .ok (.d (iT (comp S ds w))) h ∧ OkW S (comp S ds w) := by
  obtain ⟨e', o, q⟩ := l_td2 n S DD ds sq hd hS (iT w) h w _ (ok_range S) hw none
  refine ⟨?_, o⟩
  rw [callF_at (md := ⟨3, 5, false, m__law_text_deed⟩) rfl rfl]
  have hS' : S < 16777216 := Nat.lt_of_lt_of_eq hS sizeLine_eq
  change forL _ _ _ [_, _, _, _, _] _ = RS.ok Fl.nx [_, _, _, some (.d (iT (comp S ds w))), _] _ at q
  generalize comp S ds w = c at *
  have rr := fun h => trR_nat (k := S) (h := h) hS'
  rw [rngD_ints] at rr
  generalize rg S = c0 at *
  simp only [iT] at q ⊢
  simp [startL, rr, q]
end K03

namespace K03
open PySem PySem.Spec Mi
def unJ : D → Int
  | .int i => i
  | _ => 0
def unI : D → List Int
  | .tup xs => xs.map unJ
  | _ => []
@[simp] theorem unI_iT (w : List Int) : unI (iT w) = w := by
  show (w.map D.int).map unJ = w
  rw [List.map_map]
  have : (unJ ∘ D.int) = id := rfl
  rw [this, List.map_id]
def hD (had : List (List Int)) : D := .tup (had.map iT)
def unH : D → List (List Int)
  | .tup xs => xs.map unI
  | _ => []
@[simp] theorem unH_hD (had : List (List Int)) : unH (hD had) = had := by
  show (had.map iT).map unI = had
  rw [List.map_map]
  have : (unI ∘ iT) = id := funext fun w => unI_iT w
  rw [this, List.map_id]
theorem filt {α : Type} (F : α → D) (G : D → α) (hG : ∀ a, G (F a) = a) (P : α → Bool) (ws : List α) : ((ws.map F).filter fun d => P (G d)) = (ws.filter P).map F := by
  rw [List.filter_map]
  congr 1
  apply List.filter_congr
  intro a _
  simp [hG]
/-! ### texts that fit -/
def fitB (S : Nat) (ds : List (List Int)) (p : Int × List Int) (w : List Int) : Bool := decide (0 < w.length) && p.2.any fun z => z == (comp S ds w).getD p.1.toNat 0
theorem inI (v : Int) : ∀ gs : List Int, inF (.d (.int v)) (.d (.tup (gs.map D.int))) [] = some (gs.any fun z => z == v) := fun gs => by
  show (if flD (.int v) = true ∧ (gs.map D.int).all flD = true then some ((gs.map D.int).any fun z => eqF z (.int v)) else none) = _
  have : (gs.map D.int).all flD = true := by rw [List.all_map]; exact List.all_eq_true.mpr fun _ _ => rfl
  rw [if_pos ⟨rfl, this⟩, List.any_map]
  rfl
theorem inI' (v : Int) (gs : List Int) (h : Hs) : oInF false (.d (.int v)) (.d (.tup (gs.map D.int))) h = some (.d (.bl (gs.any fun z => z == v)), h) := by
  have := inI v gs
  show (inF (.d (.int v)) (.d (.tup (gs.map D.int))) h).map _ = _
  have e : inF (.d (.int v)) (.d (.tup (gs.map D.int))) h = inF (.d (.int v)) (.d (.tup (gs.map D.int))) [] := rfl
  rw [e, this]; rfl
theorem e_fits (n S : Nat) (DD : D) (ds : List (List Int)) (sq : Sq DD (ds.map iT)) (hd : ∀ x ∈ ds, OkW S x) (hS : S < sizeLine) (p : Int × List Int) (hp : OkE S p) (w : List Int) (h : Hs) (hw : ∀ x ∈ w, 0 ≤ x ∧ x < (ds.length : Int)) : callF defs (n + 3) 25 [.d DD, .d (.int (S : Int)), .d (eD p), .d (iT w)] h = .ok (.d (.bl (fitB S ds p w))) h := by
  rw [callF_at (md := ⟨4, 4, false, m__law_fits⟩) rfl rfl]
  obtain ⟨e1, o⟩ := e_text_deed n S DD ds sq hd hS w h hw
  have hi : L2.atI ((comp S ds w).map D.int) p.1 = some (.int ((comp S ds w).getD p.1.toNat 0)) := by
    obtain ⟨h0, h1⟩ := hp.1
    have hl := o.1
    generalize comp S ds w = c at *
    rw [show (p.1 : Int) = ((p.1.toNat : Nat) : Int) by omega, atI_nat, map_get, Int.toNat_natCast]
    rw [List.getElem?_eq_getElem (by omega), List.getD_eq_getElem?_getD, List.getElem?_eq_getElem (by omega)]
    rfl
  have p0 : L2.atI [D.int p.1, iT p.2] 0 = some (.int p.1) := rfl
  have p1 : L2.atI [D.int p.1, iT p.2] 1 = some (iT p.2) := rfl
  have e3 := fun v => inI' v p.2 h
  unfold fitB
  generalize comp S ds w = c at *
  generalize c.getD p.1.toNat 0 = v at *
  simp only [iT, eD] at e1 p0 p1 ⊢
  by_cases hw0 : 0 < w.length
  · have hw1 : (0 : Int) < (w.length : Int) := by omega
    simp [startL, hw0, hw1, e1, p0, p1, hi, e3]
  · have hw1 : ¬ (0 : Int) < (w.length : Int) := by omega
    simp [startL, hw0, hw1]
/-! ### all texts -/
def nextL (L : Nat) (ly : List (List Int)) : List (List Int) := ly.flatMap fun t => (rg L).map fun c => t ++ [c]
def txs (L : Nat) : Nat → List (List Int) → List (List Int)
  | 0, _ => []
  | k + 1, ly => nextL L ly ++ txs L k (nextL L ly)
theorem rg_len (L : Nat) : (rg L).length = L := by simp [rg]
theorem rg_mem {L : Nat} {x : Int} (h : x ∈ rg L) : 0 ≤ x ∧ x < (L : Int) := (ok_range L).2 x h
theorem nextL_len (L : Nat) : ∀ ly : List (List Int), (nextL L ly).length = ly.length * L
  | [] => by simp [nextL]
  | t :: ly => by
    have := nextL_len L ly
    unfold nextL at this ⊢
    rw [List.flatMap_cons, List.length_append, List.length_map, rg_len, this, List.length_cons, Nat.succ_mul]; omega
theorem nextL_mem {L : Nat} {ly : List (List Int)} {w : List Int} (h : w ∈ nextL L ly) : ∃ t ∈ ly, ∃ c : Int, (0 ≤ c ∧ c < (L : Int)) ∧ w = t ++ [c] := by
  unfold nextL at h
  obtain ⟨t, ht, h⟩ := List.mem_flatMap.mp h
  obtain ⟨c, hc, rfl⟩ := List.mem_map.mp h
  exact ⟨t, ht, c, rg_mem hc, rfl⟩
theorem l_tx1 (call : CallT) (L : Nat) (hL : L < 16777216) (M : Int) (T0 : Nat) (A B : D) (h : Hs) (hT : T0 < h.length) : ∀ (ly : List (List Int)) (acc : List (List Int)), (∀ t ∈ ly, t.length + 1 ≤ 1000) → acc.length + ly.length * L < sizeLine → ∀ e f, clr1 (h.length + 1) f = f → ∃ e' f', clr1 (h.length + 1) f' = f' ∧ forL (gNm 6) (b__law_texts_1 call) (ly.map iT) [some (.d (.int (L : Int))), some (.d (.int M)), some (.r T0), some (.d A), some (.d B), some (.r h.length), e, f] (h ++ [.lst (acc.map iT)]) = .ok .nx [some (.d (.int (L : Int))), some (.d (.int M)), some (.r T0), some (.d A), some (.d B), some (.r h.length), e', f'] (h ++ [.lst ((acc ++ nextL L ly).map iT)])
  | [], acc, _, _, e, f, hf => ⟨e, f, hf, by simp [forL, nextL]⟩
  | t :: ly, acc, ht, hz, e, f, hf => by
    have ht0 := ht t List.mem_cons_self
    have z := sizeLine_eq
    rw [List.length_cons, Nat.succ_mul] at hz
    obtain ⟨e', f', hf', q⟩ := l_tx1 call L hL M T0 A B h hT ly (acc ++ (rg L).map fun c => t ++ [c]) (fun y hy => ht y (List.mem_cons_of_mem _ hy)) (by rw [List.length_append, List.length_map, rg_len]; omega) (some (.d (iT t))) f hf
    have hT1 : T0 < h.length + 1 := by omega
    have key := fun (hh : Hs) => cmpL_map (vs := [7]) (g := gNm 7) (t := tYs) (f := eBin oAdd (eVar 6) (eTup (aCons (eVar 7) aNil))) (σ := [some (.d (.int (L : Int))), some (.d (.int M)), some (.r T0), some (.d A), some (.d B), some (.r h.length), some (.d (iT t)), f]) (h := hh) (ds := rngD 0 L) (keep := fun _ => true) (k := fun d => iT (t ++ [unJ d])) (by rw [rngD_len]; omega) (fun d h' hd => by
      rw [rngD_ints] at hd
      obtain ⟨i, hi, rfl⟩ := List.mem_map.mp hd
      have hz1 : t.length + 1 ≤ sizeLine := by omega
      simp only [iT]
      exact ⟨[some (.d (.int (L : Int))), some (.d (.int M)), some (.r T0), some (.d A), some (.d B), some (.r h.length), some (.d (.tup (t.map D.int))), some (.d (.int i))], by simp [wipeL], by simp, fun _ => by simp [hz1, unJ]⟩)
    have e2 : ((rngD 0 L).filter fun _ => true).map (fun d => iT (t ++ [unJ d])) = ((rg L).map fun c => t ++ [c]).map iT := by
      rw [List.filter_eq_self.mpr (fun _ _ => rfl), rngD_ints, List.map_map, List.map_map]; rfl
    rw [e2] at key
    have hz2 : acc.length + ((rg L).map fun c => t ++ [c]).length ≤ sizeLine := by rw [List.length_map, rg_len]; omega
    have e3 : (acc ++ (rg L).map fun c => t ++ [c]) ++ nextL L ly = acc ++ nextL L (t :: ly) := by
      unfold nextL
      rw [List.flatMap_cons, List.append_assoc]
    rw [e3] at q
    refine ⟨e', f', hf', ?_⟩
    have rr := fun h => rngR_nat (h := h) hL
    generalize nextL L (t :: ly) = X at *
    generalize (rg L).map (fun c => t ++ [c]) = Y at *
    rw [List.map_append] at q
    have key1 := key (h ++ [.lst (acc.map iT)])
    simp only [List.length_append, List.length_singleton, List.append_assoc, List.cons_append, List.nil_append] at key1
    simp [forL, rr, key1, lcEnd, hz2, hT1, hf, q]
end K03

namespace K03
open PySem PySem.Spec Mi
theorem clr1_mono {n m : Nat} (hnm : n ≤ m) (o : Option Vl) : clr1 m (clr1 n o) = clr1 n o := by
  cases o with
  | none => rfl
  | some v =>
    cases v with
    | d x => rfl
    | r k =>
      simp only [clr1_r]
      by_cases hk : k < n
      · have : k < m := by omega
        simp [hk, this]
      · simp [hk]
theorem l_tx2 (call : CallT) (L : Nat) (hL : L ≤ 3) (M : Int) (h : Hs) : ∀ (k i : Nat) (ly told : List (List Int)), (∀ t ∈ ly, t.length + k ≤ 1000) → ly.length * 3 ^ k ≤ 10000 → told.length + 10000 * k < 1000000 → ∀ a b c d, clr1 (h.length + 2) d = d → ∃ ly' a' b' c' d', forL (gNm 4) (b__law_texts_2 call) (rngD (i : Int) k) [some (.d (.int (L : Int))), some (.d (.int M)), some (.r h.length), some (.d (.lv (ly.map iT))), a, b, c, d] (h ++ [.lst (told.map iT)]) = .ok .nx [some (.d (.int (L : Int))), some (.d (.int M)), some (.r h.length), some (.d (.lv ly')), a', b', c', d'] (h ++ [.lst ((told ++ txs L k ly).map iT)])
  | 0, i, ly, told, _, _, _, a, b, c, d, _ => ⟨ly.map iT, a, b, c, d, by simp [rng_nil, forL, txs]⟩
  | k + 1, i, ly, told, ht, hb, hz, a, b, c, d, hd => by
    have z := sizeLine_eq
    have n1 := nextL_len L ly
    have hp : ly.length * 3 ≤ 10000 := by
      refine Nat.le_trans ?_ hb
      rw [Nat.pow_succ, Nat.mul_comm (3 ^ k) 3, ← Nat.mul_assoc]
      exact Nat.le_mul_of_pos_right _ (Nat.pow_pos (by omega))
    have hn : (nextL L ly).length ≤ 10000 := by
      rw [n1]
      exact Nat.le_trans (Nat.mul_le_mul_left _ hL) hp
    obtain ⟨e1, f1, hf1, q1⟩ := l_tx1 call L (by omega) M h.length (.lv (ly.map iT)) (.int (i : Int)) (h ++ [.lst (told.map iT)]) (by simp) ly [] (fun t h => by have := ht t h; omega) (by rw [List.length_nil, ← n1]; omega) c d (by simpa using hd)
    obtain ⟨ly', a', b', c', d', q⟩ := l_tx2 call L hL M h k (i + 1) (nextL L ly) (told ++ nextL L ly) (fun t h => by
        obtain ⟨t', h', c, _, rfl⟩ := nextL_mem h
        have := ht t' h'
        rw [List.length_append, List.length_singleton]; omega) (by
        rw [n1]
        refine Nat.le_trans ?_ hb
        rw [Nat.pow_succ, Nat.mul_comm (3 ^ k) 3, ← Nat.mul_assoc]
        exact Nat.mul_le_mul_right _ (Nat.mul_le_mul_left _ hL)) (by rw [List.length_append]; omega) (some (.d (.int (i : Int)))) (some (.d (.lv ((nextL L ly).map iT)))) (clr1 (h.length + 1) e1) (clr1 (h.length + 1) f1) (clr1_mono (by omega) _)
    refine ⟨ly', a', b', c', d', ?_⟩
    rw [rng_cons]
    have e3 : (told ++ nextL L ly) ++ txs L k (nextL L ly) = told ++ txs L (k + 1) ly := by rw [txs, List.append_assoc]
    rw [e3] at q
    have hz2 : told.length + (nextL L ly).length ≤ sizeLine := by omega
    rw [List.nil_append] at q1
    generalize txs L (k + 1) ly = X at *
    generalize nextL L ly = Y at *
    simp only [List.length_append, List.length_singleton, List.append_assoc, List.cons_append, List.nil_append, List.map_nil] at q1
    rw [List.map_append] at q
    push_cast at q
    simp [forL, q1, toD, hz2, q]
theorem e_texts (n L k : Nat) (hL : L ≤ 3) (hk : k ≤ 3) (h : Hs) : callF defs (n + 1) 26 [.d (.int (L : Int)), .d (.int (k : Int))] h = .ok (.d (.lv ((txs L k [[]]).map iT))) h := by
  rw [callF_at (md := ⟨2, 8, false, m__law_texts⟩) rfl rfl]
  have hp : 1 * 3 ^ k ≤ 10000 := by
    have : 3 ^ k ≤ 3 ^ 3 := Nat.pow_le_pow_right (by omega) hk
    omega
  obtain ⟨ly', a', b', c', d', q⟩ := l_tx2 (callF defs n) L hL (k : Int) h k 0 [[]] [] (fun t ht => by
    obtain rfl := List.mem_singleton.mp ht
    simp only [List.length_nil]; omega) hp (by simp only [List.length_nil]; omega) none none none none rfl
  change forL _ _ (rngD 0 _) _ _ = _ at q
  rw [List.nil_append] at q
  have rr := fun h => rngR_nat (k := k) (h := h) (by omega)
  have l1 : ([[]] : List (List Int)).map iT = [.tup []] := rfl
  rw [l1] at q
  generalize txs L k [[]] = X at *
  simp only [List.map_nil] at q
  simp [startL, rr, q]
  rw [fin_retR (xs := X.map iT) (by simp)]
  simp
theorem txs_mem {L : Nat} : ∀ (k : Nat) (ly : List (List Int)) (B : Nat), (∀ t ∈ ly, (∀ x ∈ t, 0 ≤ x ∧ x < (L : Int)) ∧ t.length ≤ B) → ∀ w ∈ txs L k ly, (∀ x ∈ w, 0 ≤ x ∧ x < (L : Int)) ∧ w.length ≤ B + k
  | 0, ly, B, _, w, hw => by cases hw
  | k + 1, ly, B, h, w, hw => by
    have hn : ∀ t ∈ nextL L ly, (∀ x ∈ t, 0 ≤ x ∧ x < (L : Int)) ∧ t.length ≤ B + 1 := fun t ht => by
      obtain ⟨t', h', c, hc, rfl⟩ := nextL_mem ht
      obtain ⟨h1, h2⟩ := h t' h'
      refine ⟨fun x hx => ?_, by rw [List.length_append, List.length_singleton]; omega⟩
      rcases List.mem_append.mp hx with hx | hx
      · exact h1 x hx
      · obtain rfl := List.mem_singleton.mp hx; exact hc
    rw [txs] at hw
    rcases List.mem_append.mp hw with hw | hw
    · obtain ⟨h1, h2⟩ := hn w hw
      exact ⟨h1, by omega⟩
    · obtain ⟨h1, h2⟩ := txs_mem k _ (B + 1) hn w hw
      exact ⟨h1, by omega⟩
theorem txs_len {L : Nat} (hL : L ≤ 3) : ∀ (k : Nat) (ly : List (List Int)), (txs L k ly).length ≤ ly.length * (4 ^ k - 1) * 3
  | 0, ly => by simp [txs]
  | k + 1, ly => by
    rw [txs, List.length_append]
    have h1 := txs_len hL k (nextL L ly)
    rw [nextL_len] at h1 ⊢
    have hp : 1 ≤ 4 ^ k := Nat.pow_pos (by omega)
    have h2 : ly.length * L ≤ ly.length * 3 := Nat.mul_le_mul_left _ hL
    have h3 : ly.length * L * (4 ^ k - 1) * 3 ≤ ly.length * 3 * (4 ^ k - 1) * 3 := Nat.mul_le_mul_right _ (Nat.mul_le_mul_right _ h2)
    rw [Nat.pow_succ]
    generalize hq : 4 ^ k - 1 = q at *
    have hq' : 4 ^ k * 4 - 1 = 4 * q + 3 := by omega
    rw [hq']
    have e1 : ly.length * (4 * q + 3) * 3 = 12 * (ly.length * q) + 9 * ly.length := by
      rw [Nat.mul_add, Nat.add_mul, ← Nat.mul_assoc ly.length 4 q, Nat.mul_comm ly.length 4, Nat.mul_assoc 4]; omega
    have e2 : ly.length * 3 * q * 3 = 9 * (ly.length * q) := by
      rw [Nat.mul_comm ly.length 3, Nat.mul_assoc 3]; omega
    rw [e1]
    rw [e2] at h3
    omega
end K03

namespace K03
open PySem PySem.Spec Mi
/-! ### all fillings -/
abbrev Wd := List Int
def lists (S : Nat) (ds : List Wd) (k : Nat) (es : List (Int × List Int)) : List (List Wd) := es.map fun p => (txs ds.length k [[]]).filter (fitB S ds p)
def tlD (tl : List Wd) : D := .lv (tl.map iT)
theorem l_f1 (n S k : Nat) (R DD EE : D) (ds : List Wd) (sq : Sq DD (ds.map iT)) (hd : ∀ x ∈ ds, OkW S x) (hS : S < sizeLine) (hL : ds.length ≤ 3) (hk : k ≤ 3) (h : Hs) : ∀ (es : List (Int × List Int)) (acc : List D), (∀ p ∈ es, OkE S p) → acc.length + es.length < sizeLine → ∀ e, (∀ n, clr1 n e = e) → ∃ e', (∀ n, clr1 n e' = e') ∧ forL (gNm 6) (b__law_fillings_1 (callF defs (n + 3))) (es.map eD) [some (.d R), some (.d DD), some (.d EE), some (.d (.int (S : Int))), some (.d (.int (k : Int))), some (.r h.length), e, none, none, none, none, none] (h ++ [.lst acc]) = .ok .nx [some (.d R), some (.d DD), some (.d EE), some (.d (.int (S : Int))), some (.d (.int (k : Int))), some (.r h.length), e', none, none, none, none, none] (h ++ [.lst (acc ++ (lists S ds k es).map tlD)])
  | [], acc, _, _, e, hs => ⟨e, hs, by simp [forL, lists]⟩
  | p :: es, acc, hp, hz, e, _ => by
    rw [List.length_cons] at hz
    have hz' : acc.length < sizeLine := by omega
    obtain ⟨e', he', q⟩ := l_f1 n S k R DD EE ds sq hd hS hL hk h es (acc ++ [tlD ((txs ds.length k [[]]).filter (fitB S ds p))]) (fun y hy => hp y (List.mem_cons_of_mem _ hy)) (by rw [List.length_append, List.length_singleton]; omega) (some (.d (eD p))) (fun _ => rfl)
    have ht := fun h => e_texts (n + 2) ds.length k hL hk h
    have hm := txs_mem (L := ds.length) k [[]] 0 (fun t ht => by
      obtain rfl := List.mem_singleton.mp ht
      exact ⟨fun x hx => (by cases hx), Nat.le_refl _⟩)
    have hlen : (txs ds.length k [[]]).length ≤ 189 := by
      refine Nat.le_trans (txs_len hL k [[]]) ?_
      have : 4 ^ k ≤ 4 ^ 3 := Nat.pow_le_pow_right (by omega) hk
      simp only [List.length_singleton]; omega
    have z := sizeLine_eq
    have key := fun (hh : Hs) => cmpL_map (vs := [11]) (g := gNm 11) (t := tTru (eCl (callF defs (n + 3)) 25 [] (aCons (eVar 1) (aCons (eVar 3) (aCons (eVar 6) (aCons (eVar 11) aNil)))))) (f := eVar 11) (σ := [some (.d R), some (.d DD), some (.d EE), some (.d (.int (S : Int))), some (.d (.int (k : Int))), some (.r h.length), some (.d (eD p)), none, none, none, none, none]) (h := hh) (ds := (txs ds.length k [[]]).map iT) (keep := fun d => fitB S ds p (unI d)) (k := fun d => d) (by rw [List.length_map]; omega) (fun d h' hd' => by
      obtain ⟨w, hw, rfl⟩ := List.mem_map.mp hd'
      have ef := e_fits n S DD ds sq hd hS p (hp p List.mem_cons_self) w h' (hm w hw).1
      exact ⟨[some (.d R), some (.d DD), some (.d EE), some (.d (.int (S : Int))), some (.d (.int (k : Int))), some (.r h.length), some (.d (eD p)), none, none, none, none, some (.d (iT w))], by simp [wipeL], by simp [ef], fun _ => by simp⟩)
    have e2 : (((txs ds.length k [[]]).map iT).filter fun d => fitB S ds p (unI d)).map (fun d => d) = ((txs ds.length k [[]]).filter (fitB S ds p)).map iT := by
      rw [List.map_id', filt iT unI unI_iT]
    rw [e2] at key
    have e3 : (acc ++ [tlD ((txs ds.length k [[]]).filter (fitB S ds p))]) ++ (lists S ds k es).map tlD = acc ++ (lists S ds k (p :: es)).map tlD := by
      rw [List.append_assoc]; rfl
    rw [e3] at q
    refine ⟨e', he', ?_⟩
    generalize lists S ds k (p :: es) = X at *
    have key1 := key (h ++ [.lst acc])
    unfold tlD at q ⊢
    generalize (txs ds.length k [[]]).filter (fitB S ds p) = Y at *
    generalize (txs ds.length k [[]]).map iT = T at *
    simp only [List.length_append, List.length_singleton, List.append_assoc, List.cons_append, List.nil_append] at key1
    have hl : nLen [.d DD] = fun h => some (.d (.int (ds.length : Int)), h) := by
      cases sq <;> (funext h; simp)
    simp [forL, hl, ht, key1, lcEnd, hz', q]
def ext (told : List (List Wd)) (tl : List Wd) : List (List Wd) := told.flatMap fun had => tl.map fun t => had ++ [t]
theorem ext_len (tl : List Wd) : ∀ told : List (List Wd), (ext told tl).length = told.length * tl.length
  | [] => by simp [ext]
  | t :: told => by
    have := ext_len tl told
    unfold ext at this ⊢
    rw [List.flatMap_cons, List.length_append, List.length_map, this, List.length_cons, Nat.succ_mul]; omega
theorem l_f2 (call : CallT) (a0 a1 a2 a3 a4 a5 a7 : D) (o6 : Option Vl) (h6 : ∀ n, clr1 n o6 = o6) (tl : List Wd) (htl : tl.length < 1000000) (h : Hs) : ∀ (told acc : List (List Wd)), (∀ t ∈ told, t.length + 1 ≤ 1000) → acc.length + told.length * tl.length < sizeLine → ∀ e, ∃ e', forL (gNm 10) (b__law_fillings_2 call) (told.map hD) [some (.d a0), some (.d a1), some (.d a2), some (.d a3), some (.d a4), some (.d a5), o6, some (.d a7), some (.d (tlD tl)), some (.r h.length), e, none] (h ++ [.lst (acc.map hD)]) = .ok .nx [some (.d a0), some (.d a1), some (.d a2), some (.d a3), some (.d a4), some (.d a5), o6, some (.d a7), some (.d (tlD tl)), some (.r h.length), e', none] (h ++ [.lst ((acc ++ ext told tl).map hD)])
  | [], acc, _, _, e => ⟨e, by simp [forL, ext]⟩
  | had :: told, acc, ht, hz, e => by
    have ht0 := ht had List.mem_cons_self
    have z := sizeLine_eq
    rw [List.length_cons, Nat.succ_mul] at hz
    obtain ⟨e', q⟩ := l_f2 call a0 a1 a2 a3 a4 a5 a7 o6 h6 tl htl h told (acc ++ tl.map fun t => had ++ [t]) (fun y hy => ht y (List.mem_cons_of_mem _ hy)) (by rw [List.length_append, List.length_map]; omega) (some (.d (hD had)))
    have key := fun (hh : Hs) => cmpL_map (vs := [11]) (g := gNm 11) (t := tYs) (f := eBin oAdd (eVar 10) (eTup (aCons (eVar 11) aNil))) (σ := [some (.d a0), some (.d a1), some (.d a2), some (.d a3), some (.d a4), some (.d a5), o6, some (.d a7), some (.d (tlD tl)), some (.r h.length), some (.d (hD had)), none]) (h := hh) (ds := tl.map iT) (keep := fun _ => true) (k := fun d => hD (had ++ [unI d])) (by rw [List.length_map]; omega) (fun d h' hd => by
      obtain ⟨w, hw, rfl⟩ := List.mem_map.mp hd
      have hz1 : had.length + 1 ≤ sizeLine := by omega
      exact ⟨[some (.d a0), some (.d a1), some (.d a2), some (.d a3), some (.d a4), some (.d a5), o6, some (.d a7), some (.d (tlD tl)), some (.r h.length), some (.d (hD had)), some (.d (iT w))], by simp [wipeL], by simp, fun _ => by simp [hD, hz1]⟩)
    have e2 : ((tl.map iT).filter fun _ => true).map (fun d => hD (had ++ [unI d])) = (tl.map fun t => had ++ [t]).map hD := by
      rw [List.filter_eq_self.mpr (fun _ _ => rfl), List.map_map, List.map_map]
      apply List.map_congr_left
      intro t _
      simp
    rw [e2] at key
    have hz2 : acc.length + (tl.map fun t => had ++ [t]).length ≤ sizeLine := by rw [List.length_map]; omega
    have e3 : (acc ++ tl.map fun t => had ++ [t]) ++ ext told tl = acc ++ ext (had :: told) tl := by
      unfold ext
      rw [List.flatMap_cons, List.append_assoc]
    rw [e3] at q
    refine ⟨e', ?_⟩
    generalize ext (had :: told) tl = X at *
    generalize tl.map (fun t => had ++ [t]) = Y at *
    rw [List.map_append] at q
    have key1 := key (h ++ [.lst (acc.map hD)])
    simp only [List.length_append, List.length_singleton, List.append_assoc, List.cons_append, List.nil_append] at key1
    have ps : pureSeq (.d (tlD tl)) = some (tl.map iT) := rfl
    simp [forL, ps, key1, lcEnd, hz2, h6, q]
theorem l_f3 (call : CallT) (a0 a1 a2 a3 a4 a5 : D) (o6 : Option Vl) (h6 : ∀ n, clr1 n o6 = o6) (h : Hs) : ∀ (ls : List (List Wd)) (told : List (List Wd)), (∀ t ∈ told, t.length + ls.length ≤ 1000) → (∀ tl ∈ ls, tl.length ≤ 200) → told.length * 200 ^ ls.length ≤ 40000 → ∀ c d e, ∃ c' d' e', forL (gNm 8) (b__law_fillings_3 call) (ls.map tlD) [some (.d a0), some (.d a1), some (.d a2), some (.d a3), some (.d a4), some (.d a5), o6, some (.d (.lv (told.map hD))), c, d, e, none] h = .ok .nx [some (.d a0), some (.d a1), some (.d a2), some (.d a3), some (.d a4), some (.d a5), o6, some (.d (.lv ((ls.foldl ext told).map hD))), c', d', e', none] h
  | [], told, _, _, _, c, d, e => ⟨c, d, e, rfl⟩
  | tl :: ls, told, ht, hl, hz, c, d, e => by
    have z := sizeLine_eq
    have hl0 := hl tl List.mem_cons_self
    have n1 := ext_len tl told
    have hm : told.length * tl.length ≤ told.length * 200 := Nat.mul_le_mul_left _ hl0
    have hz3 : (ext told tl).length * 200 ^ ls.length ≤ 40000 := by
      rw [n1]
      refine Nat.le_trans (Nat.mul_le_mul_right _ hm) ?_
      rw [List.length_cons, Nat.pow_succ, Nat.mul_comm (200 ^ ls.length) 200, ← Nat.mul_assoc] at hz
      exact hz
    have hz4 : told.length * tl.length ≤ 40000 := by
      rw [← n1]
      exact Nat.le_trans (Nat.le_mul_of_pos_right _ (Nat.pow_pos (by omega))) hz3
    obtain ⟨e1, q1⟩ := l_f2 call a0 a1 a2 a3 a4 a5 (.lv (told.map hD)) o6 h6 tl (by omega) h told [] (fun t h => by have := ht t h; rw [List.length_cons] at this; omega) (by rw [List.length_nil]; omega) e
    obtain ⟨c', d', e', q⟩ := l_f3 call a0 a1 a2 a3 a4 a5 o6 h6 h ls (ext told tl) (fun t h => by
      unfold ext at h
      obtain ⟨t', h', h⟩ := List.mem_flatMap.mp h
      obtain ⟨w, _, rfl⟩ := List.mem_map.mp h
      have := ht t' h'
      rw [List.length_cons] at this
      rw [List.length_append, List.length_singleton]; omega) (fun y hy => hl y (List.mem_cons_of_mem _ hy)) hz3 (some (.d (tlD tl))) (some (.d (.lv ((ext told tl).map hD)))) (clr1 h.length e1)
    refine ⟨c', d', e', ?_⟩
    rw [List.foldl_cons]
    generalize ls.foldl ext (ext told tl) = X at *
    rw [List.nil_append] at q1
    generalize ext told tl = Y at *
    simp only [List.map_nil] at q1
    simp [forL, q1, toD, h6, q]
def cands (S : Nat) (ds : List Wd) (k : Nat) (es : List (Int × List Int)) : List (List Wd) := (lists S ds k es).foldl ext [[]]
theorem e_fillings (n S k : Nat) (R DD EE : D) (ds : List Wd) (es : List (Int × List Int)) (rs : List Row) (sr : Sq R (rs.map rD)) (sq : Sq DD (ds.map iT)) (se : Sq EE (es.map eD)) (hd : ∀ x ∈ ds, OkW S x) (he : ∀ p ∈ es, OkE S p) (hS : S < sizeLine) (hL : ds.length ≤ 3) (hk : k ≤ 3) (hE : es.length ≤ 2)
    (hf : ∀ had ∈ cands S ds k es, ∀ p ∈ rs, Fb had p) (hcz : (cands S ds k es).length < sizeLine) (h : Hs) : callF defs (n + 4) 28 [.d R, .d DD, .d EE, .d (.int (S : Int)), .d (.int (k : Int))] h = .ok (.d (.lv (((cands S ds k es).filter fun had => holds had rs).map hD))) h := by
  rw [callF_at (md := ⟨5, 12, false, m__law_fillings⟩) rfl rfl]
  have z := sizeLine_eq
  obtain ⟨e', he', q1⟩ := l_f1 n S k R DD EE ds sq hd hS hL hk h es [] he (by rw [List.length_nil]; omega) none (fun _ => rfl)
  have hll : (lists S ds k es).length = es.length := List.length_map _
  have hlen : (txs ds.length k [[]]).length ≤ 189 := by
    refine Nat.le_trans (txs_len hL k [[]]) ?_
    have : 4 ^ k ≤ 4 ^ 3 := Nat.pow_le_pow_right (by omega) hk
    simp only [List.length_singleton]; omega
  obtain ⟨c', d', e2', q2⟩ := l_f3 (callF defs (n + 3)) R DD EE (.int (S : Int)) (.int (k : Int)) (.lv ((lists S ds k es).map tlD)) e' he' (h ++ [.dead]) (lists S ds k es) [[]] (fun t ht => by
      obtain rfl := List.mem_singleton.mp ht
      rw [List.length_nil]; omega) (fun tl htl => by
      obtain ⟨p, _, rfl⟩ := List.mem_map.mp htl
      exact Nat.le_trans (List.length_filter_le _ _) (by omega)) (by
      rw [hll, List.length_singleton, Nat.one_mul]
      have : 200 ^ es.length ≤ 200 ^ 2 := Nat.pow_le_pow_right (by omega) hE
      omega) none none none
  have key := fun (hh : Hs) => cmpL_map (vs := [10]) (g := gNm 10) (t := tTru (eCl (callF defs (n + 3)) 27 [] (aCons (eVar 0) (aCons (eVar 10) aNil)))) (f := eVar 10) (σ := [some (.d R), some (.d DD), some (.d EE), some (.d (.int (S : Int))), some (.d (.int (k : Int))), some (.d (.lv ((lists S ds k es).map tlD))), e', some (.d (.lv ((cands S ds k es).map hD))), c', d', e2', none]) (h := hh) (ds := (cands S ds k es).map hD) (keep := fun d => holds (unH d) rs) (k := fun d => d) (by
    rw [List.length_map]
    exact hcz) (fun d h' hd' => by
    obtain ⟨had, hh', rfl⟩ := List.mem_map.mp hd'
    have er := e_rows_hold (n + 1) (hD had) R had rs (.t _) sr h' (hf had hh')
    exact ⟨[some (.d R), some (.d DD), some (.d EE), some (.d (.int (S : Int))), some (.d (.int (k : Int))), some (.d (.lv ((lists S ds k es).map tlD))), e', some (.d (.lv ((cands S ds k es).map hD))), c', d', some (.d (hD had)), none], by simp [wipeL], by simp [er], fun _ => by simp⟩)
  have e2 : (((cands S ds k es).map hD).filter fun d => holds (unH d) rs).map (fun d => d) = ((cands S ds k es).filter fun had => holds had rs).map hD := by
    rw [List.map_id', filt hD unH unH_hD (fun w => holds w rs)]
  rw [e2] at key
  have l0 : ([[]] : List (List Wd)).map hD = [.tup []] := rfl
  rw [l0] at q2
  change forL _ _ _ _ _ = RS.ok Fl.nx [_, _, _, _, _, _, _, some (.d (.lv ((cands S ds k es).map hD))), _, _, _, _] _ at q2
  have ps : pureSeq (.d (.lv ((lists S ds k es).map tlD))) = some ((lists S ds k es).map tlD) := rfl
  have key1 := key (h ++ [.dead])
  generalize ((cands S ds k es).filter fun had => holds had rs).map hD = Z at *
  generalize (cands S ds k es).map hD = C at *
  generalize (lists S ds k es).map tlD = LL at *
  simp only [List.length_append, List.length_singleton, List.append_assoc, List.cons_append, List.nil_append] at key1 q1 q2
  simp [startL, se.ps, q1, toD, q2, key1, lcEnd]
end K03

namespace K03
open PySem PySem.Spec Mi
/-! ### the plain law: stripping keeps the fillings -/
theorem sB_nd (l r : List Int) : Nd (sB l r).1 (sB l r).2 ∧ Nd (sB l r).1.reverse (sB l r).2.reverse := by
  refine ⟨?_, ?_⟩
  · obtain ⟨q, h3, h4⟩ := sF_spec (sF l r).1.reverse (sF l r).2.reverse
    have h3' := congrArg List.reverse h3
    have h4' := congrArg List.reverse h4
    rw [List.reverse_reverse, List.reverse_append] at h3' h4'
    have this := nd_sF l r
    have e1 : (sF l r).1 = (sB l r).1 ++ q.reverse := h3'
    have e2 : (sF l r).2 = (sB l r).2 ++ q.reverse := h4'
    rw [e1, e2] at this
    exact nd_cut this
  · unfold sB
    rw [List.reverse_reverse, List.reverse_reverse]
    exact nd_sF _ _
/-- texts for a filling -/
def Fit (U : Nat) (ws : List Wd) : Prop := ws.length = U ∧ ∀ w ∈ ws, w ≠ [] ∧ w.length ≤ 3
def Sg (U : Nat) (s : List Int) : Prop := ∀ x ∈ s, x < 0 → -1 - x < (U : Int)
theorem fill_ne {U : Nat} {ws : List Wd} (f : Fit U ws) {s : List Int} (hs : Sg U s) (h : s ≠ []) : fill ws s ≠ [] := by
  cases s with
  | nil => exact absurd rfl h
  | cons x s =>
    rw [fill]
    by_cases h0 : 0 ≤ x
    · rw [if_pos h0]; simp
    · rw [if_neg h0]
      have := hs x List.mem_cons_self (by omega)
      have hk : (-1 - x).toNat < ws.length := by rw [f.1]; omega
      have hw := (f.2 (ws.getD (-1 - x).toNat []) (by
        rw [List.getD_eq_getElem?_getD, List.getElem?_eq_getElem hk]
        exact List.getElem_mem hk)).1
      intro e
      exact hw (List.append_eq_nil_iff.mp e).1
theorem fill_strip (ws : List Wd) (l r : List Int) : decide (fill ws l = fill ws r) = decide (fill ws (sB l r).1 = fill ws (sB l r).2) := by
  obtain ⟨p, q, h1, h2⟩ := sB_spec l r
  have e1 : fill ws l = fill ws p ++ fill ws (sB l r).1 ++ fill ws q := by rw [← fill_app, ← fill_app, ← h1]
  have e2 : fill ws r = fill ws p ++ fill ws (sB l r).2 ++ fill ws q := by rw [← fill_app, ← fill_app, ← h2]
  rw [e1, e2]
  apply decide_eq_decide.mpr
  constructor
  · intro h
    exact List.append_cancel_left (List.append_cancel_right h)
  · intro h
    rw [h]
theorem headD_cons (x : Int) (s : List Int) (d : Int) : (x :: s).headD d = x := rfl
theorem cw_no {U : Nat} {ws : List Wd} (f : Fit U ws) {l r : List Int} (hl : Sg U l) (hr : Sg U r) {w : Str} (hE : ¬ ((sB l r).1 = [] ∧ (sB l r).2 = [])) (h : cw (sB l r).1 (sB l r).2 = some w) : fill ws l ≠ fill ws r := by
  have hd : decide (fill ws l = fill ws r) = false := by
    rw [fill_strip]
    apply decide_eq_false
    have hl' : Sg U (sB l r).1 := fun x hx => hl x ((sB_mem l r).1 x hx)
    have hr' : Sg U (sB l r).2 := fun x hx => hr x ((sB_mem l r).2 x hx)
    obtain ⟨n1, n2⟩ := sB_nd l r
    generalize sB l r = p at *
    obtain ⟨a, b⟩ := p
    dsimp only at *
    intro e
    unfold cw at h
    by_cases h1 : a = []
    · subst h1
      exact fill_ne f hr' (fun z => hE ⟨rfl, z⟩) e.symm
    by_cases h2 : b = []
    · subst h2
      exact fill_ne f hl' h1 e
    rw [if_neg (by simp [h1, h2])] at h
    by_cases h3 : 0 ≤ a.headD (-1) ∧ 0 ≤ b.headD (-1)
    · rcases n1 with z | z | ⟨x, y, a', b', rfl, rfl, ne⟩
      · exact h1 z
      · exact h2 z
      · rw [headD_cons, headD_cons] at h3
        rw [fill, fill, if_pos h3.1, if_pos h3.2] at e
        simp only [List.singleton_append, List.cons.injEq] at e
        exact ne e.1
    · rw [if_neg h3] at h
      by_cases h4 : 0 ≤ a.getLastD (-1) ∧ 0 ≤ b.getLastD (-1)
      · rcases n2 with z | z | ⟨x, y, a', b', ea, eb, ne⟩
        · exact h1 (List.reverse_eq_nil_iff.mp z)
        · exact h2 (List.reverse_eq_nil_iff.mp z)
        · have ea' : a = a'.reverse ++ [x] := by rw [← List.reverse_reverse a, ea, List.reverse_cons]
          have eb' : b = b'.reverse ++ [y] := by rw [← List.reverse_reverse b, eb, List.reverse_cons]
          subst ea' eb'
          have x1 : (a'.reverse ++ [x]).getLastD (-1) = x := by simp [List.getLastD_eq_getLast?]
          have y1 : (b'.reverse ++ [y]).getLastD (-1) = y := by simp [List.getLastD_eq_getLast?]
          rw [x1, y1] at h4
          rw [fill_app, fill_app] at e
          simp only [fill, if_pos h4.1, if_pos h4.2, List.append_nil] at e
          have := congrArg List.getLast? e
          simp at this
          exact ne this
      · rw [if_neg h4] at h; cases h
  exact of_decide_eq_false hd
def SgR (U : Nat) (rs : List Row) : Prop := ∀ p ∈ rs, Sg U p.1 ∧ Sg U p.2
theorem tdy_holds {U : Nat} {ws : List Wd} (f : Fit U ws) : ∀ (rs : List Row) (i : Nat), SgR U rs → match tdy i rs with
    | .inl _ => holds ws rs = false
    | .inr t => holds ws t = holds ws rs
  | [], i, _ => rfl
  | p :: rs, i, hs => by
    obtain ⟨h1, h2⟩ := hs p List.mem_cons_self
    have ih := tdy_holds f rs (i + 1) fun q hq => hs q (List.mem_cons_of_mem _ hq)
    have hh : holds ws (p :: rs) = (decide (fill ws p.1 = fill ws p.2) && holds ws rs) := rfl
    unfold tdy
    by_cases hE : (sB p.1 p.2).1 = [] ∧ (sB p.1 p.2).2 = []
    · rw [if_pos hE]
      have e : decide (fill ws p.1 = fill ws p.2) = true := by rw [fill_strip, hE.1, hE.2]; exact decide_eq_true rfl
      rw [hh, e, Bool.true_and]
      exact ih
    · rw [if_neg hE]
      cases hw : cw (sB p.1 p.2).1 (sB p.1 p.2).2 with
      | some w =>
        dsimp only
        rw [hh, decide_eq_false (cw_no f h1 h2 hE hw), Bool.false_and]
      | none =>
        dsimp only
        cases ht : tdy (i + 1) rs with
        | inl x =>
          rw [ht] at ih
          dsimp only at ih ⊢
          rw [hh, ih, Bool.and_false]
        | inr t =>
          rw [ht] at ih
          dsimp only at ih ⊢
          have ht' : holds ws (sB p.1 p.2 :: t) = (decide (fill ws (sB p.1 p.2).1 = fill ws (sB p.1 p.2).2) && holds ws t) := rfl
          rw [hh, ht', ih, fill_strip ws p.1 p.2]
/-! ### the candidates -/
theorem ext_mem {told : List (List Wd)} {tl : List Wd} {had : List Wd} (h : had ∈ ext told tl) : ∃ h0 ∈ told, ∃ t ∈ tl, had = h0 ++ [t] := by
  unfold ext at h
  obtain ⟨h0, a, h⟩ := List.mem_flatMap.mp h
  obtain ⟨t, b, rfl⟩ := List.mem_map.mp h
  exact ⟨h0, a, t, b, rfl⟩
theorem fold_mem {P : Wd → Prop} : ∀ (ls : List (List Wd)) (told : List (List Wd)) (k : Nat), (∀ tl ∈ ls, ∀ w ∈ tl, P w) → (∀ t ∈ told, t.length = k ∧ ∀ w ∈ t, P w) → ∀ had ∈ ls.foldl ext told, had.length = k + ls.length ∧ ∀ w ∈ had, P w
  | [], told, k, _, ht, had, hh => ht had hh
  | tl :: ls, told, k, hl, ht, had, hh => by
    have := fold_mem ls (ext told tl) (k + 1) (fun y hy => hl y (List.mem_cons_of_mem _ hy)) (fun t h => by
      obtain ⟨h0, a, w, b, rfl⟩ := ext_mem h
      obtain ⟨c, d⟩ := ht h0 a
      refine ⟨by rw [List.length_append, List.length_singleton, c], fun v hv => ?_⟩
      rcases List.mem_append.mp hv with hv | hv
      · exact d v hv
      · obtain rfl := List.mem_singleton.mp hv
        exact hl tl List.mem_cons_self _ b) had hh
    rw [List.length_cons]
    exact ⟨by omega, this.2⟩
theorem fold_len : ∀ (ls : List (List Wd)) (told : List (List Wd)), (∀ tl ∈ ls, tl.length ≤ 200) → (ls.foldl ext told).length ≤ told.length * 200 ^ ls.length
  | [], told, _ => by simp
  | tl :: ls, told, hl => by
    refine Nat.le_trans (fold_len ls (ext told tl) fun y hy => hl y (List.mem_cons_of_mem _ hy)) ?_
    rw [ext_len, List.length_cons, Nat.pow_succ, Nat.mul_comm (200 ^ ls.length) 200, ← Nat.mul_assoc]
    exact Nat.mul_le_mul_right _ (Nat.mul_le_mul_left _ (hl tl List.mem_cons_self))
theorem txs_small {L k : Nat} (hL : L ≤ 3) (hk : k ≤ 3) : (txs L k [[]]).length ≤ 189 := by
  refine Nat.le_trans (txs_len hL k [[]]) ?_
  have : 4 ^ k ≤ 4 ^ 3 := Nat.pow_le_pow_right (by omega) hk
  simp only [List.length_singleton]; omega
theorem cands_ok {S : Nat} {ds : List Wd} {k : Nat} {es : List (Int × List Int)} (hL : ds.length ≤ 3) (hk : k ≤ 3) (hE : es.length ≤ 2) : (∀ had ∈ cands S ds k es, Fit es.length had) ∧ (cands S ds k es).length < sizeLine := by
  have hll : (lists S ds k es).length = es.length := List.length_map _
  refine ⟨fun had hh => ?_, ?_⟩
  · have := fold_mem (P := fun w => w ≠ [] ∧ w.length ≤ 3) (lists S ds k es) [[]] 0 (fun tl htl w hw => by
      obtain ⟨p, _, rfl⟩ := List.mem_map.mp htl
      obtain ⟨h1, h2⟩ := List.mem_filter.mp hw
      have h3 := txs_mem (L := ds.length) k [[]] 0 (fun t ht => by
        obtain rfl := List.mem_singleton.mp ht
        exact ⟨fun x hx => (by cases hx), Nat.le_refl _⟩) w h1
      unfold fitB at h2
      rw [Bool.and_eq_true, decide_eq_true_eq] at h2
      exact ⟨List.length_pos_iff.mp h2.1, by omega⟩) (fun t ht => by
      obtain rfl := List.mem_singleton.mp ht
      exact ⟨rfl, fun w hw => (by cases hw)⟩) had hh
    rw [hll, Nat.zero_add] at this
    exact this
  · have h1 := fold_len (lists S ds k es) [[]] (fun tl htl => by
      obtain ⟨p, _, rfl⟩ := List.mem_map.mp htl
      exact Nat.le_trans (List.length_filter_le _ _) (Nat.le_trans (txs_small hL hk) (by omega)))
    rw [hll, List.length_singleton, Nat.one_mul] at h1
    have h2 : 200 ^ es.length ≤ 200 ^ 2 := Nat.pow_le_pow_right (by omega) hE
    have z := sizeLine_eq
    unfold cands
    omega
theorem fill_len {U : Nat} {ws : List Wd} (f : Fit U ws) : ∀ s : List Int, (fill ws s).length ≤ 3 * s.length
  | [] => Nat.le_refl _
  | x :: s => by
    rw [fill, List.length_append, List.length_cons]
    have h := fill_len f s
    have h1 : (if 0 ≤ x then [x] else ws.getD (-1 - x).toNat []).length ≤ 3 := by
      by_cases h0 : 0 ≤ x
      · rw [if_pos h0]; simp
      · rw [if_neg h0]
        by_cases hk : (-1 - x).toNat < ws.length
        · exact (f.2 (ws.getD (-1 - x).toNat []) (by
            rw [List.getD_eq_getElem?_getD, List.getElem?_eq_getElem hk]
            exact List.getElem_mem hk)).2
        · rw [List.getD_eq_getElem?_getD, List.getElem?_eq_none (by omega)]; simp
    omega
theorem fb_of {U : Nat} {ws : List Wd} (f : Fit U ws) {p : Row} (h1 : Sg U p.1) (h2 : Sg U p.2) (h3 : p.1.length + p.2.length ≤ 100000) : Fb ws p := by
  have z := sizeLine_eq
  have a := fill_len f p.1
  have b := fill_len f p.2
  refine ⟨fun x hx h => by rw [f.1]; exact h1 x hx h, fun x hx h => by rw [f.1]; exact h2 x hx h, by omega, by omega⟩
end K03

namespace K03
open PySem PySem.Spec Mi
/-! ### the tidy book as the law has it -/
theorem sm_up : ∀ {n : Nat} {d : D}, Sm n d → Sm (n + 1) d
  | 0, .non, h => h
  | 0, .bl _, h => h
  | 0, .int _, h => h
  | 0, .str _, h => h
  | 0, .tup _, h => h.elim
  | 0, .lv _, h => h.elim
  | 0, .scr _, h => h.elim
  | 0, .dk _, h => h.elim
  | 0, .dt _, h => h.elim
  | 0, .ins _ _, h => h.elim
  | n + 1, .tup xs, h => fun x hx => sm_up (h x hx)
  | n + 1, .lv xs, h => fun x hx => sm_up (h x hx)
  | n + 1, .non, h => h
  | n + 1, .bl _, h => h
  | n + 1, .int _, h => h
  | n + 1, .str _, h => h
  | n + 1, .scr _, h => h.elim
  | n + 1, .dk _, h => h.elim
  | n + 1, .dt _, h => h.elim
  | n + 1, .ins _ _, h => h.elim
theorem sm_deeds (ds : List Wd) : Sm 2 (.tup (ds.map iT)) := fun x hx => by
  obtain ⟨w, _, rfl⟩ := List.mem_map.mp hx
  exact sm_iT w
theorem sm_eD (p : Int × List Int) : Sm 2 (eD p) := fun x hx => by
  rcases List.mem_cons.mp hx with rfl | hx
  · exact trivial
  · obtain rfl := List.mem_singleton.mp hx
    exact sm_iT _
theorem sm_ends (es : List (Int × List Int)) : Sm 3 (.tup (es.map eD)) := fun x hx => by
  obtain ⟨w, _, rfl⟩ := List.mem_map.mp hx
  exact sm_eD w
theorem sm_rD (p : Row) : Sm 2 (rD p) := fun x hx => by
  rcases List.mem_cons.mp hx with rfl | hx
  · exact sm_iT _
  · obtain rfl := List.mem_singleton.mp hx
    exact sm_iT _
theorem sm_rows (rs : List Row) : Sm 3 (.tup (rs.map rD)) := fun x hx => by
  obtain ⟨w, _, rfl⟩ := List.mem_map.mp hx
  exact sm_rD w
theorem sm_key (b : Bk) : Sm 4 (.tup [.tup (b.ds.map iT), .tup (b.es.map eD), .int b.S]) := fun x hx => by
  rcases List.mem_cons.mp hx with rfl | hx
  · exact sm_up (sm_deeds _)
  rcases List.mem_cons.mp hx with rfl | hx
  · exact sm_ends _
  obtain rfl := List.mem_singleton.mp hx
  exact trivial
theorem cw_str {a b : List Int} {w : Str} (h : cw a b = some w) : PyData.strOk w = true := by
  unfold cw at h
  split at h
  · cases h; decide +kernel
  · split at h
    · cases h; decide +kernel
    · split at h
      · cases h; decide +kernel
      · cases h
theorem tdy_str : ∀ (rs : List Row) (i : Nat) {w : Str} {k : Nat}, tdy i rs = .inl (w, k) → PyData.strOk w = true
  | [], i, w, k, h => by cases h
  | p :: rs, i, w, k, h => by
    unfold tdy at h
    split at h
    · exact tdy_str rs (i + 1) h
    · split at h
      · rename_i hw
        cases h
        exact cw_str hw
      · split at h
        · rename_i x ht
          obtain ⟨w', k'⟩ := x
          cases h
          exact tdy_str rs (i + 1) ht
        · cases h
theorem e_clash_eq (n : Nat) (w : Str) (i : Int) (hw : PyData.strOk w = true) (h : Hs) : callF defs (n + 1) 11 [.d (clD w i), .d (clD w i)] h = .ok (.d (.bl true)) h := by
  rw [callF_at (md := ⟨2, 2, false, m_Clash__eq_⟩) rfl rfl]
  have e1 := fun h => o_eqR (a := .str w) (n := 0) (h := h) hw (by omega)
  have e2 : ∀ (x : D), lookT (.c 3) isi_Clash = some true := fun _ => rfl
  simp [startL, clD, isi_Clash, lookT, ok_why, ok_at, List.lookup, e1]
theorem e_book_eq (n : Nat) (b : Bk) (h : Hs) : callF defs (n + 1) 9 [.d b.D, .d b.D] h = .ok (.d (.bl true)) h := by
  rw [callF_at (md := ⟨2, 2, false, m_Book__eq_⟩) rfl rfl]
  have e1 := fun h => o_eqR (h := h) (sm_rows b.rs) (by omega)
  have e2 := fun h => o_eqR (h := h) (sm_deeds b.ds) (by omega)
  have e3 := fun h => o_eqR (h := h) (sm_ends b.es) (by omega)
  simp [startL, Bk.D, isi_Book, lookT, ok_rows, ok_deeds, ok_ends, ok_states, List.lookup, e1, e2, e3]
theorem e_same_tidy (n : Nat) (b : Bk) (ok : b.Ok) (h : Hs) : callF defs (n + 7) 34 [.d b.D, .d b.tidy, .d (.lv (b.rs.map rD))] h = .ok (.d (.bl true)) h := by
  rw [callF_at (md := ⟨3, 4, false, m__law_same_tidy⟩) rfl rfl]
  have hl : ∀ p ∈ b.rs, p.1.length < 1000000000 := fun p hp => by
    have := (ok.r p hp).2
    have z := sizeLine_eq
    omega
  have el := fun h => e_law_tidy (n + 4) b.rs h hl ok.rz
  unfold Bk.tidy
  cases ht : tdy 0 b.rs with
  | inl x =>
    obtain ⟨w, k⟩ := x
    rw [ht] at el
    have hw := tdy_str _ _ ht
    have e1 := fun h => e_clash (n + 5) w (k : Int) h
    have e2 := fun h => e_clash_eq (n + 5) w (k : Int) hw h
    have e3 := fun h => o_eqR (h := h) (a := .tup [.str w, .int (k : Int)]) (n := 1) (fun x hx => by
      rcases List.mem_cons.mp hx with rfl | hx
      · exact hw
      · obtain rfl := List.mem_singleton.mp hx; exact trivial) (by omega)
    have g0 : L2.atI [D.str w, D.int (k : Int)] 0 = some (.str w) := rfl
    have g1 : L2.atI [D.str w, D.int (k : Int)] 1 = some (.int (k : Int)) := rfl
    dsimp only [ltD] at el ⊢
    unfold clD at e1 e2 ⊢
    simp [startL, el, lookT, isi_Clash, ok_why, ok_at, List.lookup, e3, e1, g0, g1, oOwn, e2]
  | inr t =>
    rw [ht] at el
    dsimp only [ltD] at el ⊢
    have okt := ok.tidy ht
    have again : Bk.tidy { b with rs := t } = Bk.D { b with rs := t } := by
      unfold Bk.tidy
      rw [tdy_again t 0 fun q hq => by
        obtain ⟨p, _, h1, h2, h3⟩ := (tdy_mem _ _ _ ht).2 q hq
        exact ⟨⟨p, h1⟩, h2, h3⟩]
    have e1 := fun h => e_tidy n { b with rs := t } h okt
    rw [again] at e1
    have e2 := fun h => e_book_eq (n + 5) { b with rs := t } h
    have e3 := fun h => o_neR (h := h) (sm_rows t) (by omega)
    have e4 := fun h => o_neR (h := h) (sm_key b) (by omega)
    unfold Bk.D at e1 e2 ⊢
    dsimp only at e1 e2 ⊢
    simp [startL, el, lookT, isi_Book, ok_rows, ok_deeds, ok_ends, ok_states, List.lookup, e3, e4, e1, oOwn, e2]
end K03

namespace K03
open PySem PySem.Spec Mi
/-! ### drawn numbers -/
/-- the law's source of numbers, drawn from k times at most -/
def Src (k : Nat) (o : O) : Prop := ∃ (sc : List Int) (a : Nat) (b : Int) (c : Nat), o = .lst [.lv (sc.map D.int), .int (a : Int), .int b, .int (c : Int)] ∧ a ≤ k ∧ c < 2147483647
theorem Src.up {k m : Nat} {o : O} (h : Src k o) (hk : k ≤ m) : Src m o := by
  obtain ⟨sc, a, b, c, e, h1, h2⟩ := h
  exact ⟨sc, a, b, c, e, Nat.le_trans h1 hk, h2⟩
theorem cm {i j : Int} (h1 : i.natAbs < 2 ^ 200) (h2 : j.natAbs < 2 ^ 200) : cMulW i j = true := by
  unfold cMulW
  apply decide_eq_true
  have a : i.natAbs.log2 < 200 := by
    by_cases z : i.natAbs = 0
    · rw [z]; decide
    · exact (Nat.log2_lt z).mpr h1
  have b : j.natAbs.log2 < 200 := by
    by_cases z : j.natAbs = 0
    · rw [z]; decide
    · exact (Nat.log2_lt z).mpr h2
  omega
theorem cd {i j : Int} (h1 : 0 < j) (h2 : j.natAbs < 2 ^ 200) : cDivW i j = true := by
  unfold cDivW
  rw [Bool.and_eq_true, decide_eq_true_eq, decide_eq_true_eq]
  refine ⟨h1, ?_⟩
  have : j.natAbs.log2 < 200 := (Nat.log2_lt (by omega)).mpr h2
  omega
@[simp] theorem at0 {o : O} {t : Hs} : (o :: t)[0]? = some o := rfl
theorem e_take (n k : Nat) (hk : k < 1000000) {src : O} (hs : Src k src) (M : Nat) (hM : 0 < M) (hM2 : M < 1000000) (t : Hs) : ∃ v : Nat, v < M ∧ ∃ src', Src (k + 1) src' ∧ callF defs (n + 1) 16 [.r 0, .d (.int (M : Int))] (src :: t) = .ok (.d (.int (v : Int))) (src' :: t) := by
  obtain ⟨sc, a, b, c, rfl, ha, hc⟩ := hs
  rw [callF_at (md := ⟨2, 5, false, m__law_take⟩) rfl rfl]
  have x0 : ∀ w x y z : D, L2.atI [w, x, y, z] 0 = some w := fun _ _ _ _ => rfl
  have x1 : ∀ w x y z : D, L2.atI [w, x, y, z] 1 = some x := fun _ _ _ _ => rfl
  have x2 : ∀ w x y z : D, L2.atI [w, x, y, z] 2 = some y := fun _ _ _ _ => rfl
  have x3 : ∀ w x y z : D, L2.atI [w, x, y, z] 3 = some z := fun _ _ _ _ => rfl
  have i1 : L2.ixN 4 1 = some 1 := rfl
  have i2 : L2.ixN 4 2 = some 2 := rfl
  have i3 : L2.ixN 4 3 = some 3 := rfl
  have rI : ∀ (xs : List D) (t : Hs) (i : Int), oIx (.r 0) (.d (.int i)) (.lst xs :: t) = (L2.atI xs i).map fun d => (.d d, .lst xs :: t) := fun xs t i => o_ixR rfl i
  have hMI : (0 : Int) < (M : Int) := by omega
  have dM : ∀ i : Int, cDivW i (M : Int) = true := fun i => cd hMI (by omega)
  have md : ∀ i : Int, ∃ v : Nat, v < M ∧ i % (M : Int) = (v : Int) := fun i => ⟨(i % (M : Int)).toNat, by
    have h1 := Int.emod_nonneg i (show (M : Int) ≠ 0 by omega)
    have h2 := Int.emod_lt_of_pos i hMI
    omega, by
    have h1 := Int.emod_nonneg i (show (M : Int) ≠ 0 by omega)
    omega⟩
  have pw : ∀ h : Hs, oPow (.d (.int 10)) (.d (.int 18)) h = some (.d (.int 1000000000000000000), h) := fun h => by
    rw [o_pow, show cPow 10 18 = true by decide +kernel]; rfl
  have d7 : ∀ i : Int, cDivW i 7 = true := fun i => cd (by omega) (by decide)
  by_cases hb : b = 0
  · subst hb
    have mix : ∀ cell : Int, ∃ c1 : Nat, c1 < 2147483647 ∧ ((c : Int) * 69621 + cell % 2147483629 * 48271 + ((a : Int) + 1) * 7919 + 1) % 2147483647 = (c1 : Int) := fun cell => by
      have h1 := Int.emod_nonneg ((c : Int) * 69621 + cell % 2147483629 * 48271 + ((a : Int) + 1) * 7919 + 1) (show (2147483647 : Int) ≠ 0 by omega)
      have h2 := Int.emod_lt_of_pos ((c : Int) * 69621 + cell % 2147483629 * 48271 + ((a : Int) + 1) * 7919 + 1) (show (0 : Int) < 2147483647 by omega)
      generalize ((c : Int) * 69621 + cell % 2147483629 * 48271 + ((a : Int) + 1) * 7919 + 1) % 2147483647 = z at *
      exact ⟨z.toNat, by omega, by omega⟩
    have mix2 : ∀ c1 : Nat, ∃ c2 : Nat, c2 < 2147483647 ∧ ((c1 : Int) * (c1 : Int) + ((a : Int) + 1) * 104729 + 13) % 2147483629 = (c2 : Int) := fun c1 => by
      have h1 := Int.emod_nonneg ((c1 : Int) * (c1 : Int) + ((a : Int) + 1) * 104729 + 13) (show (2147483629 : Int) ≠ 0 by omega)
      have h2 := Int.emod_lt_of_pos ((c1 : Int) * (c1 : Int) + ((a : Int) + 1) * 104729 + 13) (show (0 : Int) < 2147483629 by omega)
      generalize ((c1 : Int) * (c1 : Int) + ((a : Int) + 1) * 104729 + 13) % 2147483629 = z at *
      exact ⟨z.toNat, by omega, by omega⟩
    have q1 : cMulW (c : Int) 69621 = true := cm (by omega) (by decide)
    have q2 : ∀ cell : Int, cMulW (cell % 2147483629) 48271 = true := fun cell => by
      have h1 := Int.emod_nonneg cell (show (2147483629 : Int) ≠ 0 by omega)
      have h2 := Int.emod_lt_of_pos cell (show (0 : Int) < 2147483629 by omega)
      generalize cell % 2147483629 = z at *
      exact cm (by omega) (by decide)
    have q3 : cMulW ((a : Int) + 1) 7919 = true := cm (by omega) (by decide)
    have q4 : cMulW ((a : Int) + 1) 104729 = true := cm (by omega) (by decide)
    have q5 : ∀ c1 : Nat, c1 < 2147483647 → cMulW (c1 : Int) (c1 : Int) = true := fun c1 h => cm (by omega) (by omega)
    by_cases hlt : a < sc.length
    · have hlt' : (a : Int) < (sc.length : Int) := by omega
      have g : L2.atI (sc.map D.int) (a : Int) = some (.int sc[a]) := by rw [atI_nat, map_get, List.getElem?_eq_getElem hlt]; rfl
      generalize sc[a] = cell at *
      by_cases hbig : 1000000000000000000 ≤ cell
      · obtain ⟨v, hv, ev⟩ := md cell
        refine ⟨v, hv, .lst [.lv (sc.map D.int), .int ((a + 1 : Nat) : Int), .int (cell / (M : Int)), .int (c : Int)], ⟨sc, a + 1, _, c, rfl, by omega, hc⟩, ?_⟩
        simp [startL, rI, x0, x1, x2, x3, i1, i2, i3, hlt', g, pw, hbig, hM, dM, ev]
      · obtain ⟨c1, hc1, e1⟩ := mix cell
        obtain ⟨c2, hc2, e2⟩ := mix2 c1
        obtain ⟨v, hv, ev⟩ := md ((c2 : Int) / 7)
        refine ⟨v, hv, .lst [.lv (sc.map D.int), .int ((a + 1 : Nat) : Int), .int 0, .int (c2 : Int)], ⟨sc, a + 1, 0, c2, rfl, by omega, hc2⟩, ?_⟩
        simp [startL, rI, x0, x1, x2, x3, i1, i2, i3, hlt', g, pw, hbig, hM, dM, d7, q1, q2, q3, q4, q5 c1 hc1, e1, e2, ev]
    · have hlt' : ¬ (a : Int) < (sc.length : Int) := by omega
      obtain ⟨c1, hc1, e1⟩ := mix 0
      obtain ⟨c2, hc2, e2⟩ := mix2 c1
      obtain ⟨v, hv, ev⟩ := md ((c2 : Int) / 7)
      refine ⟨v, hv, .lst [.lv (sc.map D.int), .int ((a + 1 : Nat) : Int), .int 0, .int (c2 : Int)], ⟨sc, a + 1, 0, c2, rfl, by omega, hc2⟩, ?_⟩
      have q20 := q2 0
      simp at e1 q20
      simp [startL, rI, x0, x1, x2, x3, i1, i2, i3, hlt', pw, hM, dM, d7, q1, q20, q3, q4, q5 c1 hc1, e1, e2, ev]
  · obtain ⟨v, hv, ev⟩ := md b
    refine ⟨v, hv, .lst [.lv (sc.map D.int), .int (a : Int), .int (b / (M : Int)), .int (c : Int)], ⟨sc, a, _, c, rfl, by omega, hc⟩, ?_⟩
    simp [startL, rI, x0, x1, x2, x3, i1, i2, i3, hb, hM, dM, ev]
end K03

namespace K03
open PySem PySem.Spec Mi
theorem cmpL_draw {vs : List Nat} {g : SemG} {f : SemE} {σ : Lo} (cost K : Nat) (P : D → Prop) (t : Hs) : ∀ (ds : List D) (k : Nat) (src : O) (acc : List D),
    (∀ d ∈ ds, ∀ k src h', k + cost ≤ K → Src k src → ∃ σ1 y src', (∀ h, g (.d d) (wipeL σ vs) h = some (σ1, h)) ∧ P y ∧ Src (k + cost) src' ∧ f σ1 (src :: h') = .ok (.d y) (src' :: h')) →
    Src k src → k + cost * ds.length ≤ K → acc.length + ds.length < sizeLine →
    ∃ ys src', ys.length = ds.length ∧ (∀ y ∈ ys, P y) ∧ Src (k + cost * ds.length) src' ∧ cmpL vs g tYs f (t.length + 1) ds σ (src :: (t ++ [.lst acc])) = some (src' :: (t ++ [.lst (acc ++ ys)]))
  | [], k, src, acc, _, hs, _, _ => ⟨[], src, rfl, fun y hy => (by cases hy), hs.up (by simp), by simp [cmpL]⟩
  | d :: ds, k, src, acc, step, hs, hK, hz => by
    rw [List.length_cons, Nat.mul_succ] at hK
    rw [List.length_cons] at hz
    obtain ⟨σ1, y, src1, e1, py, s1, e2⟩ := step d List.mem_cons_self k src (t ++ [.lst acc]) (by omega) hs
    obtain ⟨ys, src', h1, h2, h3, h4⟩ := cmpL_draw cost K P t ds (k + cost) src1 (acc ++ [y]) (fun d hd => step d (List.mem_cons_of_mem _ hd)) s1 (by omega) (by rw [List.length_append, List.length_singleton]; omega)
    have ca := cmpAdd_d (h := src1 :: t) (acc := acc) (d := y) (by omega)
    rw [List.length_cons, List.cons_append, List.cons_append] at ca
    refine ⟨y :: ys, src', by rw [List.length_cons, h1, List.length_cons], fun z hz => ?_, h3.up (by rw [List.length_cons, Nat.mul_succ]; omega), ?_⟩
    · rcases List.mem_cons.mp hz with rfl | hz
      · exact py
      · exact h2 z hz
    · rw [cmpL, e1]
      dsimp only
      rw [ap_tys]
      dsimp only
      rw [if_pos rfl, e2]
      dsimp only
      rw [ca]
      dsimp only
      rw [h4, List.append_assoc]
      rfl
theorem ints_of {P : Int → Prop} : ∀ {ys : List D}, (∀ y ∈ ys, ∃ i : Int, y = .int i ∧ P i) → ∃ w : List Int, ys = w.map D.int ∧ (∀ i ∈ w, P i) ∧ w.length = ys.length
  | [], _ => ⟨[], rfl, fun i hi => (by cases hi), rfl⟩
  | y :: ys, h => by
    obtain ⟨i, rfl, pi⟩ := h y List.mem_cons_self
    obtain ⟨w, rfl, pw, lw⟩ := ints_of fun z hz => h z (List.mem_cons_of_mem _ hz)
    refine ⟨i :: w, rfl, fun j hj => ?_, by simp⟩
    rcases List.mem_cons.mp hj with rfl | hj
    · exact pi
    · exact pw j hj
theorem tups_of {P : Wd → Prop} : ∀ {ys : List D}, (∀ y ∈ ys, ∃ i : Wd, y = iT i ∧ P i) → ∃ w : List Wd, ys = w.map iT ∧ (∀ i ∈ w, P i) ∧ w.length = ys.length
  | [], _ => ⟨[], rfl, fun i hi => (by cases hi), rfl⟩
  | y :: ys, h => by
    obtain ⟨i, rfl, pi⟩ := h y List.mem_cons_self
    obtain ⟨w, rfl, pw, lw⟩ := tups_of fun z hz => h z (List.mem_cons_of_mem _ hz)
    refine ⟨i :: w, rfl, fun j hj => ?_, by simp⟩
    rcases List.mem_cons.mp hj with rfl | hj
    · exact pi
    · exact pw j hj
theorem e_pick (n k : Nat) (hk : k < 1000000) {src : O} (hs : Src k src) (xs : List D) (hx : xs ≠ []) (hl : xs.length < 1000000) (t : Hs) : ∃ x ∈ xs, ∃ src', Src (k + 1) src' ∧ callF defs (n + 2) 17 [.r 0, .d (.lv xs)] (src :: t) = .ok (.d x) (src' :: t) := by
  rw [callF_at (md := ⟨2, 2, false, m__law_pick⟩) rfl rfl]
  obtain ⟨v, hv, src', s', e⟩ := e_take n k hk hs xs.length (List.length_pos_iff.mpr hx) hl t
  have g : L2.atI xs (v : Int) = some xs[v] := by rw [atI_nat, List.getElem?_eq_getElem hv]
  refine ⟨xs[v], List.getElem_mem hv, src', s', ?_⟩
  simp [startL, e, g]
theorem e_moves (n k : Nat) (hk : k + 100 < 1000000) {src : O} (hs : Src k src) (S : Nat) (hS : 0 < S) (hS2 : S ≤ 3) (t : Hs) : ∃ ms : List Wd, (ms.length = S ∧ ∀ m ∈ ms, m.length = 2 ∧ ∀ i ∈ m, 0 ≤ i ∧ i < (S : Int)) ∧ ∃ src', Src (k + 6) src' ∧ callF defs (n + 2) 18 [.r 0, .d (.int (S : Int)), .d (.int 2)] (src :: t) = .ok (.d (.tup (ms.map iT))) (src' :: t) := by
  rw [callF_at (md := ⟨3, 5, false, m__law_moves⟩) rfl rfl]
  have z := sizeLine_eq
  obtain ⟨ys, src', h1, h2, h3, h4⟩ := cmpL_draw (vs := [3]) (g := gNm 3) (f := eN nTuple (aCons (eLc false [4] (iA1 (aCons (eVar 2) aNil)) (gNm 4) tYs (eCl (callF defs (n + 1)) 16 [] (aCons (eVar 0) (aCons (eVar 1) aNil)))) aNil)) (σ := [some (.r 0), some (.d (.int (S : Int))), some (.d (.int 2)), none, none]) 2 (k + 100) (fun y => ∃ m : Wd, y = iT m ∧ m.length = 2 ∧ ∀ i ∈ m, 0 ≤ i ∧ i < (S : Int)) t (rngD 0 S) k src [] (fun d hd k1 src1 h' hk1 hs1 => by
    obtain ⟨ys, src2, h1, h2, h3, h4⟩ := cmpL_draw (vs := [4]) (g := gNm 4) (f := eCl (callF defs (n + 1)) 16 [] (aCons (eVar 0) (aCons (eVar 1) aNil))) (σ := [some (.r 0), some (.d (.int (S : Int))), some (.d (.int 2)), some (.d d), none]) 1 (k + 100) (fun y => ∃ i : Int, y = .int i ∧ 0 ≤ i ∧ i < (S : Int)) h' (rngD 0 2) k1 src1 [] (fun d2 hd2 k2 src2 h2' hk2 hs2 => by
      obtain ⟨v, hv, src3, s3, e3⟩ := e_take n k2 (by omega) hs2 S hS (by omega) h2'
      exact ⟨[some (.r 0), some (.d (.int (S : Int))), some (.d (.int 2)), some (.d d), some (.d d2)], .int (v : Int), src3, fun h => by simp [wipeL], ⟨v, rfl, by omega, by omega⟩, s3, by simp [e3]⟩) hs1 (by rw [rngD_len]; omega) (by rw [rngD_len, List.length_nil]; omega)
    rw [rngD_len] at h1 h3
    obtain ⟨w, rfl, pw, lw⟩ := ints_of h2
    refine ⟨[some (.r 0), some (.d (.int (S : Int))), some (.d (.int 2)), some (.d d), none], iT w, src2, fun h => by simp [wipeL], ⟨w, rfl, by omega, pw⟩, h3.up (by omega), ?_⟩
    have rr := fun h => rngR_int (i := 2) (h := h) (by omega) (by omega)
    change ∀ h, rngR [.d (.int 2)] h = .ok (rngD 0 2) h at rr
    rw [List.nil_append] at h4
    simp only [iT]
    simp [rr, h4, lcEnd]) hs (by rw [rngD_len]; omega) (by rw [rngD_len, List.length_nil]; omega)
  rw [rngD_len] at h1 h3
  obtain ⟨ms, rfl, pm, lm⟩ := tups_of h2
  refine ⟨ms, ⟨by omega, pm⟩, src', h3.up (by omega), ?_⟩
  have rr := fun h => rngR_nat (k := S) (h := h) (by omega)
  rw [List.nil_append] at h4
  generalize ms.map iT = X at *
  simp [startL, rr, h4, lcEnd]
/-! ### deeds of places -/
theorem l_dd1 (call : CallT) (S : Nat) (ms : List Wd) (hm : ms.length = S ∧ ∀ m ∈ ms, m.length = 2 ∧ ∀ i ∈ m, 0 ≤ i ∧ i < (S : Int)) (B : D) (L : Nat) (h : Hs) (hL : L < h.length) (st : D) : ∀ (ps : List Int) (a : Nat), (∀ p ∈ ps, 0 ≤ p ∧ p < 2) → a < S → ∀ e, ∃ a' : Nat, a' < S ∧ ∃ e', forL (gNm 5) (b__law_deed_1 call) (ps.map D.int) [some (.d (.tup (ms.map iT))), some (.d B), some (.r L), some (.d st), some (.d (.int (a : Int))), e] h = .ok .nx [some (.d (.tup (ms.map iT))), some (.d B), some (.r L), some (.d st), some (.d (.int (a' : Int))), e'] h
  | [], a, _, ha, e => ⟨a, ha, e, rfl⟩
  | p :: ps, a, hp, ha, e => by
    obtain ⟨p0, p1⟩ := hp p List.mem_cons_self
    have hk : a < ms.length := by omega
    have g1 : L2.atI (ms.map iT) (a : Int) = some (iT ms[a]) := by rw [atI_nat, List.getElem?_map, List.getElem?_eq_getElem hk]; rfl
    obtain ⟨m1, m2⟩ := hm.2 ms[a] (List.getElem_mem hk)
    generalize ms[a] = m at *
    have hk2 : p.toNat < m.length := by omega
    have g2 : L2.atI (m.map D.int) ((p.toNat : Nat) : Int) = some (.int m[p.toNat]) := by
      rw [atI_nat, map_get, List.getElem?_eq_getElem hk2]; rfl
    rw [show ((p.toNat : Nat) : Int) = p by omega] at g2
    obtain ⟨v0, v1⟩ := m2 _ (List.getElem_mem hk2)
    generalize m[p.toNat] = v at *
    obtain ⟨a', ha', e', q⟩ := l_dd1 call S ms hm B L h hL st ps v.toNat (fun q hq => hp q (List.mem_cons_of_mem _ hq)) (by omega) (some (.d (.int p)))
    rw [show ((v.toNat : Nat) : Int) = v by omega] at q
    simp only [iT] at g1
    exact ⟨a', ha', e', by simp [forL, g1, g2, hL, q]⟩
theorem l_dd2 (call : CallT) (S : Nat) (ms : List Wd) (hm : ms.length = S ∧ ∀ m ∈ ms, m.length = 2 ∧ ∀ i ∈ m, 0 ≤ i ∧ i < (S : Int)) (ps : List Int) (hp : ∀ p ∈ ps, 0 ≤ p ∧ p < 2) (h : Hs) : ∀ (k i : Nat) (acc : List Int), i + k = S → acc.length + k < 1000000 → ∀ c d e, ∃ w : List Int, w.length = k ∧ (∀ x ∈ w, 0 ≤ x ∧ x < (S : Int)) ∧ ∃ c' d' e', forL (gNm 3) (b__law_deed_2 call) (rngD (i : Int) k) [some (.d (.tup (ms.map iT))), some (.d (.lv (ps.map D.int))), some (.r h.length), c, d, e] (h ++ [.lst (acc.map D.int)]) = .ok .nx [some (.d (.tup (ms.map iT))), some (.d (.lv (ps.map D.int))), some (.r h.length), c', d', e'] (h ++ [.lst ((acc ++ w).map D.int)])
  | 0, i, acc, _, _, c, d, e => ⟨[], rfl, fun x hx => (by cases hx), c, d, e, by simp [rng_nil, forL]⟩
  | k + 1, i, acc, hi, hz, c, d, e => by
    have z := sizeLine_eq
    obtain ⟨a', ha', e1, q1⟩ := l_dd1 call S ms hm (.lv (ps.map D.int)) h.length (h ++ [.lst (acc.map D.int)]) (by simp) (.int (i : Int)) ps i hp (by omega) e
    obtain ⟨w, lw, pw, c', d', e', q⟩ := l_dd2 call S ms hm ps hp h k (i + 1) (acc ++ [(a' : Int)]) (by omega) (by rw [List.length_append, List.length_singleton]; omega) (some (.d (.int (i : Int)))) (some (.d (.int (a' : Int)))) (clr1 (h.length + 1) e1)
    refine ⟨(a' : Int) :: w, by rw [List.length_cons, lw], fun x hx => ?_, c', d', e', ?_⟩
    · rcases List.mem_cons.mp hx with rfl | hx
      · omega
      · exact pw x hx
    · rw [rng_cons]
      have hz' : acc.length < sizeLine := by omega
      push_cast at q
      simp only [List.map_append, List.map_cons, List.map_nil, List.append_assoc] at q
      simp [forL, q1, hz', q]
theorem e_deed (n : Nat) (S : Nat) (hS : S < 100000) (ms : List Wd) (hm : ms.length = S ∧ ∀ m ∈ ms, m.length = 2 ∧ ∀ i ∈ m, 0 ≤ i ∧ i < (S : Int)) (ps : List Int) (hp : ∀ p ∈ ps, 0 ≤ p ∧ p < 2) (h : Hs) : ∃ w, OkW S w ∧ callF defs (n + 1) 19 [.d (.tup (ms.map iT)), .d (.lv (ps.map D.int))] h = .ok (.d (iT w)) h := by
  rw [callF_at (md := ⟨2, 6, false, m__law_deed⟩) rfl rfl]
  obtain ⟨w, lw, pw, c', d', e', q⟩ := l_dd2 (callF defs n) S ms hm ps hp h S 0 [] (by omega) (by rw [List.length_nil]; omega) none none none
  refine ⟨w, ⟨lw, pw⟩, ?_⟩
  change forL _ _ (rngD 0 _) _ _ = _ at q
  have rr := fun h => rngR_nat (k := S) (h := h) (by omega)
  rw [List.nil_append] at q
  have hl : (ms.map iT).length = S := by rw [List.length_map]; exact hm.1
  clear hm
  generalize ms.map iT = X at *
  simp only [iT, List.map_nil] at q ⊢
  simp [startL, hl, rr, q, n_tupR at_len]
/-! ### lots of deeds -/
theorem l_lots (n S : Nat) (hS : S < 100000) (hS0 : 0 < S) (ms : List Wd) (hm : ms.length = S ∧ ∀ m ∈ ms, m.length = 2 ∧ ∀ i ∈ m, 0 ≤ i ∧ i < (S : Int)) (M : D) (t : Hs) : ∀ (k i q : Nat) (src : O) (acc : List Wd), Src q src → q + 4 * k < 900000 → acc.length + k < 1000000 → ∀ c d, ∃ ws : List Wd, ws.length = k ∧ (∀ w ∈ ws, OkW S w) ∧ ∃ c' d' src', Src (q + 4 * k) src' ∧ forL (gNm 4) (b__law_lots_1 (callF defs (n + 1))) (rngD (i : Int) k) [some (.r 0), some (.d (.tup (ms.map iT))), some (.d M), some (.r (t.length + 1)), c, d, none] (src :: (t ++ [.lst (acc.map iT)])) = .ok .nx [some (.r 0), some (.d (.tup (ms.map iT))), some (.d M), some (.r (t.length + 1)), c', d', none] (src' :: (t ++ [.lst ((acc ++ ws).map iT)]))
  | 0, i, q, src, acc, hs, _, _, c, d => ⟨[], rfl, fun x hx => (by cases hx), c, d, src, hs, by simp [rng_nil, forL]⟩
  | k + 1, i, q, src, acc, hs, hq, hz, c, d => by
    have z := sizeLine_eq
    obtain ⟨v, hv, src1, s1, e1⟩ := e_take n q (by omega) hs 3 (by omega) (by omega) (t ++ [.lst (acc.map iT)])
    have m0 : L2.atI (ms.map iT) 0 = some (iT (ms.headD [])) := by
      cases ms with
      | nil => exact absurd hm.1 (by simp only [List.length_nil]; omega)
      | cons m ms =>
        have := atI_nat ((m :: ms).map iT) 0
        simpa using this
    have l0 : (ms.headD []).length = 2 := by
      cases ms with
      | nil => exact absurd hm.1 (by simp only [List.length_nil]; omega)
      | cons m ms => exact (hm.2 m List.mem_cons_self).1
    obtain ⟨ys, src2, y1, y2, y3, y4⟩ := cmpL_draw (vs := [6]) (g := gNm 6) (f := eCl (callF defs (n + 1)) 16 [] (aCons (eVar 0) (aCons (eN nLen (aCons (eBin oIx (eVar 1) (eK (.int 0))) aNil)) aNil))) (σ := [some (.r 0), some (.d (.tup (ms.map iT))), some (.d M), some (.r (t.length + 1)), some (.d (.int (i : Int))), d, none]) 1 900000 (fun y => ∃ i : Int, y = .int i ∧ 0 ≤ i ∧ i < 2) (t ++ [.lst (acc.map iT)]) (rngD 0 (1 + v)) (q + 1) src1 [] (fun d2 hd2 k2 src2 h2' hk2 hs2 => by
      obtain ⟨v, hv, src3, s3, e3⟩ := e_take n k2 (by omega) hs2 2 (by omega) (by omega) h2'
      change callF defs (n + 1) 16 [.r 0, .d (.int 2)] _ = _ at e3
      refine ⟨[some (.r 0), some (.d (.tup (ms.map iT))), some (.d M), some (.r (t.length + 1)), some (.d (.int (i : Int))), d, some (.d d2)], .int (v : Int), src3, fun h => by simp [wipeL], ⟨v, rfl, by omega, by omega⟩, s3, ?_⟩
      generalize ms.headD [] = hd at *
      simp only [iT] at m0
      simp [m0, l0, e3]) s1 (by rw [rngD_len]; omega) (by rw [rngD_len, List.length_nil]; omega)
    rw [rngD_len] at y1 y3
    obtain ⟨ps, rfl, pp, lp⟩ := ints_of y2
    obtain ⟨w, ow, ed⟩ := e_deed n S hS ms hm ps pp (src2 :: (t ++ [.lst (acc.map iT)]))
    obtain ⟨ws, lw, pw, c', d', src', s', e⟩ := l_lots n S hS hS0 ms hm M t k (i + 1) (q + 4) src2 (acc ++ [w]) (y3.up (by omega)) (by omega) (by rw [List.length_append, List.length_singleton]; omega) (some (.d (.int (i : Int)))) (some (.d (.lv (ps.map D.int))))
    refine ⟨w :: ws, by rw [List.length_cons, lw], fun x hx => ?_, c', d', src', s'.up (by omega), ?_⟩
    · rcases List.mem_cons.mp hx with rfl | hx
      · exact ow
      · exact pw x hx
    · rw [rng_cons]
      change callF defs (n + 1) 16 [.r 0, .d (.int 3)] _ = _ at e1
      have hz' : acc.length < sizeLine := by omega
      have rr := fun h => rngR_nat (k := 1 + v) (h := h) (by omega)
      push_cast at e rr
      rw [List.nil_append] at y4
      simp only [List.map_append, List.map_cons, List.map_nil, List.append_assoc, List.cons_append, List.nil_append] at e y4
      simp only [List.length_append, List.length_singleton] at y4
      simp [forL, e1, rr, y4, lcEnd, ed, hz', e]
end K03

namespace K03
open PySem PySem.Spec Mi
theorem e_lots (n S : Nat) (hS : S < 100000) (hS0 : 0 < S) (ms : List Wd) (hm : ms.length = S ∧ ∀ m ∈ ms, m.length = 2 ∧ ∀ i ∈ m, 0 ≤ i ∧ i < (S : Int)) (k q : Nat) (hk : k < 100) {src : O} (hs : Src q src) (hq : q + 1000 < 900000) (t : Hs) : ∃ ws : List Wd, ws.length = k ∧ (∀ w ∈ ws, OkW S w) ∧ ∃ src', Src (q + 4 * k) src' ∧ callF defs (n + 2) 31 [.r 0, .d (.tup (ms.map iT)), .d (.int (k : Int))] (src :: t) = .ok (.d (.lv (ws.map iT))) (src' :: t) := by
  rw [callF_at (md := ⟨3, 7, false, m__law_lots⟩) rfl rfl]
  obtain ⟨ws, lw, pw, c', d', src', s', e⟩ := l_lots n S hS hS0 ms hm (.int (k : Int)) t k 0 q src [] hs (by omega) (by rw [List.length_nil]; omega) none none
  refine ⟨ws, lw, pw, src', s', ?_⟩
  change forL _ _ (rngD 0 _) _ _ = _ at e
  have rr := fun h => rngR_nat (k := k) (h := h) (by omega)
  rw [List.nil_append] at e
  simp only [List.map_nil] at e
  generalize ms.map iT = X at *
  simp [startL, rr, e]
  rw [fin_retR (xs := ws.map iT) (by simp)]
  simp
/-! ### sides -/
theorem l_side (n L U : Nat) (hL : 0 < L ∧ L < 1000) (hU : 0 < U ∧ U < 1000) (M : D) (t : Hs) : ∀ (k i q : Nat) (src : O) (acc : List Int), Src q src → q + 2 * k < 900000 → acc.length + k < 1000000 → ∀ e, ∃ s : List Int, s.length = k ∧ (∀ x ∈ s, OkS (L : Int) (U : Int) x) ∧ ∃ e' src', Src (q + 2 * k) src' ∧ forL (gNm 5) (b__law_side_1 (callF defs (n + 1))) (rngD (i : Int) k) [some (.r 0), some (.d (.int (L : Int))), some (.d (.int (U : Int))), some (.d M), some (.r (t.length + 1)), e] (src :: (t ++ [.lst (acc.map D.int)])) = .ok .nx [some (.r 0), some (.d (.int (L : Int))), some (.d (.int (U : Int))), some (.d M), some (.r (t.length + 1)), e'] (src' :: (t ++ [.lst ((acc ++ s).map D.int)]))
  | 0, i, q, src, acc, hs, _, _, e => ⟨[], rfl, fun x hx => (by cases hx), e, src, hs, by simp [rng_nil, forL]⟩
  | k + 1, i, q, src, acc, hs, hq, hz, e => by
    have z := sizeLine_eq
    have hz' : acc.length < sizeLine := by omega
    obtain ⟨v, hv, src1, s1, e1⟩ := e_take n q (by omega) hs 2 (by omega) (by omega) (t ++ [.lst (acc.map D.int)])
    change callF defs (n + 1) 16 [.r 0, .d (.int 2)] _ = _ at e1
    by_cases h0 : v = 0
    · subst h0
      obtain ⟨u, hu, src2, s2, e2⟩ := e_take n (q + 1) (by omega) s1 U hU.1 (by omega) (t ++ [.lst (acc.map D.int)])
      obtain ⟨s, ls, ps, e', src', s', ih⟩ := l_side n L U hL hU M t k (i + 1) (q + 2) src2 (acc ++ [-1 - (u : Int)]) s2 (by omega) (by rw [List.length_append, List.length_singleton]; omega) (some (.d (.int (i : Int))))
      refine ⟨(-1 - (u : Int)) :: s, by rw [List.length_cons, ls], fun x hx => ?_, e', src', s'.up (by omega), ?_⟩
      · rcases List.mem_cons.mp hx with rfl | hx
        · exact ⟨by omega, by omega⟩
        · exact ps x hx
      · rw [rng_cons]
        push_cast at ih
        simp only [List.map_append, List.map_cons, List.map_nil, List.append_assoc, List.cons_append, List.nil_append] at ih
        simp at e1
        simp [forL, e1, e2, hz', ih]
    · obtain ⟨u, hu, src2, s2, e2⟩ := e_take n (q + 1) (by omega) s1 L hL.1 (by omega) (t ++ [.lst (acc.map D.int)])
      obtain ⟨s, ls, ps, e', src', s', ih⟩ := l_side n L U hL hU M t k (i + 1) (q + 2) src2 (acc ++ [(u : Int)]) s2 (by omega) (by rw [List.length_append, List.length_singleton]; omega) (some (.d (.int (i : Int))))
      refine ⟨(u : Int) :: s, by rw [List.length_cons, ls], fun x hx => ?_, e', src', s'.up (by omega), ?_⟩
      · rcases List.mem_cons.mp hx with rfl | hx
        · exact ⟨by omega, by omega⟩
        · exact ps x hx
      · rw [rng_cons]
        push_cast at ih
        have h0' : ¬ (v : Int) = 0 := by omega
        simp only [List.map_append, List.map_cons, List.map_nil, List.append_assoc, List.cons_append, List.nil_append] at ih
        simp [forL, e1, e2, h0, h0', hz', ih]
theorem e_side (n L U : Nat) (hL : 0 < L ∧ L < 1000) (hU : 0 < U ∧ U < 1000) (m q : Nat) (hm : 0 < m ∧ m < 1000) {src : O} (hs : Src q src) (hq : q + 3000 < 900000) (t : Hs) : ∃ s : List Int, s.length ≤ m ∧ (∀ x ∈ s, OkS (L : Int) (U : Int) x) ∧ ∃ src', Src (q + 1 + 2 * m) src' ∧ callF defs (n + 2) 21 [.r 0, .d (.int (L : Int)), .d (.int (U : Int)), .d (.int (m : Int))] (src :: t) = .ok (.d (iT s)) (src' :: t) := by
  rw [callF_at (md := ⟨4, 6, false, m__law_side⟩) rfl rfl]
  obtain ⟨v, hv, src1, s1, e1⟩ := e_take n q (by omega) hs m hm.1 (by omega) (t ++ [.lst []])
  obtain ⟨s, ls, ps, e', src', s', e⟩ := l_side n L U hL hU (.int (m : Int)) t (1 + v) 0 (q + 1) src1 [] s1 (by omega) (by rw [List.length_nil]; omega) none
  refine ⟨s, by omega, ps, src', s'.up (by omega), ?_⟩
  change forL _ _ (rngD 0 _) _ _ = _ at e
  have rr := fun h => rngR_nat (k := 1 + v) (h := h) (by omega)
  push_cast at rr
  rw [List.nil_append] at e
  simp only [List.map_nil, iT] at e ⊢
  have tp : ∀ X : List D, nTuple [.r (t.length + 1)] (src' :: (t ++ [.lst X])) = some (.d (.tup X), src' :: (t ++ [.lst X])) := fun X => n_tupR (by simp)
  simp [startL, e1, rr, e, tp]
/-! ### ends -/
theorem okG_mono {S : Nat} : ∀ {gs : List Int} {b c : Int}, b ≤ c → OkG S c gs → OkG S b gs
  | [], _, _, _, _ => trivial
  | x :: gs, b, c, h, ⟨h1, h2, h3, h4⟩ => ⟨by omega, h2, h3, h4⟩
theorem okG_rg (S : Nat) : ∀ (k i : Nat), i + k ≤ S → OkG S ((i : Int) - 1) ((List.range' i k).map fun j : Nat => (j : Int))
  | 0, i, _ => trivial
  | k + 1, i, h => by
    rw [List.range'_succ, List.map_cons]
    refine ⟨by omega, by omega, by omega, ?_⟩
    have := okG_rg S k (i + 1) (by omega)
    rw [show (((i + 1 : Nat) : Int) - 1) = (i : Int) by omega] at this
    exact this
theorem l_es (n S : Nat) (a b c : Option Vl) (t : Hs) : ∀ (k i q : Nat) (src : O) (acc : List Int), i + k ≤ S → Src q src → q + k < 900000 → acc.length + k < 1000000 → ∃ gs : List Int, OkG S ((i : Int) - 1) gs ∧ ∃ src', Src (q + k) src' ∧ cmpL [3] (gNm 3) (tBl (eBin oGt (eCl (callF defs (n + 1)) 16 [] (aCons (eVar 0) (aCons (eK (.int 3)) aNil))) (eK (.int 0)))) (eVar 3) (t.length + 1) (rngD (i : Int) k) [some (.r 0), a, b, c] (src :: (t ++ [.lst (acc.map D.int)])) = some (src' :: (t ++ [.lst ((acc ++ gs).map D.int)]))
  | 0, i, q, src, acc, _, hs, _, _ => ⟨[], trivial, src, hs, by simp [rng_nil, cmpL]⟩
  | k + 1, i, q, src, acc, hi, hs, hq, hz => by
    have z := sizeLine_eq
    obtain ⟨v, hv, src1, s1, e1⟩ := e_take n q (by omega) hs 3 (by omega) (by omega) (t ++ [.lst (acc.map D.int)])
    change callF defs (n + 1) 16 [.r 0, .d (.int 3)] _ = _ at e1
    rw [rng_cons]
    by_cases h0 : 0 < v
    · obtain ⟨gs, og, src', s', ih⟩ := l_es n S a b c t k (i + 1) (q + 1) src1 (acc ++ [(i : Int)]) (by omega) s1 (by omega) (by rw [List.length_append, List.length_singleton]; omega)
      rw [show (((i + 1 : Nat) : Int) - 1) = (i : Int) by omega] at og
      refine ⟨(i : Int) :: gs, ⟨by omega, by omega, by omega, og⟩, src', s'.up (by omega), ?_⟩
      have ca := cmpAdd_d (h := src1 :: t) (acc := acc.map D.int) (d := .int (i : Int)) (by rw [List.length_map]; omega)
      rw [List.length_cons, List.cons_append, List.cons_append] at ca
      have h0' : (0 : Int) < (v : Int) := by omega
      push_cast at ih
      simp only [List.map_append, List.map_cons, List.map_nil, List.append_assoc, List.cons_append, List.nil_append] at ih
      simp [cmpL, wipeL, e1, h0, h0', ca, ih]
    · obtain ⟨gs, og, src', s', ih⟩ := l_es n S a b c t k (i + 1) (q + 1) src1 acc (by omega) s1 (by omega) (by omega)
      refine ⟨gs, okG_mono (by omega) og, src', s'.up (by omega), ?_⟩
      have h0' : ¬ (0 : Int) < (v : Int) := by omega
      push_cast at ih
      simp only [List.map_append] at ih
      simp [cmpL, wipeL, e1, h0, h0', ih]
theorem e_end_states (n S q : Nat) (hS : 0 < S ∧ S < 1000) {src : O} (hs : Src q src) (hq : q + 3000 < 900000) (t : Hs) : ∃ p, OkE S p ∧ ∃ src', Src (q + 2 + S) src' ∧ callF defs (n + 2) 32 [.r 0, .d (.int (S : Int))] (src :: t) = .ok (.d (eD p)) (src' :: t) := by
  rw [callF_at (md := ⟨2, 4, false, m__law_end_states⟩) rfl rfl]
  obtain ⟨v, hv, src1, s1, e1⟩ := e_take n q (by omega) hs S hS.1 (by omega) t
  obtain ⟨u, hu, src2, s2, e2⟩ := e_take n (q + 1) (by omega) s1 2 (by omega) (by omega) t
  change callF defs (n + 1) 16 [.r 0, .d (.int 2)] _ = _ at e2
  by_cases h0 : u = 0
  · subst h0
    have og := okG_rg S S 0 (by omega)
    rw [← List.range_eq_range'] at og
    refine ⟨((v : Int), rg S), ⟨⟨by omega, by omega⟩, og⟩, src2, s2.up (by omega), ?_⟩
    have rr := fun h => trR_nat (k := S) (h := h) (by omega)
    rw [rngD_ints] at rr
    simp only [eD, iT]
    generalize rg S = X at *
    simp at e2
    simp [startL, e1, e2, rr]
  · obtain ⟨gs, og, src', s', e⟩ := l_es n S (some (.d (.int (S : Int)))) (some (.d (.int (v : Int)))) none t S 0 (q + 2) src2 [] (by omega) s2 (by omega) (by rw [List.length_nil]; omega)
    refine ⟨((v : Int), gs), ⟨⟨by omega, by omega⟩, og⟩, src', s'.up (by omega), ?_⟩
    have rr := fun h => rngR_nat (k := S) (h := h) (by omega)
    have h0' : ¬ (u : Int) = 0 := by omega
    change cmpL _ _ _ _ _ (rngD 0 _) _ _ = _ at e
    rw [List.nil_append] at e
    simp only [List.map_nil, eD, iT] at e ⊢
    simp [startL, e1, e2, h0, h0', rr, e, lcEnd]
end K03

namespace K03
open PySem PySem.Spec Mi
/-- texts that rows are cut out of -/
def Tx (L : Nat) (ws : List Wd) : Prop := ∀ w ∈ ws, w ≠ [] ∧ w.length ≤ 3 ∧ ∀ x ∈ w, 0 ≤ x ∧ x < (L : Int)
def fitJ (ws : List Wd) (rest : List Int) (d : D) : Bool := decide (rest.take (ws.getD (unJ d).toNat []).length = ws.getD (unJ d).toNat [])
theorem l_cut (n L : Nat) (ws : List Wd) (hw : Tx L ws) (hU : 0 < ws.length ∧ ws.length < 1000) (A B C : D) (t : Hs) : ∀ (k i q : Nat) (src : O) (rest acc : List Int), Src q src → q + 2 * k < 900000 → acc.length + k < 1000000 → rest.length < 1000000 → (∀ x ∈ rest, 0 ≤ x ∧ x < (L : Int)) → (∀ x ∈ acc, OkS (L : Int) (ws.length : Int) x) → ∀ a b c, clr1 (t.length + 2) b = b → clr1 (t.length + 2) c = c → ∃ rest' acc' : List Int, (∀ x ∈ rest', 0 ≤ x ∧ x < (L : Int)) ∧ (∀ x ∈ acc', OkS (L : Int) (ws.length : Int) x) ∧ acc'.length ≤ acc.length + k ∧ rest'.length ≤ rest.length ∧ ∃ a' b' c' src', Src (q + 2 * k) src' ∧
    forL (gNm 7) (b__law_cut_row_1 (callF defs (n + 2))) (rngD (i : Int) k) [some (.r 0), some (.d (.lv (ws.map iT))), some (.d A), some (.d B), some (.d C), some (.d (iT rest)), some (.r (t.length + 1)), a, b, c] (src :: (t ++ [.lst (acc.map D.int)])) = .ok .nx [some (.r 0), some (.d (.lv (ws.map iT))), some (.d A), some (.d B), some (.d C), some (.d (iT rest')), some (.r (t.length + 1)), a', b', c'] (src' :: (t ++ [.lst (acc'.map D.int)]))
  | 0, i, q, src, rest, acc, hs, _, _, _, hr, ha, a, b, c, _, _ => ⟨rest, acc, hr, ha, Nat.le_refl _, Nat.le_refl _, a, b, c, src, hs, by simp [rng_nil, forL]⟩
  | k + 1, i, q, src, rest, acc, hs, hq, hz, hrl, hr, ha, a, b, c, hb, hc => by
    have z := sizeLine_eq
    have hz' : acc.length < sizeLine := by omega
    by_cases h0 : rest = []
    · subst h0
      refine ⟨[], acc, fun x hx => (by cases hx), ha, by omega, Nat.le_refl _, some (.d (.int (i : Int))), b, c, src, hs.up (by omega), ?_⟩
      rw [rng_cons]
      simp only [iT, List.map_nil]
      simp [forL, hb, hc]
    have gw : ∀ j : Nat, j < ws.length → L2.atI (ws.map iT) (j : Int) = some (iT (ws.getD j [])) := fun j hj => by
      rw [atI_nat, List.getElem?_map, List.getElem?_eq_getElem hj, List.getD_eq_getElem?_getD, List.getElem?_eq_getElem hj]; rfl
    have key := fun (hh : Hs) => cmpL_map (vs := [9]) (g := gNm 9) (t := tBl (eBin oEq (eSl (eVar 5) oNone (oSome (eN nLen (aCons (eBin oIx (eVar 1) (eVar 9)) aNil)))) (eBin oIx (eVar 1) (eVar 9)))) (f := eVar 9) (σ := [some (.r 0), some (.d (.lv (ws.map iT))), some (.d A), some (.d B), some (.d C), some (.d (iT rest)), some (.r (t.length + 1)), some (.d (.int (i : Int))), b, c]) (h := hh) (ds := rngD 0 ws.length) (keep := fitJ ws rest) (k := fun d => d) (by rw [rngD_len]; omega) (fun d h' hd => by
      rw [rngD_ints] at hd
      obtain ⟨j, hj, rfl⟩ := List.mem_map.mp hd
      obtain ⟨j0, j1⟩ := rg_mem hj
      have g := gw j.toNat (by omega)
      rw [show ((j.toNat : Nat) : Int) = j by omega] at g
      have fe : fitJ ws rest (.int j) = decide (rest.take (ws.getD j.toNat []).length = ws.getD j.toNat []) := rfl
      rw [fe]
      generalize ws.getD j.toNat [] = w at *
      have ct := cut_to (rest.map D.int) w.length
      rw [← List.map_take] at ct
      have eq := fun h => o_eqT (rest.take w.length) w h
      generalize rest.take w.length = tw at *
      simp only [iT] at g eq ct ⊢
      exact ⟨[some (.r 0), some (.d (.lv (ws.map iT))), some (.d A), some (.d B), some (.d C), some (.d (.tup (rest.map D.int))), some (.r (t.length + 1)), some (.d (.int (i : Int))), b, some (.d (.int j))], by simp [wipeL], by simp [g, ct, eq], fun _ => by simp⟩)
    have e2 : ((rngD 0 ws.length).filter (fitJ ws rest)).map (fun d => d) = (rngD 0 ws.length).filter (fitJ ws rest) := List.map_id' _
    rw [e2] at key
    have hmem : ∀ d ∈ (rngD 0 ws.length).filter (fitJ ws rest), ∃ j : Nat, d = .int (j : Int) ∧ j < ws.length := fun d hd => by
      have h1 := (List.mem_filter.mp hd).1
      rw [rngD_ints] at h1
      obtain ⟨j, hj, rfl⟩ := List.mem_map.mp h1
      obtain ⟨j0, j1⟩ := rg_mem hj
      exact ⟨j.toNat, by rw [show ((j.toNat : Nat) : Int) = j by omega], by omega⟩
    have hfl : ((rngD 0 ws.length).filter (fitJ ws rest)).length < 1000000 := by
      refine Nat.lt_of_le_of_lt (List.length_filter_le _ _) ?_
      rw [rngD_len]; omega
    generalize (rngD 0 ws.length).filter (fitJ ws rest) = F at *
    have rr := fun h => rngR_nat (k := ws.length) (h := h) (by omega)
    have key1 := key (src :: (t ++ [.lst (acc.map D.int)]))
    simp only [List.length_cons, List.length_append, List.length_nil, List.append_assoc, List.cons_append, List.nil_append] at key1
    have hl0 : ¬ (rest.length : Int) = 0 := by
      have : 0 < rest.length := List.length_pos_iff.mpr h0
      omega
    have hdr := hd0 rest h0
    have hhd : 0 ≤ rest.headD (-1) ∧ rest.headD (-1) < (L : Int) := by
      cases rest with
      | nil => exact absurd rfl h0
      | cons x rest => exact hr x List.mem_cons_self
    have c1 := cut_from (rest.map D.int) 1
    rw [← List.map_drop] at c1
    change cutL (rest.map D.int) (some 1) none = _ at c1
    -- the plain turn: a letter is taken over
    have plain : ∀ (q' : Nat) (src1 : O) (b1 c1' : Option Vl), Src q' src1 → q' + 2 * k < 900000 → clr1 (t.length + 2) b1 = b1 → clr1 (t.length + 2) c1' = c1' → ∃ rest' acc' : List Int, (∀ x ∈ rest', 0 ≤ x ∧ x < (L : Int)) ∧ (∀ x ∈ acc', OkS (L : Int) (ws.length : Int) x) ∧ acc'.length ≤ acc.length + (k + 1) ∧ rest'.length ≤ rest.length ∧ ∃ a' b' c' src', Src (q' + 2 * k) src' ∧
        forL (gNm 7) (b__law_cut_row_1 (callF defs (n + 2))) (rngD ((i + 1 : Nat) : Int) k) [some (.r 0), some (.d (.lv (ws.map iT))), some (.d A), some (.d B), some (.d C), some (.d (iT (rest.drop 1))), some (.r (t.length + 1)), some (.d (.int (i : Int))), b1, c1'] (src1 :: (t ++ [.lst ((acc ++ [rest.headD (-1)]).map D.int)])) = .ok .nx [some (.r 0), some (.d (.lv (ws.map iT))), some (.d A), some (.d B), some (.d C), some (.d (iT rest')), some (.r (t.length + 1)), a', b', c'] (src' :: (t ++ [.lst (acc'.map D.int)])) := fun q' src1 b1 c1' hs1 hq1 hb1 hc1 => by
      obtain ⟨rest', acc', h1, h2, h3, h4, h5⟩ := l_cut n L ws hw hU A B C t k (i + 1) q' src1 (rest.drop 1) (acc ++ [rest.headD (-1)]) hs1 hq1 (by rw [List.length_append, List.length_singleton]; omega) (by rw [List.length_drop]; omega) (fun x hx => hr x (List.mem_of_mem_drop hx)) (fun x hx => by
        rcases List.mem_append.mp hx with hx | hx
        · exact ha x hx
        · obtain rfl := List.mem_singleton.mp hx
          exact ⟨hhd.2, by omega⟩) (some (.d (.int (i : Int)))) b1 c1' hb1 hc1
      rw [List.length_append, List.length_singleton] at h3
      rw [List.length_drop] at h4
      exact ⟨rest', acc', h1, h2, by omega, by omega, h5⟩
    by_cases hF : F = []
    · subst hF
      obtain ⟨rest', acc', h1, h2, h3, h4, a', b', c', src', s', e⟩ := plain q src (some (.d (.lv []))) c hs (by omega) rfl hc
      refine ⟨rest', acc', h1, h2, h3, h4, a', b', c', src', s'.up (by omega), ?_⟩
      rw [rng_cons]
      clear plain h4 hhd
      push_cast at e
      generalize rest.drop 1 = r1 at *
      generalize rest.headD (-1) = x1 at *
      simp only [List.map_append, List.map_cons, List.map_nil, iT] at e hdr key1 ⊢
      simp [forL, h0, hl0, rr, key1, lcEnd, hdr, hz', c1, hc, e]
    · have hFn : 0 < F.length := List.length_pos_iff.mpr hF
      have hFl : (0 : Int) < (F.length : Int) := by omega
      obtain ⟨v, hv, src1, s1, e1⟩ := e_take (n + 1) q (by omega) hs 2 (by omega) (by omega) (t ++ [.lst (acc.map D.int)])
      change callF defs (n + 2) 16 [.r 0, .d (.int 2)] _ = _ at e1
      by_cases hv0 : v = 0
      · subst hv0
        obtain ⟨x, hx, src2, s2, ep⟩ := e_pick n (q + 1) (by omega) s1 F hF hfl (t ++ [.lst (acc.map D.int)])
        obtain ⟨j, rfl, hj⟩ := hmem x hx
        have g := gw j hj
        obtain ⟨w1, w2, w3⟩ := hw (ws.getD j []) (by rw [List.getD_eq_getElem?_getD, List.getElem?_eq_getElem hj]; exact List.getElem_mem hj)
        generalize ws.getD j [] = w at *
        have cd := cut_from (rest.map D.int) w.length
        rw [← List.map_drop] at cd
        obtain ⟨rest', acc', h1, h2, h3, h4, a', b', c', src', s', e⟩ := l_cut n L ws hw hU A B C t k (i + 1) (q + 2) src2 (rest.drop w.length) (acc ++ [-1 - (j : Int)]) s2 (by omega) (by rw [List.length_append, List.length_singleton]; omega) (by rw [List.length_drop]; omega) (fun x hx => hr x (List.mem_of_mem_drop hx)) (fun x hx => by
          rcases List.mem_append.mp hx with hx | hx
          · exact ha x hx
          · obtain rfl := List.mem_singleton.mp hx
            exact ⟨by omega, by omega⟩) (some (.d (.int (i : Int)))) (some (.d (.lv F))) (some (.d (.int (j : Int)))) rfl rfl
        rw [List.length_append, List.length_singleton] at h3
        rw [List.length_drop] at h4
        refine ⟨rest', acc', h1, h2, by omega, by omega, a', b', c', src', s'.up (by omega), ?_⟩
        rw [rng_cons]
        clear plain
        push_cast at e
        generalize rest.drop w.length = r1 at *
        simp at e1
        simp only [List.map_append, List.map_cons, List.map_nil, iT] at e g cd key1 ⊢
        simp [forL, h0, hl0, rr, key1, lcEnd, hFl, hFn, e1, ep, g, cd, hz', hc, e]
      · obtain ⟨rest', acc', h1, h2, h3, h4, a', b', c', src', s', e⟩ := plain (q + 1) src1 (some (.d (.lv F))) c s1 (by omega) rfl hc
        refine ⟨rest', acc', h1, h2, h3, h4, a', b', c', src', s'.up (by omega), ?_⟩
        have hv' : ¬ (v : Int) = 0 := by omega
        rw [rng_cons]
        clear plain h4 hhd
        push_cast at e
        generalize rest.drop 1 = r1 at *
        generalize rest.headD (-1) = x1 at *
        simp only [List.map_append, List.map_cons, List.map_nil, iT] at e hdr key1 ⊢
        simp [forL, h0, hl0, rr, key1, lcEnd, hFl, hFn, e1, hv0, hv', hdr, hz', c1, hc, e]
end K03

namespace K03
open PySem PySem.Spec Mi
def RowOk (L U : Nat) (p : Row) : Prop := (∀ s ∈ p.1 ++ p.2, OkS (L : Int) (U : Int) s) ∧ p.1.length + p.2.length ≤ 1000
theorem fill_mem {L : Nat} {ws : List Wd} (hw : Tx L ws) : ∀ s : List Int, (∀ x ∈ s, x < (L : Int)) → ∀ x ∈ fill ws s, 0 ≤ x ∧ x < (L : Int)
  | [], _, x, hx => by cases hx
  | y :: s, hs, x, hx => by
    rw [fill] at hx
    rcases List.mem_append.mp hx with hx | hx
    · by_cases h0 : 0 ≤ y
      · rw [if_pos h0] at hx
        obtain rfl := List.mem_singleton.mp hx
        exact ⟨h0, hs x List.mem_cons_self⟩
      · rw [if_neg h0] at hx
        by_cases hk : (-1 - y).toNat < ws.length
        · exact (hw (ws.getD (-1 - y).toNat []) (by
            rw [List.getD_eq_getElem?_getD, List.getElem?_eq_getElem hk]
            exact List.getElem_mem hk)).2.2 x hx
        · rw [List.getD_eq_getElem?_getD, List.getElem?_eq_none (by omega)] at hx
          cases hx
    · exact fill_mem hw s (fun z hz => hs z (List.mem_cons_of_mem _ hz)) x hx
theorem e_cut_row (n L q : Nat) (hL : 0 < L ∧ L < 1000) (ws : List Wd) (hw : Tx L ws) (hU : 0 < ws.length ∧ ws.length < 1000) {src : O} (hs : Src q src) (hq : q + 5000 < 900000) (t : Hs) : ∃ p, RowOk L ws.length p ∧ ∃ src', Src (q + 200) src' ∧ callF defs (n + 3) 23 [.r 0, .d (.lv (ws.map iT)), .d (.int 4), .d (.int (L : Int))] (src :: t) = .ok (.d (rD p)) (src' :: t) := by
  rw [callF_at (md := ⟨4, 10, false, m__law_cut_row⟩) rfl rfl]
  have z := sizeLine_eq
  obtain ⟨s, ls, ps, src1, s1, e1⟩ := e_side n L ws.length hL hU 4 q (by omega) hs (by omega) t
  change callF defs (n + 2) 21 [.r 0, .d (.int (L : Int)), .d (.int (ws.length : Int)), .d (.int 4)] _ = _ at e1
  have fit : Fit ws.length ws := ⟨rfl, fun w h => ⟨(hw w h).1, (hw w h).2.1⟩⟩
  have fl := fill_len fit s
  have e2 := e_filled (n + 1) (.lv (ws.map iT)) ws (.l _) s (src1 :: t) (fun x hx _ => (ps x hx).2) (by omega)
  have fm := fill_mem hw s fun x hx => (ps x hx).1
  obtain ⟨rest, acc, h1, h2, h3, h4, a', b', c', src', s', e⟩ := l_cut n L ws hw hU (.int 4) (.int (L : Int)) (iT s) t 60 0 (q + 9) src1 (fill ws s) [] (s1.up (by omega)) (by omega) (by rw [List.length_nil]; omega) (by omega) fm (fun x hx => by cases hx) none none none rfl rfl
  rw [List.length_nil] at h3
  refine ⟨(s, acc ++ rest), ⟨fun x hx => ?_, ?_⟩, src', s'.up (by omega), ?_⟩
  · rcases List.mem_append.mp hx with hx | hx
    · exact ps x hx
    · rcases List.mem_append.mp hx with hx | hx
      · exact h2 x hx
      · obtain ⟨x0, x1⟩ := h1 x hx
        exact ⟨x1, by omega⟩
  · dsimp only
    rw [List.length_append]
    omega
  · change forL _ _ (rngD 0 _) _ _ = _ at e
    have rr : ∀ h, rngR [.d (.int 60)] h = .ok (rngD 0 60) h := fun h => rngR_int (i := 60) (h := h) (by omega) (by omega)
    have m12 : cMulW 12 4 = true := cm (by decide) (by decide)
    have hz : acc.length + rest.length ≤ sizeLine := by omega
    generalize fill ws s = fs at *
    simp only [List.map_nil, iT, rD, List.map_append] at e e1 e2 ⊢
    have tp : ∀ X : List D, nTuple [.r (t.length + 1)] (src' :: (t ++ [.lst X])) = some (.d (.tup X), src' :: (t ++ [.lst X])) := fun X => n_tupR (by simp)
    simp [startL, e1, e2, m12, rr, e, tp, hz]
theorem l_dr (n L : Nat) (hL : 0 < L ∧ L < 1000) (ws : List Wd) (hw : Tx L ws) (hU : 0 < ws.length ∧ ws.length < 1000) (way : Nat) (t : Hs) : ∀ (k i q : Nat) (src : O) (acc : List Row), Src q src → q + 300 * k < 800000 → acc.length + k < 1000 → ∀ a b c d e, clr1 (t.length + 2) b = b → clr1 (t.length + 2) c = c → clr1 (t.length + 2) d = d → clr1 (t.length + 2) e = e → ∃ rs : List Row, rs.length = k ∧ (∀ p ∈ rs, RowOk L ws.length p) ∧ ∃ a' b' c' d' e' src', Src (q + 300 * k) src' ∧
    forL (gNm 6) (b__law_draw_rows_1 (callF defs (n + 3))) (rngD (i : Int) k) [some (.r 0), some (.d (.int (L : Int))), some (.d (.int (ws.length : Int))), some (.d (.lv (ws.map iT))), some (.d (.int (way : Int))), some (.r (t.length + 1)), a, b, c, d, e] (src :: (t ++ [.lst (acc.map rD)])) = .ok .nx [some (.r 0), some (.d (.int (L : Int))), some (.d (.int (ws.length : Int))), some (.d (.lv (ws.map iT))), some (.d (.int (way : Int))), some (.r (t.length + 1)), a', b', c', d', e'] (src' :: (t ++ [.lst ((acc ++ rs).map rD)]))
  | 0, i, q, src, acc, hs, _, _, a, b, c, d, e, _, _, _, _ => ⟨[], rfl, fun x hx => (by cases hx), a, b, c, d, e, src, hs, by simp [rng_nil, forL]⟩
  | k + 1, i, q, src, acc, hs, hq, hz, a, b, c, d, e, hb, hc, hd, he => by
    have z := sizeLine_eq
    have hz' : acc.length < sizeLine := by omega
    by_cases h0 : way = 0
    · subst h0
      obtain ⟨p, op, src1, s1, e1⟩ := e_cut_row n L q hL ws hw hU hs (by omega) (t ++ [.lst (acc.map rD)])
      obtain ⟨rs, lr, pr, a', b', c', d', e', src', s', ih⟩ := l_dr n L hL ws hw hU 0 t k (i + 1) (q + 300) src1 (acc ++ [p]) (s1.up (by omega)) (by omega) (by rw [List.length_append, List.length_singleton]; omega) (some (.d (.int (i : Int)))) b c d e hb hc hd he
      refine ⟨p :: rs, by rw [List.length_cons, lr], fun x hx => ?_, a', b', c', d', e', src', s'.up (by omega), ?_⟩
      · rcases List.mem_cons.mp hx with rfl | hx
        · exact op
        · exact pr x hx
      · rw [rng_cons]
        push_cast at ih
        simp only [List.map_append, List.map_cons, List.map_nil, List.append_assoc, List.cons_append, List.nil_append] at ih
        simp [forL, e1, hz', hb, hc, hd, he, ih]
    · have h0' : ¬ (way : Int) = 0 := by omega
      obtain ⟨l, ll, pl, src1, s1, e1⟩ := e_side (n + 1) L ws.length hL hU 3 q (by omega) hs (by omega) (t ++ [.lst (acc.map rD)])
      obtain ⟨r, lr, pr, src2, s2, e2⟩ := e_side (n + 1) L ws.length hL hU 3 (q + 7) (by omega) (s1.up (by omega)) (by omega) (t ++ [.lst (acc.map rD)])
      change callF defs (n + 3) 21 [.r 0, .d (.int (L : Int)), .d (.int (ws.length : Int)), .d (.int 3)] _ = _ at e1 e2
      -- front and back
      have fb : ∃ f g : List Int, f.length ≤ 2 ∧ g.length ≤ 1 ∧ (∀ x ∈ f, OkS (L : Int) (ws.length : Int) x) ∧ (∀ x ∈ g, OkS (L : Int) (ws.length : Int) x) ∧ ∃ src3 src4, Src (q + 30) src4 ∧
          (∀ σ : Lo, σ[0]? = some (some (.r 0)) → σ[1]? = some (some (.d (.int (L : Int)))) → σ[2]? = some (some (.d (.int (ws.length : Int)))) → σ[4]? = some (some (.d (.int (way : Int)))) → eIf (tBl (eBin oEq (eVar 4) (eK (.int 1)))) (eCl (callF defs (n + 3)) 21 [] (aCons (eVar 0) (aCons (eVar 1) (aCons (eVar 2) (aCons (eK (.int 2)) aNil))))) (eTup aNil) σ (src2 :: (t ++ [.lst (acc.map rD)])) = .ok (.d (iT f)) (src3 :: (t ++ [.lst (acc.map rD)]))) ∧
          (∀ σ : Lo, σ[0]? = some (some (.r 0)) → σ[1]? = some (some (.d (.int (L : Int)))) → σ[2]? = some (some (.d (.int (ws.length : Int)))) → σ[4]? = some (some (.d (.int (way : Int)))) → eIf (tBl (eBin oEq (eVar 4) (eK (.int 1)))) (eCl (callF defs (n + 3)) 21 [] (aCons (eVar 0) (aCons (eVar 1) (aCons (eVar 2) (aCons (eK (.int 1)) aNil))))) (eTup aNil) σ (src3 :: (t ++ [.lst (acc.map rD)])) = .ok (.d (iT g)) (src4 :: (t ++ [.lst (acc.map rD)]))) := by
        by_cases h1 : way = 1
        · subst h1
          obtain ⟨f, lf, pf, src3, s3, e3⟩ := e_side (n + 1) L ws.length hL hU 2 (q + 14) (by omega) (s2.up (by omega)) (by omega) (t ++ [.lst (acc.map rD)])
          obtain ⟨g, lg, pg, src4, s4, e4⟩ := e_side (n + 1) L ws.length hL hU 1 (q + 19) (by omega) (s3.up (by omega)) (by omega) (t ++ [.lst (acc.map rD)])
          change callF defs (n + 3) 21 [.r 0, .d (.int (L : Int)), .d (.int (ws.length : Int)), .d (.int 2)] _ = _ at e3
          change callF defs (n + 3) 21 [.r 0, .d (.int (L : Int)), .d (.int (ws.length : Int)), .d (.int 1)] _ = _ at e4
          exact ⟨f, g, lf, lg, pf, pg, src3, src4, s4.up (by omega), fun σ x0 x1 x2 x4 => by simp [x0, x1, x2, x4, e3], fun σ x0 x1 x2 x4 => by simp [x0, x1, x2, x4, e4]⟩
        · have h1' : ¬ (way : Int) = 1 := by omega
          exact ⟨[], [], by simp, by simp, fun x hx => (by cases hx), fun x hx => (by cases hx), src2, src2, s2.up (by omega), fun σ x0 x1 x2 x4 => by simp [x4, h1, h1', iT], fun σ x0 x1 x2 x4 => by simp [x4, h1, h1', iT]⟩
      obtain ⟨f, g, lf, lg, pf, pg, src3, src4, s4, ef, eg⟩ := fb
      obtain ⟨rs, lrs, prs, a', b', c', d', e', src', s', ih⟩ := l_dr n L hL ws hw hU way t k (i + 1) (q + 300) src4 (acc ++ [(f ++ l ++ g, f ++ r ++ g)]) (s4.up (by omega)) (by omega) (by rw [List.length_append, List.length_singleton]; omega) (some (.d (.int (i : Int)))) (some (.d (iT l))) (some (.d (iT r))) (some (.d (iT f))) (some (.d (iT g))) rfl rfl rfl rfl
      refine ⟨(f ++ l ++ g, f ++ r ++ g) :: rs, by rw [List.length_cons, lrs], fun x hx => ?_, a', b', c', d', e', src', s'.up (by omega), ?_⟩
      · rcases List.mem_cons.mp hx with rfl | hx
        · refine ⟨fun s hs => ?_, by simp only [List.length_append]; omega⟩
          simp only [List.mem_append] at hs
          rcases hs with ((hs | hs) | hs) | ((hs | hs) | hs)
          · exact pf s hs
          · exact pl s hs
          · exact pg s hs
          · exact pf s hs
          · exact pr s hs
          · exact pg s hs
        · exact prs x hx
      · rw [rng_cons]
        push_cast at ih
        have z1 : f.length + l.length ≤ sizeLine := by omega
        have z2 : f.length + l.length + g.length ≤ sizeLine := by omega
        have z3 : f.length + r.length ≤ sizeLine := by omega
        have z4 : f.length + r.length + g.length ≤ sizeLine := by omega
        simp only [List.map_append, List.map_cons, List.map_nil, List.append_assoc, List.cons_append, List.nil_append, rD, iT] at ih e1 e2 ef eg
        simp [-ap_if, forL, e1, e2, h0, h0', ef, eg, z1, z2, z3, z4, hz', ih]
        simp [rD, iT]
end K03

namespace K03
open PySem PySem.Spec Mi
theorem e_draw_rows (n L q : Nat) (hL : 0 < L ∧ L < 1000) (ws : List Wd) (hw : Tx L ws) (hU : 0 < ws.length ∧ ws.length < 1000) {src : O} (hs : Src q src) (hq : q + 5000 < 800000) (t : Hs) : ∃ rs : List Row, rs.length ≤ 3 ∧ (∀ p ∈ rs, RowOk L ws.length p) ∧ ∃ src', Src (q + 1000) src' ∧ callF defs (n + 4) 33 [.r 0, .d (.int (L : Int)), .d (.int (ws.length : Int)), .d (.lv (ws.map iT))] (src :: t) = .ok (.d (.lv (rs.map rD))) (src' :: t) := by
  rw [callF_at (md := ⟨4, 11, false, m__law_draw_rows⟩) rfl rfl]
  obtain ⟨way, hway, src1, s1, e1⟩ := e_take (n + 2) q (by omega) hs 3 (by omega) (by omega) t
  obtain ⟨v, hv, src2, s2, e2⟩ := e_take (n + 2) (q + 1) (by omega) s1 3 (by omega) (by omega) (t ++ [.lst []])
  change callF defs (n + 3) 16 [.r 0, .d (.int 3)] _ = _ at e1 e2
  obtain ⟨rs, lr, pr, a', b', c', d', e', src', s', e⟩ := l_dr n L hL ws hw hU way t (1 + v) 0 (q + 2) src2 [] s2 (by omega) (by rw [List.length_nil]; omega) none none none none none rfl rfl rfl rfl
  refine ⟨rs, by omega, pr, src', s'.up (by omega), ?_⟩
  change forL _ _ (rngD 0 _) _ _ = _ at e
  have rr := fun h => rngR_nat (k := 1 + v) (h := h) (by omega)
  push_cast at rr
  rw [List.nil_append] at e
  simp only [List.map_nil] at e
  generalize ws.map iT = X at *
  simp [startL, e1, e2, rr, e]
  rw [fin_retR (xs := rs.map rD) (by simp)]
  simp
theorem txs_ne {L : Nat} : ∀ (k : Nat) (ly : List (List Int)), ∀ w ∈ txs L k ly, w ≠ []
  | 0, ly, w, hw => by cases hw
  | k + 1, ly, w, hw => by
    rw [txs] at hw
    rcases List.mem_append.mp hw with hw | hw
    · obtain ⟨t, _, c, _, rfl⟩ := nextL_mem hw
      simp
    · exact txs_ne k _ w hw
theorem pool_ok (L : Nat) : Tx L (txs L 2 [[]]) := fun w hw => by
  have h := txs_mem (L := L) 2 [[]] 0 (fun t ht => by
    obtain rfl := List.mem_singleton.mp ht
    exact ⟨fun x hx => (by cases hx), Nat.le_refl _⟩) w hw
  exact ⟨txs_ne 2 _ w hw, by omega, h.1⟩
theorem pool_ne (L : Nat) (hL : 0 < L) : (txs L 2 [[]]).map iT ≠ [] := by
  intro e
  have h1 := congrArg List.length e
  rw [List.length_map, txs, List.length_append, nextL_len] at h1
  simp only [List.length_singleton, List.length_nil] at h1
  omega
theorem ends_of : ∀ {S : Nat} {ys : List D}, (∀ y ∈ ys, ∃ p, y = eD p ∧ OkE S p) → ∃ w : List (Int × List Int), ys = w.map eD ∧ (∀ i ∈ w, OkE S i) ∧ w.length = ys.length
  | _, [], _ => ⟨[], rfl, fun i hi => (by cases hi), rfl⟩
  | S, y :: ys, h => by
    obtain ⟨i, rfl, pi⟩ := h y List.mem_cons_self
    obtain ⟨w, rfl, pw, lw⟩ := ends_of fun z hz => h z (List.mem_cons_of_mem _ hz)
    refine ⟨i :: w, rfl, fun j hj => ?_, by simp⟩
    rcases List.mem_cons.mp hj with rfl | hj
    · exact pi
    · exact pw j hj
theorem sm_hD (had : List Wd) : Sm 2 (hD had) := fun x hx => by
  obtain ⟨w, _, rfl⟩ := List.mem_map.mp hx
  exact sm_iT w
theorem sm_fil (l : List (List Wd)) : Sm 3 (.lv (l.map hD)) := fun x hx => by
  obtain ⟨w, _, rfl⟩ := List.mem_map.mp hx
  exact sm_hD w
theorem e_source (n : Nat) (ns : List Int) : callF defs (n + 1) 15 [.d (.scr (ns.map D.int))] [] = .ok (.r 0) [.lst [.lv (ns.map D.int), .int 0, .int 0, .int 1]] := by
  rw [callF_at (md := ⟨1, 1, true, m__law_source⟩) rfl rfl]
  simp [startL, fin, retV]
theorem sq_as {f : SemE} {g : SemG} {rest : SemS} {σ : Lo} {h : Hs} (x : Vl) (h1 : Hs) (σ2 : Lo) (h2 : Hs) (e : f σ h = .ok x h1) (eg : g x σ h1 = some (σ2, h2)) : sSq (sAs f g) rest σ h = rest σ2 h2 := by
  simp only [ap_sq, ap_as, e, sb_ok, eg, ss_nx]
theorem sq_if0 {t : SemT} {p rest : SemS} {σ : Lo} {h : Hs} (h1 : Hs) (e : t σ h = .ok false h1) : sSq (sIf t p sNil) rest σ h = rest σ h1 := by
  simp only [ap_sq, ap_sif, e, sb_ok, if_neg Bool.false_ne_true, ap_snil, ss_nx]
theorem sq_if1 {t : SemT} {f : SemE} {rest : SemS} {σ : Lo} {h : Hs} (x : Vl) (h1 h2 : Hs) (e : t σ h = .ok true h1) (e2 : f σ h1 = .ok x h2) : sSq (sIf t (sRt f) sNil) rest σ h = .ok (.ret x) σ h2 := by
  simp only [ap_sq, ap_sif, e, sb_ok, if_true, ap_rt, e2, ss_ret]
theorem rt_ok {f : SemE} {σ : Lo} {h : Hs} (x : Vl) (h1 : Hs) (e : f σ h = .ok x h1) : sRt f σ h = .ok (.ret x) σ h1 := by
  simp only [ap_rt, e, sb_ok]
theorem law_ok (ns : List Int) : ∃ h, callF defs fuel 35 [.d (.scr (ns.map D.int))] [] = .ok (.d (.bl true)) h := by
  have z := sizeLine_eq
  show ∃ h, callF defs (19 + 1) 35 [.d (.scr (ns.map D.int))] [] = .ok (.d (.bl true)) h
  have e0 := e_source 18 ns
  have s0 : Src 0 (.lst [.lv (ns.map D.int), .int 0, .int 0, .int 1]) := ⟨ns, 0, 0, 1, rfl, Nat.le_refl _, by omega⟩
  generalize O.lst [.lv (ns.map D.int), .int 0, .int 0, .int 1] = src0 at *
  obtain ⟨v1, hv1, src1, s1, e1⟩ := e_take 18 0 (by omega) s0 3 (by omega) (by omega) []
  obtain ⟨v2, hv2, src2, s2, e2⟩ := e_take 18 1 (by omega) s1 2 (by omega) (by omega) []
  obtain ⟨v3, hv3, src3, s3, e3⟩ := e_take 18 2 (by omega) s2 2 (by omega) (by omega) []
  change callF defs 19 16 [.r 0, .d (.int 3)] _ = _ at e1
  change callF defs 19 16 [.r 0, .d (.int 2)] _ = _ at e2 e3
  obtain ⟨S, hS⟩ : ∃ S, S = 1 + v1 := ⟨_, rfl⟩
  obtain ⟨L, hL⟩ : ∃ L, L = 1 + v2 := ⟨_, rfl⟩
  obtain ⟨U, hU⟩ : ∃ U, U = 1 + v3 := ⟨_, rfl⟩
  have hSi : (1 : Int) + (v1 : Int) = (S : Int) := by omega
  have hLi : (1 : Int) + (v2 : Int) = (L : Int) := by omega
  have hUi : (1 : Int) + (v3 : Int) = (U : Int) := by omega
  obtain ⟨ms, hms, src4, s4, e4⟩ := e_moves 17 3 (by omega) s3 S (by omega) (by omega) []
  obtain ⟨ds, lds, pds, src5, s5, e5⟩ := e_lots 17 S (by omega) (by omega) ms hms L 9 (by omega) s4 (by omega) []
  -- ends
  obtain ⟨ys, src6, y1, y2, s6, e6⟩ := cmpL_draw (vs := [16]) (g := gNm 16) (f := eCl (callF defs 19) 32 [] (aCons (eVar 1) (aCons (eVar 2) aNil))) (σ := [some (.d (.scr (ns.map D.int))), some (.r 0), some (.d (.int (S : Int))), some (.d (.int (L : Int))), some (.d (.int (U : Int))), some (.d (.tup (ms.map iT))), some (.d (.lv (ds.map iT))), none, none, none, none, none, none, none, none, none, none]) 10 100000 (fun y => ∃ p, y = eD p ∧ OkE S p) [] (rngD 0 U) (9 + 4 * L) src5 [] (fun d hd k src h' hk hs => by
    obtain ⟨p, op, src', s', e⟩ := e_end_states 17 S k ⟨by omega, by omega⟩ hs (by omega) h'
    exact ⟨[some (.d (.scr (ns.map D.int))), some (.r 0), some (.d (.int (S : Int))), some (.d (.int (L : Int))), some (.d (.int (U : Int))), some (.d (.tup (ms.map iT))), some (.d (.lv (ds.map iT))), none, none, none, none, none, none, none, none, none, some (.d d)], eD p, src', fun h => by simp [wipeL], ⟨p, rfl, op⟩, s'.up (by omega), by simp [e]⟩) s5 (by rw [rngD_len]; omega) (by rw [rngD_len, List.length_nil]; omega)
  rw [rngD_len] at y1 s6
  obtain ⟨es, rfl, pes, les⟩ := ends_of y2
  have e7 := fun h => e_texts 18 L 2 (by omega) (by omega) h
  change ∀ h, callF defs 19 26 [.d (.int (L : Int)), .d (.int 2)] h = _ at e7
  have po := pool_ok L
  have pn := pool_ne L (by omega)
  have pl : ((txs L 2 [[]]).map iT).length < 1000000 := by
    rw [List.length_map]
    exact Nat.lt_of_le_of_lt (txs_small (by omega) (by omega)) (by omega)
  obtain ⟨zs, src8, z1, z2, s8, e8⟩ := cmpL_draw (vs := [16]) (g := gNm 16) (f := eCl (callF defs 19) 17 [] (aCons (eVar 1) (aCons (eVar 8) aNil))) (σ := [some (.d (.scr (ns.map D.int))), some (.r 0), some (.d (.int (S : Int))), some (.d (.int (L : Int))), some (.d (.int (U : Int))), some (.d (.tup (ms.map iT))), some (.d (.lv (ds.map iT))), some (.d (.lv (es.map eD))), some (.d (.lv ((txs L 2 [[]]).map iT))), none, none, none, none, none, none, none, none]) 1 100000 (fun y => ∃ w, y = iT w ∧ (w ≠ [] ∧ w.length ≤ 3 ∧ ∀ x ∈ w, 0 ≤ x ∧ x < (L : Int))) [] (rngD 0 U) (9 + 4 * L + 10 * U) src6 [] (fun d hd k src h' hk hs => by
    obtain ⟨x, hx, src', s', e⟩ := e_pick 17 k (by omega) hs _ pn pl h'
    obtain ⟨w, hw, rfl⟩ := List.mem_map.mp hx
    exact ⟨[some (.d (.scr (ns.map D.int))), some (.r 0), some (.d (.int (S : Int))), some (.d (.int (L : Int))), some (.d (.int (U : Int))), some (.d (.tup (ms.map iT))), some (.d (.lv (ds.map iT))), some (.d (.lv (es.map eD))), some (.d (.lv ((txs L 2 [[]]).map iT))), none, none, none, none, none, none, none, some (.d d)], iT w, src', fun h => by simp [wipeL], ⟨w, rfl, po w hw⟩, s', by simp [e]⟩) s6 (by rw [rngD_len]; omega) (by rw [rngD_len, List.length_nil]; omega)
  rw [rngD_len] at z1 s8
  obtain ⟨ws, rfl, pws, lws⟩ := tups_of z2
  rw [List.length_map] at y1 z1
  have esU : es.length = U := y1
  have wsU : ws.length = U := z1
  obtain ⟨rs, lrs, prs, src9, s9, e9⟩ := e_draw_rows 15 L (9 + 4 * L + 10 * U + U) ⟨by omega, by omega⟩ ws pws ⟨by omega, by omega⟩ (s8.up (by omega)) (by omega) []
  obtain ⟨b, hb⟩ : ∃ b : Bk, b = ⟨S, ds, es, rs⟩ := ⟨_, rfl⟩
  have ok : b.Ok := by
    subst hb
    have d1 : ds.length < sizeLine := by omega
    have d2 : es.length < sizeLine := by omega
    have d3 : rs.length < sizeLine := by omega
    have d0 : 1 ≤ S := by omega
    refine ⟨d0, pds, pes, fun x hx => ?_, d1, d2, d3⟩
    obtain ⟨h1, h2⟩ := prs x hx
    refine ⟨fun s hs => ?_, by omega⟩
    have := h1 s hs
    dsimp only
    rw [lds, show es.length = ws.length by omega]
    exact this
  have e10 := fun h => e_book 14 b h ok (A := .lv (rs.map rD)) (B := .lv (ds.map iT)) (C := .lv (es.map eD)) (by subst hb; exact .l _) (by subst hb; exact .l _) (by subst hb; exact .l _)
  have e11 := fun h => e_tidy 13 b h ok
  have e12 := fun h => e_same_tidy 12 b ok h
  obtain ⟨xs, lxs, pxs, src10, s10, e13⟩ := e_lots 17 S (by omega) (by omega) ms hms 1 (9 + 4 * L + 10 * U + U + 1000) (by omega) s9 (by omega) []
  obtain ⟨x, rfl⟩ : ∃ x, xs = [x] := by
    match xs, lxs with
    | [x], _ => exact ⟨x, rfl⟩
  have pm : ∀ y ∈ ds ++ [x], OkW S y := fun y hy => by
    rcases List.mem_append.mp hy with hy | hy
    · exact pds y hy
    · exact pxs y hy
  have lm : (ds ++ [x]).length ≤ 3 := by rw [List.length_append, List.length_singleton]; omega
  obtain ⟨k, hk⟩ : ∃ k : Nat, k = if U = 1 then 3 else 2 := ⟨_, rfl⟩
  have hk3 : k ≤ 3 := by
    rw [hk]; split <;> omega
  have lE : es.length ≤ 2 := by omega
  obtain ⟨cF, cz⟩ := cands_ok (S := S) (es := es) lm hk3 lE
  have sg : SgR es.length rs := fun p hp => by
    obtain ⟨h1, _⟩ := prs p hp
    rw [show es.length = ws.length by omega]
    exact ⟨fun y hy _ => (h1 y (List.mem_append.mpr (.inl hy))).2, fun y hy _ => (h1 y (List.mem_append.mpr (.inr hy))).2⟩
  have fb1 : ∀ had ∈ cands S (ds ++ [x]) k es, ∀ p ∈ rs, Fb had p := fun had hh p hp => fb_of (cF had hh) (sg p hp).1 (sg p hp).2 (Nat.le_trans (prs p hp).2 (by omega))
  have e14 := fun h => e_fillings 15 S k (.lv (rs.map rD)) (.lv ((ds ++ [x]).map iT)) (.lv (es.map eD)) (ds ++ [x]) es rs (.l _) (.l _) (.l _) pm pes (by omega) lm hk3 lE fb1 cz h
  change callF defs 19 31 [.r 0, .d (.tup (ms.map iT)), .d (.int 1)] _ = _ at e13
  change ∀ h, callF defs 19 28 _ h = _ at e14
  change ∀ h, mkI (callF defs 19) 8 2 _ h = _ at e10
  change ∀ h, callF defs 19 14 _ h = _ at e11
  change ∀ h, callF defs 19 34 _ h = _ at e12
  change callF defs 19 18 _ _ = _ at e4
  change callF defs 19 31 _ _ = _ at e5
  change callF defs 19 33 _ _ = _ at e9
  rw [wsU] at e9
  subst hb
  have e15f := fun (t : List Row) (fb2 : ∀ had ∈ cands S (ds ++ [x]) k es, ∀ p ∈ t, Fb had p) (h : Hs) => e_fillings 15 S k (.tup (t.map rD)) (.lv ((ds ++ [x]).map iT)) (.lv (es.map eD)) (ds ++ [x]) es t (.t _) (.l _) (.l _) pm pes (by omega) lm hk3 lE fb2 cz h
  change ∀ t _ h, callF defs 19 28 _ h = _ at e15f
  have mostE : ∀ (h : Hs) (σ : Lo), σ[4]? = some (some (.d (.int (U : Int)))) → eIf (tBl (eBin oEq (eVar 4) (eK (.int 1)))) (eK (.int 3)) (eK (.int 2)) σ h = .ok (.d (.int (k : Int))) h := fun h σ hσ => by
    by_cases h1 : U = 1
    · have : (U : Int) = 1 := by omega
      rw [if_pos h1] at hk
      subst hk
      simp [hσ, h1]
    · have : ¬ (U : Int) = 1 := by omega
      rw [if_neg h1] at hk
      subst hk
      simp [hσ, h1, this]
  have ib : ∀ h, insOf (.d (Bk.D ⟨S, ds, es, rs⟩)) h = some (2, [(1, .tup (ds.map iT)), (2, .tup (es.map eD)), (3, .tup (rs.map rD)), (4, .int (S : Int))]) := fun _ => rfl
  have ne1 := fun h => o_neR (h := h) (sm_rows rs) (by omega)
  have lmap : (ds ++ [x]).map iT = ds.map iT ++ [iT x] := by simp
  have za : (ds.map iT).length + 1 ≤ sizeLine := by rw [List.length_map]; omega
  have rr := fun h => rngR_nat (k := U) (h := h) (by omega)
  simp only [List.length_nil, Nat.zero_add, List.nil_append] at e6 e8
  have g0 : L2.atI [iT x] 0 = some (iT x) := rfl
  rw [lmap] at e14
  simp only [List.map_cons, List.map_nil] at e13
  change callF defs 19 15 _ _ = _ at e0
  rw [callF_at (md := ⟨1, 17, false, m_law⟩) rfl rfl]
  refine ⟨[], ?_⟩
  generalize callF defs 19 = call at *
  cases ht : tdy 0 rs with
  | inl y =>
    obtain ⟨w, kk⟩ := y
    have tb : Bk.tidy ⟨S, ds, es, rs⟩ = clD w (kk : Int) := by
      unfold Bk.tidy
      dsimp only
      rw [ht]
    have nil : ((cands S (ds ++ [x]) k es).filter fun had => holds had rs) = [] := by
      rw [List.filter_eq_nil_iff]
      intro had hh
      have := tdy_holds (cF had hh) rs 0 sg
      rw [ht] at this
      dsimp only at this
      rw [this]
      exact Bool.false_ne_true
    rw [nil, List.map_nil] at e14
    rw [tb] at e11 e12
    have tc : ∀ h, tyD (.d (clD w (kk : Int))) h = some (.c 3) := fun _ => rfl
    have ee := fun h => o_eqR (h := h) (sm_fil []) (by omega)
    rw [List.map_nil] at ee
    dsimp only at e10 e11 e12
    generalize Bk.D ⟨S, ds, es, rs⟩ = BD at *
    generalize clD w (kk : Int) = CD at *
    generalize (txs L 2 [[]]).map iT = PL at *
    generalize ms.map iT = MS at *
    generalize ds.map iT = DS at *
    generalize es.map eD = ES at *
    generalize ws.map iT = WS at *
    generalize rs.map rD = RS at *
    show fin false 0 (m_law call [some (.d (.scr (ns.map D.int))), none, none, none, none, none, none, none, none, none, none, none, none, none, none, none, none] []) = _
    unfold m_law
    rw [sq_as (.r 0) [src0] [some (.d (.scr (ns.map D.int))), some (.r 0), none, none, none, none, none, none, none, none, none, none, none, none, none, none, none] [src0] (by simp [e0]) (by simp)]
    rw [sq_as (.d (.int (S : Int))) [src1] [some (.d (.scr (ns.map D.int))), some (.r 0), some (.d (.int (S : Int))), none, none, none, none, none, none, none, none, none, none, none, none, none, none] [src1] (by simp [e1, hSi]) (by simp)]
    rw [sq_as (.d (.int (L : Int))) [src2] [some (.d (.scr (ns.map D.int))), some (.r 0), some (.d (.int (S : Int))), some (.d (.int (L : Int))), none, none, none, none, none, none, none, none, none, none, none, none, none] [src2] (by simp [e2, hLi]) (by simp)]
    rw [sq_as (.d (.int (U : Int))) [src3] [some (.d (.scr (ns.map D.int))), some (.r 0), some (.d (.int (S : Int))), some (.d (.int (L : Int))), some (.d (.int (U : Int))), none, none, none, none, none, none, none, none, none, none, none, none] [src3] (by simp [e3, hUi]) (by simp)]
    rw [sq_as (.d (.tup MS)) [src4] [some (.d (.scr (ns.map D.int))), some (.r 0), some (.d (.int (S : Int))), some (.d (.int (L : Int))), some (.d (.int (U : Int))), some (.d (.tup MS)), none, none, none, none, none, none, none, none, none, none, none] [src4] (by simp [e4]) (by simp)]
    rw [sq_as (.d (.lv DS)) [src5] [some (.d (.scr (ns.map D.int))), some (.r 0), some (.d (.int (S : Int))), some (.d (.int (L : Int))), some (.d (.int (U : Int))), some (.d (.tup MS)), some (.d (.lv DS)), none, none, none, none, none, none, none, none, none, none] [src5] (by simp [e5]) (by simp)]
    rw [sq_as (.d (.lv ES)) [src6] [some (.d (.scr (ns.map D.int))), some (.r 0), some (.d (.int (S : Int))), some (.d (.int (L : Int))), some (.d (.int (U : Int))), some (.d (.tup MS)), some (.d (.lv DS)), some (.d (.lv ES)), none, none, none, none, none, none, none, none, none] [src6] (by simp [rr, e6, lcEnd]) (by simp)]
    rw [sq_as (.d (.lv PL)) [src6] [some (.d (.scr (ns.map D.int))), some (.r 0), some (.d (.int (S : Int))), some (.d (.int (L : Int))), some (.d (.int (U : Int))), some (.d (.tup MS)), some (.d (.lv DS)), some (.d (.lv ES)), some (.d (.lv PL)), none, none, none, none, none, none, none, none] [src6] (by simp [e7]) (by simp)]
    rw [sq_as (.d (.lv WS)) [src8] [some (.d (.scr (ns.map D.int))), some (.r 0), some (.d (.int (S : Int))), some (.d (.int (L : Int))), some (.d (.int (U : Int))), some (.d (.tup MS)), some (.d (.lv DS)), some (.d (.lv ES)), some (.d (.lv PL)), some (.d (.lv WS)), none, none, none, none, none, none, none] [src8] (by simp [rr, e8, lcEnd]) (by simp)]
    rw [sq_as (.d (.lv RS)) [src9] [some (.d (.scr (ns.map D.int))), some (.r 0), some (.d (.int (S : Int))), some (.d (.int (L : Int))), some (.d (.int (U : Int))), some (.d (.tup MS)), some (.d (.lv DS)), some (.d (.lv ES)), some (.d (.lv PL)), some (.d (.lv WS)), some (.d (.lv RS)), none, none, none, none, none, none] [src9] (by simp [e9]) (by simp)]
    rw [sq_as (.d BD) [src9] [some (.d (.scr (ns.map D.int))), some (.r 0), some (.d (.int (S : Int))), some (.d (.int (L : Int))), some (.d (.int (U : Int))), some (.d (.tup MS)), some (.d (.lv DS)), some (.d (.lv ES)), some (.d (.lv PL)), some (.d (.lv WS)), some (.d (.lv RS)), some (.d BD), none, none, none, none, none] [src9] (by simp [e10]) (by simp)]
    rw [sq_as (.d CD) [src9] [some (.d (.scr (ns.map D.int))), some (.r 0), some (.d (.int (S : Int))), some (.d (.int (L : Int))), some (.d (.int (U : Int))), some (.d (.tup MS)), some (.d (.lv DS)), some (.d (.lv ES)), some (.d (.lv PL)), some (.d (.lv WS)), some (.d (.lv RS)), some (.d BD), some (.d CD), none, none, none, none] [src9] (by simp [e11]) (by simp)]
    rw [sq_if0 [src9] (by simp [e12, ib, ok_rows, List.lookup, ne1])]
    rw [sq_as (.d (.lv (DS ++ [iT x]))) [src10] [some (.d (.scr (ns.map D.int))), some (.r 0), some (.d (.int (S : Int))), some (.d (.int (L : Int))), some (.d (.int (U : Int))), some (.d (.tup MS)), some (.d (.lv DS)), some (.d (.lv ES)), some (.d (.lv PL)), some (.d (.lv WS)), some (.d (.lv RS)), some (.d BD), some (.d CD), some (.d (.lv (DS ++ [iT x]))), none, none, none] [src10] (by simp [e13, g0, za]) (by simp)]
    rw [sq_as (.d (.int (k : Int))) [src10] [some (.d (.scr (ns.map D.int))), some (.r 0), some (.d (.int (S : Int))), some (.d (.int (L : Int))), some (.d (.int (U : Int))), some (.d (.tup MS)), some (.d (.lv DS)), some (.d (.lv ES)), some (.d (.lv PL)), some (.d (.lv WS)), some (.d (.lv RS)), some (.d BD), some (.d CD), some (.d (.lv (DS ++ [iT x]))), some (.d (.int (k : Int))), none, none] [src10] (by exact mostE _ _ rfl) (by simp)]
    rw [sq_as (.d (.lv [])) [src10] [some (.d (.scr (ns.map D.int))), some (.r 0), some (.d (.int (S : Int))), some (.d (.int (L : Int))), some (.d (.int (U : Int))), some (.d (.tup MS)), some (.d (.lv DS)), some (.d (.lv ES)), some (.d (.lv PL)), some (.d (.lv WS)), some (.d (.lv RS)), some (.d BD), some (.d CD), some (.d (.lv (DS ++ [iT x]))), some (.d (.int (k : Int))), some (.d (.lv [])), none] [src10] (by simp [e14]) (by simp)]
    rw [sq_if1 (.d (.bl true)) [src10] [src10] (by simp [tc, isi_Clash, lookT]) (by simp [ee])]
    rfl
  | inr t =>
    have tb : Bk.tidy ⟨S, ds, es, rs⟩ = Bk.D ⟨S, ds, es, t⟩ := by
      unfold Bk.tidy
      dsimp only
      rw [ht]
    have fb2 : ∀ had ∈ cands S (ds ++ [x]) k es, ∀ p ∈ t, Fb had p := fun had hh p hp => by
      obtain ⟨p', hp', rfl, _⟩ := (tdy_mem _ _ _ ht).2 p hp
      have l2 := (prs p' hp').2
      have l3 := sB_len p'.1 p'.2
      exact fb_of (cF had hh) (fun y hy => (sg p' hp').1 y ((sB_mem p'.1 p'.2).1 y hy)) (fun y hy => (sg p' hp').2 y ((sB_mem p'.1 p'.2).2 y hy)) (by omega)
    have same : ((cands S (ds ++ [x]) k es).filter fun had => holds had t) = (cands S (ds ++ [x]) k es).filter fun had => holds had rs := by
      apply List.filter_congr
      intro had hh
      have := tdy_holds (cF had hh) rs 0 sg
      rw [ht] at this
      exact this
    have e15 := e15f t fb2
    rw [same, lmap] at e15
    rw [tb] at e11 e12
    have tc : ∀ h, tyD (.d (Bk.D ⟨S, ds, es, t⟩)) h = some (.c 2) := fun _ => rfl
    have ib2 : ∀ h, insOf (.d (Bk.D ⟨S, ds, es, t⟩)) h = some (2, [(1, .tup (ds.map iT)), (2, .tup (es.map eD)), (3, .tup (t.map rD)), (4, .int (S : Int))]) := fun _ => rfl
    have ee := fun h => o_eqR (h := h) (sm_fil ((cands S (ds ++ [x]) k es).filter fun had => holds had rs)) (by omega)
    dsimp only at e10 e11 e12
    generalize ((cands S (ds ++ [x]) k es).filter fun had => holds had rs).map hD = ZZ at *
    generalize Bk.D ⟨S, ds, es, rs⟩ = BD at *
    generalize Bk.D ⟨S, ds, es, t⟩ = CD at *
    generalize (txs L 2 [[]]).map iT = PL at *
    generalize ms.map iT = MS at *
    generalize ds.map iT = DS at *
    generalize es.map eD = ES at *
    generalize ws.map iT = WS at *
    generalize rs.map rD = RS at *
    generalize t.map rD = TS at *
    show fin false 0 (m_law call [some (.d (.scr (ns.map D.int))), none, none, none, none, none, none, none, none, none, none, none, none, none, none, none, none] []) = _
    unfold m_law
    rw [sq_as (.r 0) [src0] [some (.d (.scr (ns.map D.int))), some (.r 0), none, none, none, none, none, none, none, none, none, none, none, none, none, none, none] [src0] (by simp [e0]) (by simp)]
    rw [sq_as (.d (.int (S : Int))) [src1] [some (.d (.scr (ns.map D.int))), some (.r 0), some (.d (.int (S : Int))), none, none, none, none, none, none, none, none, none, none, none, none, none, none] [src1] (by simp [e1, hSi]) (by simp)]
    rw [sq_as (.d (.int (L : Int))) [src2] [some (.d (.scr (ns.map D.int))), some (.r 0), some (.d (.int (S : Int))), some (.d (.int (L : Int))), none, none, none, none, none, none, none, none, none, none, none, none, none] [src2] (by simp [e2, hLi]) (by simp)]
    rw [sq_as (.d (.int (U : Int))) [src3] [some (.d (.scr (ns.map D.int))), some (.r 0), some (.d (.int (S : Int))), some (.d (.int (L : Int))), some (.d (.int (U : Int))), none, none, none, none, none, none, none, none, none, none, none, none] [src3] (by simp [e3, hUi]) (by simp)]
    rw [sq_as (.d (.tup MS)) [src4] [some (.d (.scr (ns.map D.int))), some (.r 0), some (.d (.int (S : Int))), some (.d (.int (L : Int))), some (.d (.int (U : Int))), some (.d (.tup MS)), none, none, none, none, none, none, none, none, none, none, none] [src4] (by simp [e4]) (by simp)]
    rw [sq_as (.d (.lv DS)) [src5] [some (.d (.scr (ns.map D.int))), some (.r 0), some (.d (.int (S : Int))), some (.d (.int (L : Int))), some (.d (.int (U : Int))), some (.d (.tup MS)), some (.d (.lv DS)), none, none, none, none, none, none, none, none, none, none] [src5] (by simp [e5]) (by simp)]
    rw [sq_as (.d (.lv ES)) [src6] [some (.d (.scr (ns.map D.int))), some (.r 0), some (.d (.int (S : Int))), some (.d (.int (L : Int))), some (.d (.int (U : Int))), some (.d (.tup MS)), some (.d (.lv DS)), some (.d (.lv ES)), none, none, none, none, none, none, none, none, none] [src6] (by simp [rr, e6, lcEnd]) (by simp)]
    rw [sq_as (.d (.lv PL)) [src6] [some (.d (.scr (ns.map D.int))), some (.r 0), some (.d (.int (S : Int))), some (.d (.int (L : Int))), some (.d (.int (U : Int))), some (.d (.tup MS)), some (.d (.lv DS)), some (.d (.lv ES)), some (.d (.lv PL)), none, none, none, none, none, none, none, none] [src6] (by simp [e7]) (by simp)]
    rw [sq_as (.d (.lv WS)) [src8] [some (.d (.scr (ns.map D.int))), some (.r 0), some (.d (.int (S : Int))), some (.d (.int (L : Int))), some (.d (.int (U : Int))), some (.d (.tup MS)), some (.d (.lv DS)), some (.d (.lv ES)), some (.d (.lv PL)), some (.d (.lv WS)), none, none, none, none, none, none, none] [src8] (by simp [rr, e8, lcEnd]) (by simp)]
    rw [sq_as (.d (.lv RS)) [src9] [some (.d (.scr (ns.map D.int))), some (.r 0), some (.d (.int (S : Int))), some (.d (.int (L : Int))), some (.d (.int (U : Int))), some (.d (.tup MS)), some (.d (.lv DS)), some (.d (.lv ES)), some (.d (.lv PL)), some (.d (.lv WS)), some (.d (.lv RS)), none, none, none, none, none, none] [src9] (by simp [e9]) (by simp)]
    rw [sq_as (.d BD) [src9] [some (.d (.scr (ns.map D.int))), some (.r 0), some (.d (.int (S : Int))), some (.d (.int (L : Int))), some (.d (.int (U : Int))), some (.d (.tup MS)), some (.d (.lv DS)), some (.d (.lv ES)), some (.d (.lv PL)), some (.d (.lv WS)), some (.d (.lv RS)), some (.d BD), none, none, none, none, none] [src9] (by simp [e10]) (by simp)]
    rw [sq_as (.d CD) [src9] [some (.d (.scr (ns.map D.int))), some (.r 0), some (.d (.int (S : Int))), some (.d (.int (L : Int))), some (.d (.int (U : Int))), some (.d (.tup MS)), some (.d (.lv DS)), some (.d (.lv ES)), some (.d (.lv PL)), some (.d (.lv WS)), some (.d (.lv RS)), some (.d BD), some (.d CD), none, none, none, none] [src9] (by simp [e11]) (by simp)]
    rw [sq_if0 [src9] (by simp [e12, ib, ok_rows, List.lookup, ne1])]
    rw [sq_as (.d (.lv (DS ++ [iT x]))) [src10] [some (.d (.scr (ns.map D.int))), some (.r 0), some (.d (.int (S : Int))), some (.d (.int (L : Int))), some (.d (.int (U : Int))), some (.d (.tup MS)), some (.d (.lv DS)), some (.d (.lv ES)), some (.d (.lv PL)), some (.d (.lv WS)), some (.d (.lv RS)), some (.d BD), some (.d CD), some (.d (.lv (DS ++ [iT x]))), none, none, none] [src10] (by simp [e13, g0, za]) (by simp)]
    rw [sq_as (.d (.int (k : Int))) [src10] [some (.d (.scr (ns.map D.int))), some (.r 0), some (.d (.int (S : Int))), some (.d (.int (L : Int))), some (.d (.int (U : Int))), some (.d (.tup MS)), some (.d (.lv DS)), some (.d (.lv ES)), some (.d (.lv PL)), some (.d (.lv WS)), some (.d (.lv RS)), some (.d BD), some (.d CD), some (.d (.lv (DS ++ [iT x]))), some (.d (.int (k : Int))), none, none] [src10] (by exact mostE _ _ rfl) (by simp)]
    rw [sq_as (.d (.lv ZZ)) [src10] [some (.d (.scr (ns.map D.int))), some (.r 0), some (.d (.int (S : Int))), some (.d (.int (L : Int))), some (.d (.int (U : Int))), some (.d (.tup MS)), some (.d (.lv DS)), some (.d (.lv ES)), some (.d (.lv PL)), some (.d (.lv WS)), some (.d (.lv RS)), some (.d BD), some (.d CD), some (.d (.lv (DS ++ [iT x]))), some (.d (.int (k : Int))), some (.d (.lv ZZ)), none] [src10] (by simp [e14]) (by simp)]
    rw [sq_if0 [src10] (by simp [tc, isi_Clash, lookT])]
    rw [rt_ok (.d (.bl true)) [src10] (by simp [ib2, ok_rows, List.lookup, e15, ee])]
    rfl
end K03

theorem PySem.Challenge.cw_pressedwords_k03_whole_tidy_keeps_all_fi_holds : PySem.Challenge.rw_pressedwords_k03_whole_tidy_keeps_all_fi.Holds := by
  exact K03.close fun ns _ => K03.law_ok ns
