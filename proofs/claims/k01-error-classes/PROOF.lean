import PyProof.Rows.All
import Wide.All
import OpenK.AllK
import Wide.FinOn
import HandS.ForMost
import HandS.ForExc
import HandS.Evl
import KE.DataEq
import KE.DataIsa
import KE.DataAny
import KE.DatumIndex
import HandS.Flow
import HandS.Wide
import HandS.TupAny
import HandS.Style
import HandS.Star
import HandS.IsInst
import HandS.CallSlots
import HandS.ExcField
import HandS.TryMany
import PyProof.ReprRoads
import KE.GoesNew
import HandS.NoneIn
import KE.KExcSuper
import KE.KExcInit
import HandS.ExcSuper
import HandS.ExcInit
import HandS.ExcValue
import KE.KExcIs
import HandS.More
import KE.KOpsOwn
import HandS.Ends
import HandS.Words
import HandS.Codes
import KE.KExcLine
import KE.RegKIsAll
import PySem.Challenge.RW_takendown_k01_error_classes
set_option Elab.async false
set_option linter.all false
set_option maxRecDepth 100000
set_option maxHeartbeats 2000000
/-! TD, part A: Python data as trees, live objects, how both stand in the abstract heap. -/
namespace TD
open PySem L2
/-- data: never changed any more -/
inductive D where
  | non | bl (b : Bool) | int (i : Int) | str (x : Str)
  | tup (xs : List D) | lst (xs : List D) | dic (kvs : List (D × D)) | obj (c : Nat) (fs : List (Str × D))
  /-- an exception that was made, not raised -/
  | exc (c : Nat) (fs : List (Str × D))
/-- a value: data, or a live object by its number -/
inductive Vl where
  | d (x : D) | loc (n : Nat)
/-- a live object -/
inductive MO where
  | lst (xs : List D) | dic (kvs : List (D × D)) | ins (c : Nat) (fs : List (Str × Vl)) | frz (x : D) | scr (xs : List D)
abbrev Mem := List MO
/-- an exception: its class, its fields -/
structure Xc where
  cls : Nat
  fs : List (Str × D)
inductive Res (α : Type) where
  | ok (a : α) | ex (x : Xc)
abbrev EM (α : Type) := Mem → Option (Res α × Mem)
def EM.pure {α : Type} (a : α) : EM α := fun M => some (.ok a, M)
def EM.bind {α β : Type} (m : EM α) (k : α → EM β) : EM β := fun M =>
  match m M with
  | none => none
  | some (.ok a, M1) => k a M1
  | some (.ex x, M1) => some (.ex x, M1)
instance : Monad EM where
  pure := EM.pure
  bind := EM.bind
def EM.fail {α : Type} : EM α := fun _ => none
def EM.ofO {α : Type} (o : Option α) : EM α := fun M => o.map fun a => (.ok a, M)

/-- what is known of the text: its written part, where the classes stand -/
structure GG where
  K : PySem.W.Frag
  cl : Nat → Addr
  fa : Nat → Addr
def keyD : Key → D
  | .inl i => .int i
  | .inr x => .str x
/-- an exception's object, its dict at dd -/
def excH (a C dd : Addr) : HO := .ext fun h => ∃ t1 : Addr, h.get? a = some { cls := .ref C, dict := some dd, data := .fields #[.ref t1, .none, .none, .none, .bool false, .none] }
mutual
inductive Rep (G : GG) (F : Hp) : V → D → Prop
  | non : Rep G F .non .non
  | bl (b : Bool) : Rep G F (.bl b) (.bl b)
  | int (i : Int) : Rep G F (.int i) (.int i)
  | str (x : Str) : Rep G F (.str x) (.str x)
  | tup {a : Addr} {vs : List V} {xs : List D} : SqT G.K F a vs → Reps G F vs xs → Rep G F (.ref a) (.tup xs)
  | lst {a : Addr} {vs : List V} {xs : List D} : F a = some (.lst vs) → Reps G F vs xs → Rep G F (.ref a) (.lst xs)
  | obj {a dx : Addr} {c : Nat} {fs' : List (Str × V)} {fs : List (Str × D)} : F a = some (.ins (G.cl c) dx fs') → RepF G F fs' fs → Rep G F (.ref a) (.obj c fs)
  | dic {a : Addr} {ks : List (Key × V)} {kvs : List (D × D)} : F a = some (.dK ks) → RepK G F ks kvs → Rep G F (.ref a) (.dic kvs)
  | exc {a dd : Addr} {c : Nat} {fs' : List (Str × V)} {fs : List (Str × D)} : F a = some (excH a (G.cl c) dd) → F dd = some (.xd fs') → RepF G F fs' fs → Rep G F (.ref a) (.exc c fs)
inductive Reps (G : GG) (F : Hp) : List V → List D → Prop
  | nil : Reps G F [] []
  | cons {v : V} {vs : List V} {d : D} {ds : List D} : Rep G F v d → Reps G F vs ds → Reps G F (v :: vs) (d :: ds)
inductive RepF (G : GG) (F : Hp) : List (Str × V) → List (Str × D) → Prop
  | nil : RepF G F [] []
  | cons {n : Str} {v : V} {vs : List (Str × V)} {d : D} {ds : List (Str × D)} : Rep G F v d → RepF G F vs ds → RepF G F ((n, v) :: vs) ((n, d) :: ds)
inductive RepK (G : GG) (F : Hp) : List (Key × V) → List (D × D) → Prop
  | nil : RepK G F [] []
  | cons {k : Key} {v : V} {vs : List (Key × V)} {d : D} {ds : List (D × D)} : Rep G F v d → RepK G F vs ds → RepK G F ((k, v) :: vs) ((keyD k, d) :: ds)
end
abbrev Ex := Evl.Ex
section
variable {G : GG} {F F' H : Hp}
mutual
theorem Rep.mono (e : Ex F F') : ∀ {v : V} {d : D}, Rep G F v d → Rep G F' v d
  | _, _, .non => .non
  | _, _, .bl b => .bl b
  | _, _, .int i => .int i
  | _, _, .str x => .str x
  | _, _, .tup h r => .tup (Evl.ex_t e h) (Reps.mono e r)
  | _, _, .lst h r => .lst (e _ _ h) (Reps.mono e r)
  | _, _, .obj h r => .obj (e _ _ h) (RepF.mono e r)
  | _, _, .dic h r => .dic (e _ _ h) (RepK.mono e r)
  | _, _, .exc h h2 r => .exc (e _ _ h) (e _ _ h2) (RepF.mono e r)
theorem Reps.mono (e : Ex F F') : ∀ {v : List V} {d : List D}, Reps G F v d → Reps G F' v d
  | _, _, .nil => .nil
  | _, _, .cons h r => .cons (Rep.mono e h) (Reps.mono e r)
theorem RepF.mono (e : Ex F F') : ∀ {v : List (Str × V)} {d : List (Str × D)}, RepF G F v d → RepF G F' v d
  | _, _, .nil => .nil
  | _, _, .cons h r => .cons (Rep.mono e h) (RepF.mono e r)
theorem RepK.mono (e : Ex F F') : ∀ {v : List (Key × V)} {d : List (D × D)}, RepK G F v d → RepK G F' v d
  | _, _, .nil => .nil
  | _, _, .cons h r => .cons (Rep.mono e h) (RepK.mono e r)
end
theorem Reps.length : ∀ {vs : List V} {ds : List D}, Reps G F vs ds → vs.length = ds.length
  | _, _, .nil => rfl
  | _, _, .cons _ r => congrArg (· + 1) r.length
theorem Reps.append : ∀ {vs ws : List V} {ds es : List D}, Reps G F vs ds → Reps G F ws es → Reps G F (vs ++ ws) (ds ++ es)
  | _, _, _, _, .nil, s => s
  | _, _, _, _, .cons h r, s => .cons h (Reps.append r s)
theorem Reps.get : ∀ {vs : List V} {ds : List D} {i : Nat} {d : D}, Reps G F vs ds → ds[i]? = some d → ∃ v, vs[i]? = some v ∧ Rep G F v d
  | _, _, _, _, .nil, e => by simp at e
  | _, _, 0, _, .cons h _, e => by simp at e; subst e; exact ⟨_, rfl, h⟩
  | _, _, i + 1, d, .cons _ t, e => by
    obtain ⟨u, h1, h2⟩ := Reps.get (i := i) (d := d) t (by simpa using e)
    exact ⟨u, by simpa using h1, h2⟩
theorem Reps.getV : ∀ {vs : List V} {ds : List D} {i : Nat} {v : V}, Reps G F vs ds → vs[i]? = some v → ∃ d, ds[i]? = some d ∧ Rep G F v d
  | _, _, _, _, .nil, e => by simp at e
  | _, _, 0, _, .cons h _, e => by simp at e; subst e; exact ⟨_, rfl, h⟩
  | _, _, i + 1, d, .cons _ t, e => by
    obtain ⟨u, h1, h2⟩ := Reps.getV (i := i) (v := d) t (by simpa using e)
    exact ⟨u, by simpa using h1, h2⟩
theorem Reps.take : ∀ {vs : List V} {ds : List D} (n : Nat), Reps G F vs ds → Reps G F (vs.take n) (ds.take n)
  | _, _, 0, _ => .nil
  | _, _, _ + 1, .nil => .nil
  | _, _, n + 1, .cons r t => .cons r (Reps.take n t)
theorem Reps.drop : ∀ {vs : List V} {ds : List D} (n : Nat), Reps G F vs ds → Reps G F (vs.drop n) (ds.drop n)
  | _, _, 0, r => r
  | _, _, _ + 1, .nil => .nil
  | _, _, n + 1, .cons _ t => Reps.drop n t
theorem Reps.set {v : V} {d : D} (h : Rep G F v d) : ∀ {vs : List V} {ds : List D} (n : Nat), Reps G F vs ds → Reps G F (vs.set n v) (ds.set n d)
  | _, _, _, .nil => .nil
  | _, _, 0, .cons _ t => .cons h t
  | _, _, n + 1, .cons r t => .cons r (Reps.set h n t)
theorem Reps.reverse : ∀ {vs : List V} {ds : List D}, Reps G F vs ds → Reps G F vs.reverse ds.reverse
  | _, _, .nil => .nil
  | _, _, .cons r t => by
    rw [List.reverse_cons, List.reverse_cons]
    exact Reps.append (Reps.reverse t) (.cons r .nil)
theorem RepF.lookup {n : Str} {d : D} : ∀ {vs : List (Str × V)} {ds : List (Str × D)}, RepF G F vs ds → ds.lookup n = some d → ∃ v, vs.lookup n = some v ∧ Rep G F v d
  | _, _, .nil, e => by simp at e
  | _, _, .cons (n := k) h r, e => by
    rw [List.lookup_cons] at e ⊢
    by_cases q : (n == k) = true
    · rw [q] at e ⊢
      cases e
      exact ⟨_, rfl, h⟩
    · rw [Bool.not_eq_true] at q
      rw [q] at e ⊢
      exact RepF.lookup r e
theorem RepF.lookup_none {n : Str} : ∀ {vs : List (Str × V)} {ds : List (Str × D)}, RepF G F vs ds → ds.lookup n = none → vs.lookup n = none
  | _, _, .nil, _ => rfl
  | _, _, .cons (n := k) h r, e => by
    rw [List.lookup_cons] at e ⊢
    by_cases q : (n == k) = true
    · rw [q] at e
      cases e
    · rw [Bool.not_eq_true] at q
      rw [q] at e ⊢
      exact RepF.lookup_none r e
theorem RepK.length : ∀ {vs : List (Key × V)} {ds : List (D × D)}, RepK G F vs ds → vs.length = ds.length
  | _, _, .nil => rfl
  | _, _, .cons _ r => congrArg (· + 1) r.length
theorem RepF.length : ∀ {vs : List (Str × V)} {ds : List (Str × D)}, RepF G F vs ds → vs.length = ds.length
  | _, _, .nil => rfl
  | _, _, .cons _ r => congrArg (· + 1) r.length
end

/-! ### values and live objects -/
def RepL (G : GG) (F : Hp) (as : List Addr) (x : V) : Vl → Prop
  | .d d => Rep G F x d
  | .loc n => ∃ a, as[n]? = some a ∧ x = .ref a
inductive RepLs (G : GG) (F : Hp) (as : List Addr) : List V → List Vl → Prop
  | nil : RepLs G F as [] []
  | cons {v : V} {vs : List V} {d : Vl} {ds : List Vl} : RepL G F as v d → RepLs G F as vs ds → RepLs G F as (v :: vs) (d :: ds)
inductive RepLF (G : GG) (F : Hp) (as : List Addr) : List (Str × V) → List (Str × Vl) → Prop
  | nil : RepLF G F as [] []
  | cons {n : Str} {v : V} {vs : List (Str × V)} {d : Vl} {ds : List (Str × Vl)} : RepL G F as v d → RepLF G F as vs ds → RepLF G F as ((n, v) :: vs) ((n, d) :: ds)
def MoOk (G : GG) (F : Hp) (as : List Addr) (H : Hp) (a : Addr) : MO → Prop
  | .lst ds => F a = none ∧ ∃ vs, H a = some (.lst vs) ∧ Reps G F vs ds
  | .dic kvs => F a = none ∧ ∃ ks, H a = some (.dK ks) ∧ RepK G F ks kvs
  | .ins c fs => F a = none ∧ ∃ dx fs', H a = some (.ins (G.cl c) dx fs') ∧ RepLF G F as fs' fs
  | .frz d => (∃ o, F a = some o) ∧ Rep G F (.ref a) d
  | .scr ds => F a = none ∧ ∃ o vs, H a = some (.frz o (.lst vs)) ∧ Reps G F vs ds
structure Good (G : GG) (Z F : Hp) (as : List Addr) (M : Mem) (H : Hp) : Prop where
  sub : Ex F H
  len : as.length = M.length
  nd : as.Nodup
  ok : ∀ (n : Nat) (a : Addr) (mo : MO), as[n]? = some a → M[n]? = some mo → MoOk G F as H a mo
  zh : Ex Z H
  zf : ∀ a o, Z a = some o → F a = none
  za : ∀ a o, Z a = some o → a ∉ as
structure Up (F : Hp) (as : List Addr) (F' : Hp) (as' : List Addr) : Prop where
  ex : Ex F F'
  pre : as <+: as'
theorem Up.refl {F : Hp} {as : List Addr} : Up F as F as := ⟨Evl.Ex.refl _, List.prefix_refl _⟩
theorem Up.trans {F F1 F2 : Hp} {as as1 as2 : List Addr} (a : Up F as F1 as1) (b : Up F1 as1 F2 as2) : Up F as F2 as2 := ⟨a.ex.trans b.ex, a.pre.trans b.pre⟩
theorem pre_get {as as' : List Addr} (h : as <+: as') {n : Nat} {a : Addr} (e : as[n]? = some a) : as'[n]? = some a := by
  obtain ⟨t, rfl⟩ := h
  rw [List.getElem?_append_left (List.getElem?_eq_some_iff.mp e).1]
  exact e
section
variable {G : GG} {Z F F' H H' : Hp} {as as' : List Addr} {M : Mem} {x : V} {v : Vl}
theorem RepL.mono (u : Up F as F' as') : RepL G F as x v → RepL G F' as' x v := by
  cases v with
  | d d => exact fun h => Rep.mono u.ex h
  | loc n => exact fun ⟨a, e, q⟩ => ⟨a, pre_get u.pre e, q⟩
theorem RepLs.mono (u : Up F as F' as') : ∀ {vs : List V} {ds : List Vl}, RepLs G F as vs ds → RepLs G F' as' vs ds
  | _, _, .nil => .nil
  | _, _, .cons h r => .cons (h.mono u) (r.mono u)
theorem RepLF.mono (u : Up F as F' as') : ∀ {vs : List (Str × V)} {ds : List (Str × Vl)}, RepLF G F as vs ds → RepLF G F' as' vs ds
  | _, _, .nil => .nil
  | _, _, .cons h r => .cons (h.mono u) (r.mono u)
theorem RepLs.length : ∀ {vs : List V} {ds : List Vl}, RepLs G F as vs ds → vs.length = ds.length
  | _, _, .nil => rfl
  | _, _, .cons _ r => congrArg (· + 1) r.length
theorem Good.hlive (g : Good G Z F as M H) {n : Nat} {a : Addr} (e : as[n]? = some a) : ∃ o, H a = some o := by
  have hn : n < M.length := by
    rw [← g.len]
    exact (List.getElem?_eq_some_iff.mp e).1
  have := g.ok n a _ e (List.getElem?_eq_getElem hn)
  cases q : M[n] with
  | lst ds => rw [q] at this; obtain ⟨_, vs, h, _⟩ := this; exact ⟨_, h⟩
  | dic ds => rw [q] at this; obtain ⟨_, vs, h, _⟩ := this; exact ⟨_, h⟩
  | ins c ds => rw [q] at this; obtain ⟨_, _, vs, h, _⟩ := this; exact ⟨_, h⟩
  | frz ds => rw [q] at this; obtain ⟨⟨o, h⟩, _⟩ := this; exact ⟨o, g.sub _ _ h⟩
  | scr ds => rw [q] at this; obtain ⟨_, _, vs, h, _⟩ := this; exact ⟨_, h⟩
theorem Good.notIn (g : Good G Z F as M H) {p : Addr} (hp : H p = none) : p ∉ as := fun h => by
  obtain ⟨n, hn⟩ := List.getElem?_of_mem h
  obtain ⟨o, ho⟩ := g.hlive hn
  rw [hp] at ho
  cases ho
theorem Good.noF (g : Good G Z F as M H) {p : Addr} (hp : H p = none) : F p = none := by
  cases q : F p with
  | none => rfl
  | some o =>
    rw [g.sub _ _ q] at hp
    cases hp
/-- a new piece of data is laid -/
theorem Good.lay (g : Good G Z F as M H) {p : Addr} {o : HO} (hp : H p = none) : Good G Z (upd F p o) as M (upd H p o) ∧ Up F as (upd F p o) as := by
  have eF : Ex F (upd F p o) := Evl.Ex.new (g.noF hp)
  have zp : ∀ a u, Z a = some u → a ≠ p := fun a u h => ne_of_none (g.zh _ _ h) hp
  refine ⟨⟨fun a u h => ?_, g.len, g.nd, fun n a mo e1 e2 => ?_, g.zh.trans (Evl.Ex.new hp), fun a u h => by rw [upd_ne (zp a u h)]; exact g.zf a u h, g.za⟩, eF, List.prefix_refl _⟩
  · by_cases q : a = p
    · subst q
      rw [upd_same] at h ⊢
      exact h
    · rw [upd_ne q] at h ⊢
      exact g.sub _ _ h
  · obtain ⟨o1, h1⟩ := g.hlive e1
    have ne : a ≠ p := ne_of_none h1 hp
    have := g.ok n a mo e1 e2
    cases mo with
    | lst ds => obtain ⟨f, vs, h, r⟩ := this; exact ⟨by rw [upd_ne ne]; exact f, vs, by rw [upd_ne ne]; exact h, r.mono eF⟩
    | dic ds => obtain ⟨f, vs, h, r⟩ := this; exact ⟨by rw [upd_ne ne]; exact f, vs, by rw [upd_ne ne]; exact h, r.mono eF⟩
    | scr ds => obtain ⟨f, o9, vs, h, r⟩ := this; exact ⟨by rw [upd_ne ne]; exact f, o9, vs, by rw [upd_ne ne]; exact h, r.mono eF⟩
    | ins c ds => obtain ⟨f, dx, vs, h, r⟩ := this; exact ⟨by rw [upd_ne ne]; exact f, dx, vs, by rw [upd_ne ne]; exact h, r.mono ⟨eF, List.prefix_refl _⟩⟩
    | frz d => obtain ⟨⟨o2, f⟩, r⟩ := this; exact ⟨⟨o2, by rw [upd_ne ne]; exact f⟩, r.mono eF⟩
/-- what is tracked elsewhere may come -/
theorem Good.heap (g : Good G Z F as M H) (e : Ex H H') : Good G Z F as M H' := by
  refine ⟨g.sub.trans e, g.len, g.nd, fun n a mo e1 e2 => ?_, g.zh.trans e, g.zf, g.za⟩
  have := g.ok n a mo e1 e2
  cases mo with
  | lst ds => obtain ⟨f, vs, h, r⟩ := this; exact ⟨f, vs, e _ _ h, r⟩
  | dic ds => obtain ⟨f, vs, h, r⟩ := this; exact ⟨f, vs, e _ _ h, r⟩
  | scr ds => obtain ⟨f, o9, vs, h, r⟩ := this; exact ⟨f, o9, vs, e _ _ h, r⟩
  | ins c ds => obtain ⟨f, dx, vs, h, r⟩ := this; exact ⟨f, dx, vs, e _ _ h, r⟩
  | frz d => exact this
/-- a live object is laid -/
theorem Good.born (g : Good G Z F as M H) {p : Addr} {o : HO} {mo : MO} (hp : H p = none) (hm : ∀ as', as <+: as' → MoOk G F as' (upd H p o) p mo) :
    Good G Z F (as ++ [p]) (M ++ [mo]) (upd H p o) ∧ Up F as F (as ++ [p]) := by
  have pre : as <+: as ++ [p] := List.prefix_append _ _
  have zp : ∀ a u, Z a = some u → a ≠ p := fun a u h => ne_of_none (g.zh _ _ h) hp
  refine ⟨⟨g.sub.trans (Evl.Ex.new hp), by simp [g.len], ?_, fun n a m1 e1 e2 => ?_, g.zh.trans (Evl.Ex.new hp), g.zf, fun a u h hm => by
    rcases List.mem_append.mp hm with hm | hm
    · exact g.za a u h hm
    · exact zp a u h (List.mem_singleton.mp hm)⟩, Evl.Ex.refl _, pre⟩
  · rw [List.nodup_append]
    refine ⟨g.nd, by simp, fun x hx y hy => ?_⟩
    rw [List.mem_singleton] at hy
    subst hy
    intro e
    subst e
    exact g.notIn hp hx
  · by_cases hn : n < as.length
    · rw [List.getElem?_append_left hn] at e1
      rw [List.getElem?_append_left (by rw [← g.len]; exact hn)] at e2
      obtain ⟨o1, h1⟩ := g.hlive e1
      have ne : a ≠ p := ne_of_none h1 hp
      have := g.ok n a m1 e1 e2
      cases m1 with
      | lst ds => obtain ⟨f, vs, h, r⟩ := this; exact ⟨f, vs, by rw [upd_ne ne]; exact h, r⟩
      | dic ds => obtain ⟨f, vs, h, r⟩ := this; exact ⟨f, vs, by rw [upd_ne ne]; exact h, r⟩
      | scr ds => obtain ⟨f, o9, vs, h, r⟩ := this; exact ⟨f, o9, vs, by rw [upd_ne ne]; exact h, r⟩
      | ins c ds => obtain ⟨f, dx, vs, h, r⟩ := this; exact ⟨f, dx, vs, by rw [upd_ne ne]; exact h, r.mono ⟨Evl.Ex.refl _, pre⟩⟩
      | frz d => exact this
    · have hl : n = as.length := by
        have := (List.getElem?_eq_some_iff.mp e1).1
        simp at this
        omega
      subst hl
      rw [List.getElem?_append_right (Nat.le_refl _)] at e1
      rw [g.len, List.getElem?_append_right (Nat.le_refl _)] at e2
      simp at e1 e2
      subst e1
      subst e2
      exact hm _ pre
/-- a live object is changed -/
theorem Good.write (g : Good G Z F as M H) {n : Nat} {p : Addr} {o : HO} {mo : MO} (e : as[n]? = some p) (hf : F p = none) (hm : MoOk G F as (upd H p o) p mo) : Good G Z F as (M.set n mo) (upd H p o) := by
  have hnl : n < as.length := (List.getElem?_eq_some_iff.mp e).1
  have zp : ∀ a u, Z a = some u → a ≠ p := fun a u h q => g.za a u h (by rw [q]; exact List.mem_of_getElem? e)
  refine ⟨fun a u h => ?_, by simp [g.len], g.nd, fun k a m1 e1 e2 => ?_, fun a u h => by rw [upd_ne (zp a u h)]; exact g.zh a u h, g.zf, g.za⟩
  · rw [upd_ne (ne_of_none h hf)]
    exact g.sub _ _ h
  · by_cases hk : k = n
    · subst hk
      rw [e] at e1
      cases e1
      rw [List.getElem?_set_self (by rw [← g.len]; exact hnl)] at e2
      cases e2
      exact hm
    · rw [List.getElem?_set_ne (Ne.symm hk)] at e2
      have ne : a ≠ p := fun q => by
        subst q
        exact hk ((List.getElem?_inj (List.getElem?_eq_some_iff.mp e1).1 g.nd).mp (e1.trans e.symm))
      have := g.ok k a m1 e1 e2
      cases m1 with
      | lst ds => obtain ⟨f, vs, h, r⟩ := this; exact ⟨f, vs, by rw [upd_ne ne]; exact h, r⟩
      | dic ds => obtain ⟨f, vs, h, r⟩ := this; exact ⟨f, vs, by rw [upd_ne ne]; exact h, r⟩
      | scr ds => obtain ⟨f, o9, vs, h, r⟩ := this; exact ⟨f, o9, vs, by rw [upd_ne ne]; exact h, r⟩
      | ins c ds => obtain ⟨f, dx, vs, h, r⟩ := this; exact ⟨f, dx, vs, by rw [upd_ne ne]; exact h, r⟩
      | frz d => exact this
/-- a live object is frozen: from now on it is data -/
theorem Good.freeze (g : Good G Z F as M H) {n : Nat} {p : Addr} {o : HO} {d : D} (e : as[n]? = some p) (hf : F p = none) (ho : H p = some o) (hd : Rep G (upd F p o) (.ref p) d) :
    Good G Z (upd F p o) as (M.set n (.frz d)) H ∧ Up F as (upd F p o) as := by
  have hnl : n < as.length := (List.getElem?_eq_some_iff.mp e).1
  have eF : Ex F (upd F p o) := Evl.Ex.new hf
  have zp : ∀ a u, Z a = some u → a ≠ p := fun a u h q => g.za a u h (by rw [q]; exact List.mem_of_getElem? e)
  refine ⟨⟨fun a u h => ?_, by simp [g.len], g.nd, fun k a m1 e1 e2 => ?_, g.zh, fun a u h => by rw [upd_ne (zp a u h)]; exact g.zf a u h, g.za⟩, eF, List.prefix_refl _⟩
  · by_cases q : a = p
    · subst q
      rw [upd_same] at h
      rw [← h]
      exact ho
    · rw [upd_ne q] at h
      exact g.sub _ _ h
  · by_cases hk : k = n
    · subst hk
      rw [e] at e1
      cases e1
      rw [List.getElem?_set_self (by rw [← g.len]; exact hnl)] at e2
      cases e2
      exact ⟨⟨o, upd_same⟩, hd⟩
    · rw [List.getElem?_set_ne (Ne.symm hk)] at e2
      have ne : a ≠ p := fun q => by
        subst q
        exact hk ((List.getElem?_inj (List.getElem?_eq_some_iff.mp e1).1 g.nd).mp (e1.trans e.symm))
      have := g.ok k a m1 e1 e2
      cases m1 with
      | lst ds => obtain ⟨f, vs, h, r⟩ := this; exact ⟨by rw [upd_ne ne]; exact f, vs, h, r.mono eF⟩
      | dic ds => obtain ⟨f, vs, h, r⟩ := this; exact ⟨by rw [upd_ne ne]; exact f, vs, h, r.mono eF⟩
      | scr ds => obtain ⟨f, o9, vs, h, r⟩ := this; exact ⟨by rw [upd_ne ne]; exact f, o9, vs, h, r.mono eF⟩
      | ins c ds => obtain ⟨f, dx, vs, h, r⟩ := this; exact ⟨by rw [upd_ne ne]; exact f, dx, vs, h, r.mono ⟨eF, List.prefix_refl _⟩⟩
      | frz d => obtain ⟨⟨o2, f⟩, r⟩ := this; exact ⟨⟨o2, by rw [upd_ne ne]; exact f⟩, r.mono eF⟩
/-- an object that nobody here knows is held aside, changed, taken in -/
theorem Good.aside (g : Good G Z F as M H) {p : Addr} {o : HO} (hp : H p = none) : Good G (upd Z p o) F as M (upd H p o) := by
  have g2 := g.heap (H' := upd H p o) (Evl.Ex.new hp)
  refine ⟨g2.sub, g2.len, g2.nd, g2.ok, fun a u h => ?_, fun a u h => ?_, fun a u h => ?_⟩
  · by_cases q : a = p
    · subst q
      rw [upd_same] at h ⊢
      exact h
    · rw [upd_ne q] at h ⊢
      exact g.zh a u h
  · by_cases q : a = p
    · subst q
      exact g.noF hp
    · rw [upd_ne q] at h
      exact g.zf a u h
  · by_cases q : a = p
    · subst q
      exact g.notIn hp
    · rw [upd_ne q] at h
      exact g.za a u h
theorem Good.turn (g : Good G Z F as M H) {p : Addr} {o u : HO} (hp : Z p = some o) : Good G (upd Z p u) F as M (upd H p u) := by
  have fp := g.zf p o hp
  have ap := g.za p o hp
  have ne : ∀ {n : Nat} {a : Addr}, as[n]? = some a → a ≠ p := fun e q => ap (by rw [← q]; exact List.mem_of_getElem? e)
  refine ⟨fun a v h => ?_, g.len, g.nd, fun n a mo e1 e2 => ?_, fun a v h => ?_, fun a v h => ?_, fun a v h => ?_⟩
  · rw [upd_ne (ne_of_none h fp)]
    exact g.sub a v h
  · have hn := ne e1
    have := g.ok n a mo e1 e2
    cases mo with
    | lst ds => obtain ⟨f, vs, h, r⟩ := this; exact ⟨f, vs, by rw [upd_ne hn]; exact h, r⟩
    | dic ds => obtain ⟨f, vs, h, r⟩ := this; exact ⟨f, vs, by rw [upd_ne hn]; exact h, r⟩
    | scr ds => obtain ⟨f, o9, vs, h, r⟩ := this; exact ⟨f, o9, vs, by rw [upd_ne hn]; exact h, r⟩
    | ins c ds => obtain ⟨f, dx, vs, h, r⟩ := this; exact ⟨f, dx, vs, by rw [upd_ne hn]; exact h, r⟩
    | frz d => exact this
  · by_cases q : a = p
    · subst q
      rw [upd_same] at h ⊢
      exact h
    · rw [upd_ne q] at h ⊢
      exact g.zh a v h
  · by_cases q : a = p
    · subst q
      exact fp
    · rw [upd_ne q] at h
      exact g.zf a v h
  · by_cases q : a = p
    · subst q
      exact ap
    · rw [upd_ne q] at h
      exact g.za a v h
theorem Good.adopt {Z0 : Hp} (g : Good G Z F as M H) {p : Addr} {o : HO} (hp : Z p = some o) (hz : ∀ a u, Z0 a = some u → Z a = some u ∧ a ≠ p) : Good G Z0 (upd F p o) as M H ∧ Up F as (upd F p o) as := by
  have fp := g.zf p o hp
  have ap := g.za p o hp
  have eF : Ex F (upd F p o) := Evl.Ex.new fp
  have ne : ∀ {n : Nat} {a : Addr}, as[n]? = some a → a ≠ p := fun e q => ap (by rw [← q]; exact List.mem_of_getElem? e)
  refine ⟨⟨fun a v h => ?_, g.len, g.nd, fun n a mo e1 e2 => ?_, fun a v h => g.zh _ _ (hz a v h).1, fun a v h => by rw [upd_ne (hz a v h).2]; exact g.zf _ _ (hz a v h).1, fun a v h => g.za _ _ (hz a v h).1⟩, eF, List.prefix_refl _⟩
  · by_cases q : a = p
    · subst q
      rw [upd_same] at h
      rw [← h]
      exact g.zh _ _ hp
    · rw [upd_ne q] at h
      exact g.sub a v h
  · have hn := ne e1
    have := g.ok n a mo e1 e2
    cases mo with
    | lst ds => obtain ⟨f, vs, h, r⟩ := this; exact ⟨by rw [upd_ne hn]; exact f, vs, h, r.mono eF⟩
    | dic ds => obtain ⟨f, vs, h, r⟩ := this; exact ⟨by rw [upd_ne hn]; exact f, vs, h, r.mono eF⟩
    | scr ds => obtain ⟨f, o9, vs, h, r⟩ := this; exact ⟨by rw [upd_ne hn]; exact f, o9, vs, h, r.mono eF⟩
    | ins c ds => obtain ⟨f, dx, vs, h, r⟩ := this; exact ⟨by rw [upd_ne hn]; exact f, dx, vs, h, r.mono ⟨eF, List.prefix_refl _⟩⟩
    | frz d => obtain ⟨⟨o2, f⟩, r⟩ := this; exact ⟨⟨o2, by rw [upd_ne hn]; exact f⟩, r.mono eF⟩
/-- less is held aside -/
theorem Good.less {Z0 : Hp} (g : Good G Z F as M H) (e : Ex Z0 Z) : Good G Z0 F as M H :=
  ⟨g.sub, g.len, g.nd, g.ok, e.trans g.zh, fun a o h => g.zf a o (e a o h), fun a o h => g.za a o (e a o h)⟩
end
end TD
set_option Elab.async false
set_option linter.all false
set_option maxRecDepth 100000
set_option maxHeartbeats 2000000
/-! TD, part B: a small code language and what it computes. -/
namespace TD
open PySem L2
inductive Ty where
  | int | bool | str | tuple | list | dict | cls (c : Nat)
/-- built-in functions by name -/
inductive BI where
  | len | all | max2 | int | tuple | list | repr | sortedSet | sum | lenSet | min2
/-- methods of built-in types -/
inductive BM where
  | append | extend
inductive Fi where
  | fn (f : Nat) | mk (c : Nat) | low (f : Nat)
mutual
/-- a target -/
inductive CG where
  | name (i : Nat) | tup (gs : CGs)
inductive CGs where
  | nil | cons (g : CG) (r : CGs)
end
mutual
inductive CE where
  | var (i : Nat)
  | con (d : D)
  | glb (d : D)
  | tup (es : CL) | lst (es : CL) | new (es : CL)
  | bin (op : Operator) (a b : CE)
  | neg (a : CE)
  | cmp (op : CmpOp) (a b : CE)
  | chn (op op' : CmpOp) (a b c : CE)
  | and (a b : CE) | or (a b : CE) | not (a : CE)
  | ite (c : CT) (a b : CE)
  | call (f : Fi) (es : CL)
  | blt (b : BI) (es : CL)
  | isi (a : CE) (t : Ty)
  | met (m : Str) (o : CE) (es : CL)
  | smet (f : Nat) (es : CL)
  | fld (o : CE) (f : Str)
  | ix (a i : CE) | sl (a : CE) (lo hi : CO)
  | lc (g : CG) (it : CI) (t : CTs) (e : CE) (own : List Nat)
  | obin (a b : CE) | rev (a : CE)
  | xf (f : Str)
  | olen (a : CE) | oix (a i : CE) | oin (neg : Bool) (a b : CE) | oeq (a b : CE)
  | mkx (c : Nat) (fs : List Str) (kw : Bool) (es : CL) | xfld (o : CE) (f : Str) | isx (a : CE) (tab : List (Nat × Bool))
  | kin (neg : Bool) (a : CE) (n : Nat) (kvs : List (Str × D)) | kix (n : Nat) (kvs : List (Str × D)) (a : CE)
inductive CL where
  | nil | cons (e : CE) (r : CL) | star (e : CE) (r : CL)
inductive CO where
  | none | some (e : CE)
inductive CT where
  | val (e : CE) | tst (e : CE) | and (a b : CT) | or (a b : CT) | not (a : CT)
inductive CTs where
  | nil | one (t : CT)
inductive CI where
  | seq (e : CE) | rng (e : CE) | enm (e : CE) | chars (e : CE)
end
mutual
inductive CS where
  | pass | expr (e : CE) | ret (e : CE) | retN | set (g : CG) (e : CE)
  | par (is : List Nat) (es : CL)
  | fld (o : CE) (f : Str) (e : CE)
  | sub (o i e : CE)
  | mut (m : BM) (o : CE) (es : CL)
  | ife (c : CT) (a b : CSs)
  | fors (g : CG) (it : CI) (b : CSs)
  | raise (c : Nat) (es : CL)
  | tryx (b : CSs) (hs : CHs)
  | brk | cnt
inductive CSs where
  | nil | cons (s : CS) (r : CSs)
inductive CHs where
  | nil | cons (c : Nat) (i : Nat) (b : CSs) (r : CHs)
end

/-! ### data -/
mutual
def eqD : D → D → Bool
  | .non, .non => true
  | .bl a, .bl b => a == b
  | .bl a, .int j => (if a then 1 else 0) == j
  | .int i, .bl b => i == (if b then 1 else 0)
  | .int i, .int j => i == j
  | .str x, .str y => decide (x = y)
  | .tup xs, .tup ys => eqDs xs ys
  | .lst xs, .lst ys => eqDs xs ys
  | _, _ => false
def eqDs : List D → List D → Bool
  | [], [] => true
  | x :: xs, y :: ys => eqD x y && eqDs xs ys
  | _, _ => false
end
mutual
/-- a nest of at most n of tuples and lists, no dict, no object -/
def flat : Nat → D → Bool
  | _, .non => true
  | _, .bl _ => true
  | _, .int _ => true
  | _, .str _ => true
  | n + 1, .tup xs => flats n xs
  | n + 1, .lst xs => flats n xs
  | _, _ => false
def flats : Nat → List D → Bool
  | _, [] => true
  | n, x :: xs => flat n x && flats n xs
end
abbrev okEq (d : D) : Bool := flat 20 d
def szOk (n : Nat) : Bool := decide (n ≤ 16777216)
def truD : D → Option Bool
  | .non => some false
  | .bl b => some b
  | .int i => some (i != 0)
  | .str x => if szOk x.length then some ((x.length : Int) != 0) else none
  | .tup xs => some (!xs.isEmpty)
  | .lst xs => some (!xs.isEmpty)
  | _ => none
def isiD (sub : Nat → Nat → Bool) : Ty → D → Bool
  | .int, .int _ => true
  | .int, .bl _ => true
  | .bool, .bl _ => true
  | .str, .str _ => true
  | .tuple, .tup _ => true
  | .list, .lst _ => true
  | .dict, .dic _ => true
  | .cls c, .obj k _ => sub k c
  | _, _ => false
def mulOk (i j : Int) : Bool := (decide (-(2 ^ 64) < i) && decide (i < 2 ^ 64)) || (decide (-(2 ^ 64) < j) && decide (j < 2 ^ 64))
def binD : Operator → D → D → Option D
  | .Add, .int i, .int j => some (.int (i + j))
  | .Add, .str x, .str y => if szOk (x.length + y.length) then some (.str (x ++ y)) else none
  | .Add, .tup xs, .tup ys => if szOk (xs.length + ys.length) then some (.tup (xs ++ ys)) else none
  | .Add, .lst xs, .lst ys => if szOk (xs.length + ys.length) then some (.lst (xs ++ ys)) else none
  | .Sub, .int i, .int j => some (.int (i - j))
  | .Mult, .int i, .int j => if mulOk i j then some (.int (i * j)) else none
  | .Mult, .lst xs, .int j => if decide (-(2 ^ 62) ≤ j) && decide (j < 2 ^ 62) && szOk (xs.length * j.toNat) then some (.lst (List.replicate j.toNat xs).flatten) else none
  | .Mult, .str x, .int j => if decide (0 ≤ j) && decide (j < 1000) && decide (x.length ≤ 1000) then some (.str ⟨(List.replicate j.toNat x.cps.toList).flatten.toArray⟩) else none
  | .FloorDiv, .int i, .int j => if decide (0 < j) && decide (j < 2 ^ 1000) then some (.int (i / j)) else none
  | .Mod, .int i, .int j => if decide (0 < j) then some (.int (i % j)) else none
  | .Pow, .int i, .int j => if decide (0 ≤ j) && decide (j ≤ 64) && decide (-(2 ^ 64) < i) && decide (i < 2 ^ 64) then some (.int (i ^ j.toNat)) else none
  | _, _, _ => none
def anyEq (x : D) : List D → Bool
  | [] => false
  | y :: ys => eqD y x || anyEq x ys
def allOk : List D → Bool
  | [] => true
  | y :: ys => okEq y && allOk ys
def strLt (x y : Str) : Bool := decide (x.cps.toList < y.cps.toList)
def inD (x : D) : D → Option Bool
  | .tup ys => if okEq x && allOk ys then some (anyEq x ys) else none
  | .lst ys => if okEq x && allOk ys then some (anyEq x ys) else none
  | .str y => match x with
    | .str z => match z.cps.toList with
      | [c] => some (decide (c ∈ y.cps.toList))
      | _ => none
    | _ => none
  | _ => none
def cmpD : CmpOp → D → D → Option Bool
  | .Eq, a, b => if okEq a && okEq b then some (eqD a b) else none
  | .NotEq, a, b => if okEq a && okEq b then some (!eqD a b) else none
  | .Lt, .int i, .int j => some (decide (i < j))
  | .LtE, .int i, .int j => some (decide (i ≤ j))
  | .Gt, .int i, .int j => some (decide (j < i))
  | .GtE, .int i, .int j => some (decide (j ≤ i))
  | .Lt, .str x, .str y => some (strLt x y)
  | .Is, a, .non => some (match a with | .non => true | _ => false)
  | .IsNot, a, .non => some (match a with | .non => false | _ => true)
  | .In, a, b => inD a b
  | .NotIn, a, b => (inD a b).map (! ·)
  | _, _, _ => none
def negD : D → Option D
  | .int i => some (.int (-i))
  | _ => none
/-- the place of an index -/
def ixD : D → D → Option D
  | .tup xs, .int i => atI xs i
  | .lst xs, .int i => atI xs i
  | .str x, .int i => if szOk x.length then (atI x.cps.toList i).map fun c => .str ⟨#[c]⟩ else none
  | _, _ => none
/-- a constant dict with text keys: is the key there, its value -/
def kget (kvs : List (Str × D)) (x : D) : Option (Option D) :=
  match x with
  | .str z => some (kvs.lookup z)
  | _ => none
def slD (a : D) (lo hi : Option Int) : Option D :=
  match a with
  | .tup xs => some (.tup ((xs.drop (HT.sIx xs.length 0 lo)).take (HT.sIx xs.length xs.length hi - HT.sIx xs.length 0 lo)))
  | .lst xs => some (.lst ((xs.drop (HT.sIx xs.length 0 lo)).take (HT.sIx xs.length xs.length hi - HT.sIx xs.length 0 lo)))
  | _ => none

/-! ### live objects -/
def fsD : List (Str × Vl) → Option (List (Str × D))
  | [] => some []
  | (n, .d x) :: r => (fsD r).map ((n, x) :: ·)
  | (_, .loc _) :: _ => none
def freeze (n : Nat) : EM D := fun M =>
  match M[n]? with
  | some (.lst xs) => some (.ok (.lst xs), M.set n (.frz (.lst xs)))
  | some (.dic kvs) => some (.ok (.dic kvs), M.set n (.frz (.dic kvs)))
  | some (.frz d) => some (.ok d, M)
  | some (.ins c fs) => match fsD fs with
    | some fs' => some (.ok (.obj c fs'), M.set n (.frz (.obj c fs')))
    | none => none
  | _ => none
def toD : Vl → EM D
  | .d x => EM.pure x
  | .loc n => freeze n
def toDs : List Vl → EM (List D)
  | [] => EM.pure []
  | v :: r => EM.bind (toD v) fun d => EM.bind (toDs r) fun ds => EM.pure (d :: ds)
/-- what a value looks like, without freezing it -/
def peek (v : Vl) : EM D := fun M =>
  match v with
  | .d x => some (.ok x, M)
  | .loc n => match M[n]? with
    | some (.lst xs) => some (.ok (.lst xs), M)
    | some (.dic kvs) => some (.ok (.dic kvs), M)
    | some (.frz d) => some (.ok d, M)
    | _ => none
/-- .. the script, too -/
def peekW (v : Vl) : EM D := fun M =>
  match v with
  | .d x => some (.ok x, M)
  | .loc n => match M[n]? with
    | some (.lst xs) => some (.ok (.lst xs), M)
    | some (.dic kvs) => some (.ok (.dic kvs), M)
    | some (.frz d) => some (.ok d, M)
    | some (.scr xs) => some (.ok (.lst xs), M)
    | _ => none
/-- an object: its class, one of its fields -/
def look (f : Str) (v : Vl) (M : Mem) : Option (Nat × Option Vl) :=
  match v with
  | .d (.obj c fs) => some (c, (fs.lookup f).map .d)
  | .loc n => match M[n]? with
    | some (.ins c fs) => some (c, fs.lookup f)
    | some (.frz (.obj c fs)) => some (c, (fs.lookup f).map .d)
    | _ => none
  | _ => none
def putL (f : Str) (v : Vl) : List (Str × Vl) → List (Str × Vl)
  | [] => [(f, v)]
  | (g, u) :: r => if g = f then (g, v) :: r else (g, u) :: putL f v r
/-- the slots, and the exception at hand in a handler -/
structure Env where
  s : List (Option Vl)
  x : Option Xc
def Env.set (e : Env) (i : Nat) (v : Vl) : Env := ⟨e.s.set i (some v), none⟩
/-- slots forgotten -/
def wipeS (l : List (Option Vl)) : List Nat → List (Option Vl)
  | [] => l
  | v :: vs => (wipeS l vs).set v none
def Env.wipe (e : Env) (vs : List Nat) : Env := ⟨wipeS e.s vs, none⟩
abbrev Cl := Fi → List Vl → EM Vl
/-- static facts: subclasses, methods by class and name, fields -/
structure Tab where
  /-- exceptions -/
  sub : Nat → Nat → Bool
  /-- other classes -/
  isb : Nat → Nat → Bool
  met : Nat → Str → Option Nat
  fld : Nat → Str → Bool
  /-- fields of exceptions -/
  xfl : Nat → Str → Bool
def fieldOf (T : Tab) (f : Str) (v : Vl) : EM Vl := fun M =>
  match look f v M with
  | some (c, some u) => if T.fld c f then some (.ok u, M) else none
  | _ => none
def metOf (T : Tab) (m : Str) (v : Vl) (M : Mem) : Option Nat :=
  match look m v M with
  | some (c, none) => T.met c m
  | _ => none
def metE (T : Tab) (m : Str) (v : Vl) : EM Nat := fun M =>
  match metOf T m v M with
  | some f => some (.ok f, M)
  | none => none
def setField (T : Tab) (f : Str) (v o : Vl) : EM Unit := fun M =>
  match o with
  | .loc n => match M[n]? with
    | some (.ins c fs) => if T.fld c f && decide (fs.length < 1000) then some (.ok (), M.set n (.ins c (putL f v fs))) else none
    | _ => none
  | _ => none

def getV (e : Env) (i : Nat) : EM Vl := fun M =>
  match e.s[i]? with
  | some (some v) => some (.ok v, M)
  | _ => none
def EM.o {α : Type} (o : Option α) : EM α := fun M =>
  match o with
  | some a => some (.ok a, M)
  | none => none
def items : D → Option (List D)
  | .tup xs => some xs
  | .lst xs => some xs
  | _ => none
def allBl : List D → Option Bool
  | [] => some true
  | .bl b :: r => (allBl r).map (b && ·)
  | _ => none
def sumI : List D → Option Int
  | [] => some 0
  | .int b :: r => (sumI r).map (b + ·)
  | _ => none
def lenD : List D → Option D
  | [.str x] => if szOk x.length then some (.int x.length) else none
  | [.tup xs] => some (.int xs.length)
  | [.lst xs] => some (.int xs.length)
  | [.dic xs] => some (.int xs.length)
  | _ => none
def maxD : List D → Option D
  | [.int i, .int j] => some (.int (if j > i then j else i))
  | _ => none
def minD : List D → Option D
  | [.int i, .int j] => some (.int (if j < i then j else i))
  | _ => none
def intD : List D → Option D
  | [.int i] => some (.int i)
  | [.bl b] => some (.int (if b then 1 else 0))
  | _ => none
def tupleD : List D → Option D
  | [.lst xs] => some (.tup xs)
  | [.tup xs] => some (.tup xs)
  | _ => none
def listD : List D → Option D
  | [.tup xs] => some (.lst xs)
  | [.lst xs] => some (.lst xs)
  | _ => none
def allD : List D → Option D
  | [.lst xs] => (allBl xs).map .bl
  | _ => none
def sumD : List D → Option D
  | [.lst xs] => (sumI xs).map .int
  | _ => none
/-- texts by their code points -/
def ltN : List Nat → List Nat → Bool
  | [], [] => false
  | [], _ :: _ => true
  | _ :: _, [] => false
  | a :: r, b :: t => decide (a < b) || (a == b && ltN r t)
def insN (k : Str) : List Str → List Str
  | [] => [k]
  | x :: r => if k = x then x :: r else if ltN k.cps.toList x.cps.toList then k :: x :: r else x :: insN k r
/-- the texts of a list, each once, ascending -/
def sortN (xs : List Str) : List Str := xs.foldr insN []
def strsD : List D → Option (List Str)
  | [] => some []
  | .str x :: r => (strsD r).map (x :: ·)
  | _ => none
def ssD : List D → Option D
  | [.lst xs] => (strsD xs).bind fun ss => if ss.length < 4000 then some (.lst ((sortN ss).map .str)) else none
  | _ => none
def reprD (rp : D → Option Str) : List D → Option D
  | [d] => (rp d).map .str
  | _ => none
def bltD (rp : D → Option Str) (b : BI) (ds : List D) : Option D :=
  match b with
  | .len => lenD ds
  | .max2 => maxD ds
  | .min2 => minD ds
  | .int => intD ds
  | .tuple => tupleD ds
  | .list => listD ds
  | .all => allD ds
  | .sum => sumD ds
  | .repr => reprD rp ds
  | .sortedSet => ssD ds
  | .lenSet => none
mutual
def asg : CG → D → Env → Option Env
  | .name i, d, e => some (e.set i (.d d))
  | .tup gs, .tup xs, e => asgs gs xs e
  | .tup gs, .lst xs, e => asgs gs xs e
  | _, _, _ => none
def asgs : CGs → List D → Env → Option Env
  | .nil, [], e => some e
  | .cons g r, x :: xs, e => (asg g x e).bind fun e' => asgs r xs e'
  | _, _, _ => none
end
def zipEnum : Nat → List D → List D
  | _, [] => []
  | n, x :: xs => .tup [.int n, x] :: zipEnum (n + 1) xs
def rngGo : Nat → Int → List D
  | 0, _ => []
  | n + 1, i => .int i :: rngGo n (i + 1)
/-- an exception is not looked for here -/
def noEx {α : Type} (m : EM α) : EM α := fun M =>
  match m M with
  | some (.ok a, M1) => some (.ok a, M1)
  | _ => none
def lcGo (f : D → EM (Option D)) : List D → EM (List D)
  | [] => EM.pure []
  | x :: xs => EM.bind (noEx (f x)) fun o => EM.bind (lcGo f xs) fun ys => EM.pure (match o with | some y => y :: ys | none => ys)

/-! ### code -/
section
variable (T : Tab) (rp : D → Option Str) (cl : Cl)
def mkTup (ds : List D) : EM Vl := EM.o (if szOk ds.length then some (.d (.tup ds)) else none)
def mkLst (ds : List D) : EM Vl := EM.o (if szOk ds.length then some (.d (.lst ds)) else none)
def mkNew (ds : List D) : EM Vl := fun M => if szOk ds.length then some (.ok (.loc M.length), M ++ [.lst ds]) else none
def boolOf : Vl → EM Bool
  | .d (.bl b) => EM.pure b
  | _ => EM.fail
def intOf : Vl → EM Int
  | .d (.int b) => EM.pure b
  | _ => EM.fail
def isiO (t : Ty) (d : D) : Option Bool :=
  match d with
  | .obj c fs => if T.isb c c then some (isiD T.isb t (.obj c fs)) else none
  | d => some (isiD T.isb t d)
def noX : D → Option D
  | .exc _ _ => none
  | d => some d
theorem noX_some {z d : D} (h : noX z = some d) : z = d ∧ ∀ c fs, d ≠ .exc c fs := by
  cases z <;> cases h <;> exact ⟨rfl, fun _ _ e => by cases e⟩
def shape (v : Vl) (M : Mem) : Option D :=
  match v with
  | .d x => noX x
  | .loc n => match M[n]? with
    | some (.lst xs) => some (.lst xs)
    | some (.scr xs) => some (.lst xs)
    | some (.dic xs) => some (.dic xs)
    | some (.frz d) => noX d
    | some (.ins c _) => some (.obj c [])
    | none => none
def isiV (t : Ty) (v : Vl) : EM Vl := fun M =>
  match (shape v M).bind (isiO T t) with
  | some b => some (.ok (.d (.bl b)), M)
  | none => none
def peeks : List Vl → EM (List D)
  | [] => EM.pure []
  | v :: r => EM.bind (peekW v) fun d => EM.bind (peeks r) fun ds => EM.pure (d :: ds)
def opB (op : Operator) (x y : Vl) : EM Vl := EM.bind (peek x) fun dx => EM.bind (peek y) fun dy => EM.o ((binD op dx dy).map .d)
def opC (op : CmpOp) (x y : Vl) : EM Vl := EM.bind (peekW x) fun dx => EM.bind (peekW y) fun dy => EM.o ((cmpD op dx dy).map fun b => .d (.bl b))
def opI (x y : Vl) : EM Vl := EM.bind (peekW x) fun dx => EM.bind (peekW y) fun dy => EM.o ((ixD dx dy).map .d)
def opN (x : Vl) : EM Vl := EM.bind (peek x) fun dx => EM.o ((negD dx).map .d)
def bltV (b : BI) (vs : List Vl) : EM Vl := EM.bind (peeks vs) fun ds => EM.o ((bltD rp b ds).map .d)
def revD : D → Option D
  | .lst xs => some (.lst xs.reverse)
  | _ => none
/-- x + y, one of them an object -/
def obinV (x y : Vl) : EM Vl := fun M =>
  match metOf T "__add__" x M with
  | some f => match shape y M, shape x M with
    | some (.obj c _), some (.obj c' _) => if c = c' && T.isb c c then cl (.fn f) [x, y] M else none
    | some _, some (.obj c' _) => if T.isb c' c' then cl (.fn f) [x, y] M else none
    | _, _ => none
  | none => match metOf T "__radd__" y M, x with
    | some f, .d (.tup _) => cl (.fn f) [y, x] M
    | _, _ => none
/-- len(x) by x's own __len__ -/
def lenOk : Vl → EM Vl
  | .d (.int n) => if decide (0 ≤ n) && decide (n < 2 ^ 63) then EM.pure (.d (.int n)) else EM.fail
  | _ => EM.fail
def olenV (x : Vl) : EM Vl := EM.bind (metE T "__len__" x) fun f => EM.bind (noEx (cl (.low f) [x])) lenOk
/-- x[y] by x's own __getitem__ -/
def oixV (x y : Vl) : EM Vl := EM.bind (metE T "__getitem__" x) fun f => cl (.low f) [x, y]
/-- x in y by y's own __contains__ -/
def oinV (neg : Bool) (x y : Vl) : EM Vl := EM.bind (metE T "__contains__" y) fun f => EM.bind (noEx (cl (.fn f) [y, x])) fun r => EM.bind (boolOf r) fun k => EM.pure (.d (.bl (if neg then !k else k)))
/-- x == y by x's own __eq__ -/
def oeqV (x y : Vl) : EM Vl := fun M =>
  match metOf T "__eq__" x M with
  | some f => match shape y M, shape x M with
    | some (.obj c _), some (.obj c' _) => if c = c' && T.isb c c then noEx (cl (.fn f) [x, y]) M else none
    | some _, some (.obj c' _) => if T.isb c' c' then noEx (cl (.fn f) [x, y]) M else none
    | _, _ => none
  | none => none
/-- a field of an exception -/
def xfldV (f : Str) (v : Vl) : EM Vl :=
  match v with
  | .d (.exc c fs) => EM.o (if T.xfl c f then (fs.lookup f).map .d else none)
  | _ => EM.fail
/-- isinstance of an exception, by its class -/
def isxV (tab : List (Nat × Bool)) (v : Vl) : EM Vl :=
  match v with
  | .d (.exc c _) => EM.o ((tab.lookup c).map fun b => .d (.bl b))
  | _ => EM.fail
mutual
def runE : CE → Env → EM Vl
  | .var i, e => getV e i
  | .con d, _ => EM.pure (.d d)
  | .glb d, _ => EM.pure (.d d)
  | .tup es, e => EM.bind (runL es e) fun vs => EM.bind (toDs vs) mkTup
  | .lst es, e => EM.bind (runL es e) fun vs => EM.bind (toDs vs) mkLst
  | .new es, e => EM.bind (runL es e) fun vs => EM.bind (toDs vs) mkNew
  | .bin op a b, e => EM.bind (runE a e) fun x => EM.bind (runE b e) fun y => opB op x y
  | .neg a, e => EM.bind (runE a e) fun x => opN x
  | .cmp op a b, e => EM.bind (runE a e) fun x => EM.bind (runE b e) fun y => opC op x y
  | .chn op op' a b c, e => EM.bind (runE a e) fun x => EM.bind (runE b e) fun y => EM.bind (opC op x y) fun r => EM.bind (boolOf r) fun k =>
      if k then EM.bind (runE c e) fun z => opC op' y z else EM.pure (.d (.bl false))
  | .and a b, e => EM.bind (runE a e) fun x => EM.bind (boolOf x) fun k => if k then runE b e else EM.pure (.d (.bl false))
  | .or a b, e => EM.bind (runE a e) fun x => EM.bind (boolOf x) fun k => if k then EM.pure (.d (.bl true)) else runE b e
  | .not a, e => EM.bind (runE a e) fun x => EM.bind (boolOf x) fun k => EM.pure (.d (.bl (!k)))
  | .ite c a b, e => EM.bind (runT c e) fun k => if k then runE a e else runE b e
  | .call f es, e => EM.bind (runL es e) fun vs => cl f vs
  | .blt b es, e => EM.bind (runL es e) fun vs => bltV rp b vs
  | .isi a t, e => EM.bind (runE a e) fun x => isiV T t x
  | .met m o es, e => EM.bind (runE o e) fun x => EM.bind (metE T m x) fun f => EM.bind (runL es e) fun vs => cl (.fn f) (x :: vs)
  | .smet f es, e => EM.bind (runL es e) fun vs => cl (.fn f) vs
  | .fld o f, e => EM.bind (runE o e) fun x => fieldOf T f x
  | .ix a i, e => EM.bind (runE a e) fun x => EM.bind (runE i e) fun y => opI x y
  | .sl a lo hi, e => EM.bind (runE a e) fun x => EM.bind (runO lo e) fun l => EM.bind (runO hi e) fun h => EM.bind (peekW x) fun dx => EM.o ((slD dx l h).map .d)
  | .lc g it t c own, e => EM.bind (runI it e) fun xs => EM.bind (lcGo (fun x => match asg g x (e.wipe own) with
      | none => EM.fail
      | some e' => EM.bind (runTs t e') fun k => if k then EM.bind (runE c e') fun v => EM.bind (toD v) fun d => EM.pure (some d) else EM.pure none) xs) mkLst
  | .obin a b, e => EM.bind (runE a e) fun x => EM.bind (runE b e) fun y => obinV T cl x y
  | .rev a, e => EM.bind (runE a e) fun x => EM.bind (peek x) fun d => EM.o ((revD d).map .d)
  | .xf f, e => EM.o ((e.x.bind fun x => if T.xfl x.cls f then x.fs.lookup f else none).map .d)
  | .olen a, e => EM.bind (runE a e) fun x => olenV T cl x
  | .oix a i, e => EM.bind (runE a e) fun x => EM.bind (runE i e) fun y => oixV T cl x y
  | .oin neg a b, e => EM.bind (runE a e) fun x => EM.bind (runE b e) fun y => oinV T cl neg x y
  | .oeq a b, e => EM.bind (runE a e) fun x => EM.bind (runE b e) fun y => oeqV T cl x y
  | .mkx c fs kw es, e => EM.bind (runL es e) fun vs => EM.bind (toDs vs) fun ds => EM.o (if fs.length = ds.length then some (.d (.exc c (fs.zip (if kw then ds.reverse else ds)))) else none)
  | .xfld o f, e => EM.bind (runE o e) fun x => xfldV T f x
  | .isx a tab, e => EM.bind (runE a e) fun x => isxV tab x
  | .kin neg a _ kvs, e => EM.bind (runE a e) fun x => EM.bind (peek x) fun dx => EM.o ((kget kvs dx).map fun o => .d (.bl (if neg then !o.isSome else o.isSome)))
  | .kix _ kvs a, e => EM.bind (runE a e) fun x => EM.bind (peek x) fun dx => EM.o (((kget kvs dx).bind id).map .d)
def runL : CL → Env → EM (List Vl)
  | .nil, _ => EM.pure []
  | .cons c r, e => EM.bind (runE c e) fun v => EM.bind (runL r e) fun vs => EM.pure (v :: vs)
  | .star c r, e => EM.bind (runE c e) fun v => EM.bind (peek v) fun d => EM.bind (EM.o (items d)) fun xs => EM.bind (runL r e) fun vs => EM.pure (xs.map .d ++ vs)
def runO : CO → Env → EM (Option Int)
  | .none, _ => EM.pure none
  | .some c, e => EM.bind (runE c e) fun v => EM.bind (intOf v) fun i => EM.pure (some i)
def runT : CT → Env → EM Bool
  | .val c, e => EM.bind (runE c e) fun v => EM.bind (peek v) fun d => EM.o (truD d)
  | .tst c, e => EM.bind (runE c e) fun v => boolOf v
  | .and a b, e => EM.bind (runT a e) fun k => if k then runT b e else EM.pure false
  | .or a b, e => EM.bind (runT a e) fun k => if k then EM.pure true else runT b e
  | .not a, e => EM.bind (runT a e) fun k => EM.pure (!k)
def runTs : CTs → Env → EM Bool
  | .nil, _ => EM.pure true
  | .one t, e => runT t e
def runI : CI → Env → EM (List D)
  | .seq c, e => EM.bind (runE c e) fun v => EM.bind (toD v) fun d => EM.o ((items d).bind fun xs => if szOk xs.length then some xs else none)
  | .rng c, e => EM.bind (runE c e) fun v => EM.bind (intOf v) fun i => EM.o (if decide (-(2 ^ 62) ≤ i) && decide (i ≤ 16777216) then some (rngGo i.toNat 0) else none)
  | .enm c, e => EM.bind (runE c e) fun v => EM.bind (toD v) fun d => EM.o ((items d).bind fun xs => if szOk xs.length then some (zipEnum 0 xs) else none)
  | .chars c, e => EM.bind (runE c e) fun v => match v with
      | .d (.str x) => EM.o (if szOk x.length then some (x.cps.toList.map fun c => .str ⟨#[c]⟩) else none)
      | _ => EM.fail
end
end
/-! ### statements -/
inductive Flw where
  | next (e : Env) | ret (v : Vl) | brk (e : Env) | cnt (e : Env) | ex (x : Xc) (e : Env)
abbrev SM := Mem → Option (Flw × Mem)
/-- an expression's value, then a statement -/
def seqE {α : Type} (e : Env) (m : EM α) (k : α → SM) : SM := fun M =>
  match m M with
  | none => none
  | some (.ok a, M1) => k a M1
  | some (.ex x, M1) => some (.ex x e, M1)
def SM.pure (f : Flw) : SM := fun M => some (f, M)
def SM.then (m : SM) (k : Env → SM) : SM := fun M =>
  match m M with
  | none => none
  | some (.next e, M1) => k e M1
  | some (f, M1) => some (f, M1)
/-- one turn's end in a loop -/
def forGo (g : CG) (b : Env → SM) : List D → Env → SM
  | [], e => SM.pure (.next e)
  | x :: xs, e => fun M =>
    match asg g x e with
    | none => none
    | some e1 => match b e1 M with
      | none => none
      | some (.next e2, M2) => forGo g b xs e2 M2
      | some (.cnt e2, M2) => forGo g b xs e2 M2
      | some (.brk e2, M2) => some (.next e2, M2)
      | some (.ret v, M2) => some (.ret v, M2)
      | some (.ex x e2, M2) => some (.ex x e2, M2)
def asgV : CG → Vl → Env → EM Env
  | .name i, v, e => EM.pure (e.set i v)
  | .tup gs, v, e => EM.bind (toD v) fun d => EM.o (asg (.tup gs) d e)
def parS : List Nat → List Vl → Env → Option Env
  | [], [], e => some e
  | i :: is, v :: vs, e => parS is vs (e.set i v)
  | _, _, _ => none
def lstE (x : Vl) : EM Unit := fun M =>
  match peek x M with
  | some (.ok (.lst _), M1) => some (.ok (), M1)
  | _ => none
def mutV (m : BM) (o : Vl) (vs : List Vl) : EM Unit := fun M =>
  match o with
  | .loc n => match M[n]? with
    | some (.lst xs) => match m, vs with
      | .append, [v] => match toD v M with
        | some (.ok d, M1) => match M1[n]? with
          | some (.lst ys) => if ys.length < 16777216 then some (.ok (), M1.set n (.lst (ys ++ [d]))) else none
          | _ => none
        | _ => none
      | .extend, [v] => match peek v M with
        | some (.ok (.lst zs), M1) => if xs.length + zs.length ≤ 16777216 then some (.ok (), M1.set n (.lst (xs ++ zs))) else none
        | _ => none
      | _, _ => none
    | _ => none
  | _ => none
def subV (o i v : Vl) : EM Unit := fun M =>
  match o, i with
  | .loc n, .d (.int k) => match toD v M with
    | some (.ok d, M1) => match M1[n]? with
      | some (.lst ys) => match ixN ys.length k with
        | some j => some (.ok (), M1.set n (.lst (ys.set j d)))
        | none => none
      | _ => none
    | _ => none
  | _, _ => none
/-- the fields of an exception's class, in order -/
structure XTab where
  fs : Nat → Option (List Str)
def mkX (XT : XTab) (c : Nat) (ds : List D) : Option Xc :=
  match XT.fs c with
  | some fs => if fs.length = ds.length then some ⟨c, fs.zip ds⟩ else none
  | none => none
section
variable (T : Tab) (rp : D → Option Str) (XT : XTab) (cl : Cl)
mutual
def runS : CS → Env → SM
  | .pass, e => SM.pure (.next e)
  | .expr c, e => seqE e (runE T rp cl c e) fun _ => SM.pure (.next e)
  | .ret c, e => seqE e (runE T rp cl c e) fun v => SM.pure (.ret v)
  | .retN, _ => SM.pure (.ret (.d .non))
  | .set g c, e => seqE e (EM.bind (runE T rp cl c e) fun v => asgV g v e) fun e' => SM.pure (.next e')
  | .par is es, e => seqE e (EM.bind (runL T rp cl es e) fun vs => EM.o (parS is vs e)) fun e' => SM.pure (.next e')
  | .fld o f c, e => seqE e (EM.bind (runE T rp cl c e) fun v => EM.bind (runE T rp cl o e) fun x => setField T f v x) fun _ => SM.pure (.next e)
  | .sub o i c, e => seqE e (EM.bind (runE T rp cl c e) fun v => EM.bind (runE T rp cl o e) fun x => EM.bind (runE T rp cl i e) fun y => subV x y v) fun _ => SM.pure (.next e)
  | .mut m o es, e => seqE e (EM.bind (runE T rp cl o e) fun x => EM.bind (lstE x) fun _ => EM.bind (runL T rp cl es e) fun vs => mutV m x vs) fun _ => SM.pure (.next e)
  | .ife c a b, e => seqE e (runT T rp cl c e) fun k => if k then runSs a e else runSs b e
  | .fors g it b, e => seqE e (runI T rp cl it e) fun xs => forGo g (fun e' => runSs b e') xs e
  | .raise c es, e => seqE e (EM.bind (runL T rp cl es e) fun vs => EM.bind (toDs vs) fun ds => EM.o (mkX XT c ds)) fun x => SM.pure (.ex x e)
  | .tryx b hs, e => fun M => match runSs b e M with
    | some (.ex x e1, M1) => runH hs x e1 M1
    | r => r
  | .brk, e => SM.pure (.brk e)
  | .cnt, e => SM.pure (.cnt e)
def runSs : CSs → Env → SM
  | .nil, e => SM.pure (.next e)
  | .cons s r, e => SM.then (runS s e) fun e' => runSs r e'
def runH : CHs → Xc → Env → SM
  | .nil, x, e => SM.pure (.ex x e)
  | .cons c i b r, x, e => if (XT.fs x.cls).isSome && decide (i < e.s.length) then if T.sub x.cls c then fun M => match runSs b ⟨e.s.set i none, some x⟩ M with
      | some (.next e1, M1) => some (.next ⟨e1.s.set i none, none⟩, M1)
      | some (.brk e1, M1) => some (.brk ⟨e1.s.set i none, none⟩, M1)
      | some (.cnt e1, M1) => some (.cnt ⟨e1.s.set i none, none⟩, M1)
      | some (.ret v, M1) => some (.ret v, M1)
      | _ => none
    else runH r x e else fun _ => none
end
end
/-! ### calls -/
structure Fn where
  np : Nat
  ns : Nat
  body : CSs
  /-- 0: the result is data, what was made is dropped; 1: a live result is handed out; 2: all that was made stays -/
  mode : Nat
  /-- what is left over of the arguments comes as a tuple behind the first np -/
  star : Bool
structure Cd where
  init : Nat
  /-- its objects never change behind their making -/
  frz : Bool
structure Prg where
  T : Tab
  XT : XTab
  rp : D → Option Str
  fn : Nat → Option Fn
  cd : Nat → Option Cd
def noLoc (b : Nat) : Vl → Bool
  | .d _ => true
  | .loc n => decide (n < b)
def okCut (b : Nat) : Mem → Bool
  | [] => true
  | .ins _ fs :: r => (fs.all fun f => noLoc b f.2) && okCut b r
  | _ :: r => okCut b r
def fin (b mode : Nat) (v : Vl) (M : Mem) : Option (Res Vl × Mem) :=
  if mode = 2 then some (.ok v, M) else
  if okCut b (M.take b) then
    match v with
    | .d x => some (.ok (.d x), M.take b)
    | .loc n => if n < b then some (.ok (.loc n), M.take b) else
      if mode = 1 then match M[n]? with
        | some mo => if okCut b [mo] then some (.ok (.loc b), M.take b ++ [mo]) else none
        | none => none
      else match freeze n M with
        | some (.ok d, M1) => some (.ok (.d d), M1.take b)
        | _ => none
  else none
def bindF (F : Fn) (vs : List Vl) : EM (List Vl) :=
  if F.star then
    if F.np ≤ vs.length then EM.bind (toDs (vs.drop F.np)) fun ds => if szOk ds.length then EM.pure (vs.take F.np ++ [.d (.tup ds)]) else EM.fail
    else EM.fail
  else if vs.length = F.np then EM.pure vs else EM.fail
def endF (b mode : Nat) : Option (Flw × Mem) → Option (Res Vl × Mem)
  | some (.next _, M) => fin b mode (.d .non) M
  | some (.ret v, M) => fin b mode v M
  | some (.ex x _, M) => if okCut b (M.take b) then some (.ex x, M.take b) else none
  | _ => none
def callN (P : Prg) : Nat → Fi → List Vl → EM Vl
  | 0, _, _ => fun _ => none
  | n + 1, .fn f, vs => fun M =>
    match P.fn f with
    | none => none
    | some F => match bindF F vs M with
      | some (.ok ws, M0) => endF M.length F.mode (runSs P.T P.rp P.XT (callN P n) F.body ⟨ws.map some ++ List.replicate F.ns none, none⟩ M0)
      | _ => none
  | n + 1, .low f, vs => callN P n (.fn f) vs
  | n + 1, .mk c, vs => fun M =>
    match P.cd c with
    | none => none
    | some C => match callN P n (.fn C.init) (.loc M.length :: vs) (M ++ [.ins c []]) with
      | some (.ok (.d .non), M1) => if C.frz then match freeze M.length M1 with
          | some (.ok d, M2) => if okCut M.length (M2.take M.length) then some (.ok (.d d), M2.take M.length) else none
          | _ => none
        else some (.ok (.loc M.length), M1)
      | some (.ex x, M1) => if okCut M.length (M1.take M.length) then some (.ex x, M1.take M.length) else none
      | _ => none
end TD
set_option Elab.async false
set_option linter.all false
set_option maxRecDepth 100000
set_option maxHeartbeats 2000000
/-! TD, part C: what a computed result promises of the abstract heap; data read off the heap. -/
namespace TD
open PySem L2
/-! ### results -/
def Out (G : GG) (Z F : Hp) (as : List Addr) {α β : Type} (R : Hp → List Addr → β → α → Prop) (Q : β → Hp → Prop) (E : XK) : Option (Res α × Mem) → Prop
  | none => False
  | some (.ok a, M) => ∀ b F' as' H', Up F as F' as' → Good G Z F' as' M H' → R F' as' b a → Q b H'
  | some (.ex x, M) => ∀ dd fs F' as' H', Up F as F' as' → Good G Z F' as' M H' → F' dd = some (.xd fs) → RepF G F' fs x.fs → E (.ref (G.cl x.cls)) (some dd) H'
section
variable {G : GG} {F F' : Hp} {as as' : List Addr} {α β γ δ : Type} {R : Hp → List Addr → β → α → Prop} {S : Hp → List Addr → δ → γ → Prop} {Q Q' : β → Hp → Prop} {T : δ → Hp → Prop} {E : XK} {M : Mem}
theorem Out.up (u : Up F as F' as') : ∀ {r : Option (Res α × Mem)}, Out G Z F as R Q E r → Out G Z F' as' R Q E r
  | none, h => h
  | some (.ok a, M), h => fun b F2 as2 H2 u2 => h b F2 as2 H2 (u.trans u2)
  | some (.ex x, M), h => fun d fs F2 as2 H2 u2 => h d fs F2 as2 H2 (u.trans u2)
theorem Out.imp (f : ∀ b H, Q b H → Q' b H) : ∀ {r : Option (Res α × Mem)}, Out G Z F as R Q E r → Out G Z F as R Q' E r
  | none, h => h
  | some (.ok a, M), h => fun b F2 as2 H2 u2 g r => f _ _ (h b F2 as2 H2 u2 g r)
  | some (.ex x, M), h => h
/-- the first part of a bind -/
theorem Out.bind {m : EM α} {k : α → EM γ} (h : Out G Z F as S T E (EM.bind m k M))
    (f : ∀ b F' as' H' a M', m M = some (.ok a, M') → Up F as F' as' → Good G Z F' as' M' H' → R F' as' b a → Out G Z F' as' S T E (k a M') → Q b H') : Out G Z F as R Q E (m M) := by
  unfold EM.bind at h
  cases e : m M with
  | none => rw [e] at h; exact h
  | some r =>
    obtain ⟨r, M1⟩ := r
    rw [e] at h
    cases r with
    | ok a => exact fun b F' as' H' u g r => f b F' as' H' a M1 e u g r (Out.up u h)
    | ex x => exact h
/-- a pure part of a bind -/
theorem Out.step {m : EM α} {k : α → EM γ} {a : α} {M' : Mem} (e : m M = some (.ok a, M')) (h : Out G Z F as S T E (EM.bind m k M)) : Out G Z F as S T E (k a M') := by
  unfold EM.bind at h
  rw [e] at h
  exact h
theorem Out.got {m : EM α} {k : α → EM γ} (h : Out G Z F as S T E (EM.bind m k M)) (np : ∀ x M', m M ≠ some (.ex x, M')) : ∃ a M', m M = some (.ok a, M') ∧ Out G Z F as S T E (k a M') := by
  unfold EM.bind at h
  cases e : m M with
  | none => rw [e] at h; exact h.elim
  | some r =>
    obtain ⟨r, M1⟩ := r
    rw [e] at h
    cases r with
    | ok a => exact ⟨a, M1, rfl, h⟩
    | ex x => exact (np x M1 e).elim
/-- EM.o's end -/
theorem Out.o {o : Option α} (h : Out G Z F as R Q E (EM.o o M)) : ∃ a, o = some a ∧ ∀ b F' as' H', Up F as F' as' → Good G Z F' as' M H' → R F' as' b a → Q b H' := by
  cases o with
  | none => exact h.elim
  | some a => exact ⟨a, rfl, h⟩
end

/-! ### the frame -/
/-- the exception at hand: its slot, its address, its class, its dict -/
abbrev Hx := Option (Nat × Addr × Value × Addr)
structure EnvR (G : GG) (hx : Hx) (F : Hp) (as : List Addr) (σ : St) (e : Env) : Prop where
  len : σ.length = e.s.length
  at_ : ∀ (i : Nat) (v : Vl), e.s[i]? = some (some v) → ∃ x, σ[i]? = some (some x) ∧ RepL G F as x v
  exc : ∀ x, e.x = some x → ∃ i a dd fs, hx = some (i, a, .ref (G.cl x.cls), dd) ∧ σ[i]? = some (some (.ref a)) ∧ F dd = some (.xd fs) ∧ RepF G F fs x.fs
section
variable {G : GG} {hx : Hx} {F F' : Hp} {as as' : List Addr} {σ : St} {e : Env}
theorem EnvR.mono (u : Up F as F' as') (r : EnvR G hx F as σ e) : EnvR G hx F' as' σ e :=
  ⟨r.len, fun i v h => let ⟨x, h1, h2⟩ := r.at_ i v h; ⟨x, h1, h2.mono u⟩, fun x h => let ⟨i, a, dd, fs, h1, h0, h2, h3⟩ := r.exc x h; ⟨i, a, dd, fs, h1, h0, u.ex _ _ h2, h3.mono u.ex⟩⟩
theorem EnvR.set (r : EnvR G hx F as σ e) {i : Nat} {x : V} {v : Vl} (h : RepL G F as x v) : EnvR G hx F as (σ.set i (some x)) (e.set i v) := by
  refine ⟨by simp [Env.set, r.len], fun j u hj => ?_, fun x h => by cases h⟩
  have hj' : (e.s.set i (some v))[j]? = some (some u) := hj
  by_cases q : j = i
  · subst q
    have hl : j < e.s.length := by
      have := (List.getElem?_eq_some_iff.mp hj').1
      simpa using this
    rw [List.getElem?_set_self hl] at hj'
    cases hj'
    exact ⟨x, List.getElem?_set_self (by rw [r.len]; exact hl), h⟩
  · rw [List.getElem?_set_ne (Ne.symm q)] at hj'
    rw [List.getElem?_set_ne (Ne.symm q)]
    exact r.at_ j u hj'
end
/-- a reading, by a computation -/
def tM (G : GG) (hx : Hx) (W : WX) {α β : Type} (R : Hp → List Addr → β → α → Prop) (m : Env → EM α) : St → Hp → (β → Hp → Prop) → Prop := fun σ H Q =>
  ∃ Z F as e M, EnvR G hx F as σ e ∧ Good G Z F as M H ∧ Out G Z F as R Q (fun c d H' => W c d σ H') (m e M)
abbrev rB : Hp → List Addr → Bool → Bool → Prop := fun _ _ b k => b = k
abbrev rO : Hp → List Addr → Option Int → Option Int → Prop := fun _ _ b k => b = k

/-! ### data read off the heap -/
mutual
def py : D → PyData
  | .non => .none
  | .bl b => .bool b
  | .int i => .int i
  | .str x => .str x
  | .tup xs => .tuple (pys xs)
  | .lst xs => .list (pys xs)
  | .dic _ => .dict []
  | .obj _ _ => .none
  | .exc _ _ => .none
def pys : List D → List PyData
  | [] => []
  | x :: xs => py x :: pys xs
end
mutual
theorem eqv_py : ∀ (n m : Nat) (a b : D), flat n a = true → flat m b = true → PyData.eqv (py a) (py b) = eqD a b
  | _, _, .non, b, _, h => by cases b <;> first | rfl | (unfold flat at h; cases h)
  | _, _, .bl _, b, _, h => by cases b <;> first | rfl | (unfold flat at h; cases h)
  | _, _, .int _, b, _, h => by cases b <;> first | rfl | (unfold flat at h; cases h)
  | _, _, .str x, b, _, h => by
    cases b <;> first | rfl | (unfold flat at h; cases h)
  | 0, _, .tup xs, b, h, _ => by unfold flat at h; cases h
  | 0, _, .lst xs, b, h, _ => by unfold flat at h; cases h
  | n + 1, m, .tup xs, b, ha, h => by
    cases b with
    | tup ys =>
      cases m with
      | zero => unfold flat at h; cases h
      | succ m =>
        unfold flat at h ha
        show PyData.eqvAll (pys xs) (pys ys) = eqDs xs ys
        exact eqvAll_py n m xs ys ha h
    | dic _ => unfold flat at h; cases h
    | obj _ _ => unfold flat at h; cases h
    | exc _ _ => unfold flat at h; cases h
    | _ => rfl
  | n + 1, m, .lst xs, b, ha, h => by
    cases b with
    | lst ys =>
      cases m with
      | zero => unfold flat at h; cases h
      | succ m =>
        unfold flat at h ha
        show PyData.eqvAll (pys xs) (pys ys) = eqDs xs ys
        exact eqvAll_py n m xs ys ha h
    | dic _ => unfold flat at h; cases h
    | obj _ _ => unfold flat at h; cases h
    | exc _ _ => unfold flat at h; cases h
    | _ => rfl
  | _, _, .dic _, b, h, _ => by unfold flat at h; cases h
  | _, _, .obj _ _, b, h, _ => by unfold flat at h; cases h
  | _, _, .exc _ _, b, h, _ => by unfold flat at h; cases h
theorem eqvAll_py : ∀ (n m : Nat) (a b : List D), flats n a = true → flats m b = true → PyData.eqvAll (pys a) (pys b) = eqDs a b
  | _, _, [], [], _, _ => rfl
  | _, _, [], _ :: _, _, _ => rfl
  | _, _, _ :: _, [], _, _ => rfl
  | n, m, x :: xs, y :: ys, ha, hb => by
    unfold flats at ha hb
    obtain ⟨a1, a2⟩ := Bool.and_eq_true_iff.mp ha
    obtain ⟨b1, b2⟩ := Bool.and_eq_true_iff.mp hb
    show (PyData.eqv (py x) (py y) && PyData.eqvAll (pys xs) (pys ys)) = (eqD x y && eqDs xs ys)
    rw [eqv_py n m x y a1 b1, eqvAll_py n m xs ys a2 b2]
end
mutual
theorem plain_py : ∀ (n : Nat) (d : D), flat n d = true → (py d).plain = true
  | _, .non, _ => rfl
  | _, .bl _, _ => rfl
  | _, .int _, _ => rfl
  | _, .str _, _ => rfl
  | 0, .tup xs, h => by unfold flat at h; cases h
  | 0, .lst xs, h => by unfold flat at h; cases h
  | n + 1, .tup xs, h => by
    unfold flat at h
    exact plains_py n xs h
  | n + 1, .lst xs, h => by
    unfold flat at h
    exact plains_py n xs h
  | _, .dic _, h => by unfold flat at h; cases h
  | _, .obj _ _, h => by unfold flat at h; cases h
  | _, .exc _ _, h => by unfold flat at h; cases h
theorem plains_py : ∀ (n : Nat) (d : List D), flats n d = true → PyData.plainAll (pys d) = true
  | _, [], _ => rfl
  | n, x :: xs, h => by
    unfold flats at h
    obtain ⟨a1, a2⟩ := Bool.and_eq_true_iff.mp h
    show ((py x).plain && PyData.plainAll (pys xs)) = true
    rw [plain_py n x a1, plains_py n xs a2]
    rfl
end
mutual
theorem depth_py : ∀ (n : Nat) (d : D), flat n d = true → (py d).depth ≤ n + 1
  | n, .non, _ => by show PyData.depth .none ≤ _; unfold PyData.depth; omega
  | n, .bl b, _ => by show PyData.depth (.bool b) ≤ _; unfold PyData.depth; omega
  | n, .int b, _ => by show PyData.depth (.int b) ≤ _; unfold PyData.depth; omega
  | n, .str b, _ => by show PyData.depth (.str b) ≤ _; unfold PyData.depth; omega
  | 0, .tup xs, h => by unfold flat at h; cases h
  | 0, .lst xs, h => by unfold flat at h; cases h
  | n + 1, .tup xs, h => by
    unfold flat at h
    have := depths_py n xs h
    show PyData.depth (.tuple (pys xs)) ≤ _
    unfold PyData.depth
    omega
  | n + 1, .lst xs, h => by
    unfold flat at h
    have := depths_py n xs h
    show PyData.depth (.list (pys xs)) ≤ _
    unfold PyData.depth
    omega
  | _, .dic _, h => by unfold flat at h; cases h
  | _, .obj _ _, h => by unfold flat at h; cases h
  | _, .exc _ _, h => by unfold flat at h; cases h
theorem depths_py : ∀ (n : Nat) (d : List D), flats n d = true → PyData.depthAll (pys d) ≤ n + 1
  | n, [], _ => by show PyData.depthAll [] ≤ _; unfold PyData.depthAll; omega
  | n, x :: xs, h => by
    unfold flats at h
    obtain ⟨a1, a2⟩ := Bool.and_eq_true_iff.mp h
    have h1 := depth_py n x a1
    have h2 := depths_py n xs a2
    show PyData.depthAll (py x :: pys xs) ≤ _
    unfold PyData.depthAll
    omega
end
/-- what stands at a value, the items as data -/
def Sh (G : GG) (F H : Hp) (x : V) : D → Prop
  | .lst xs => ∃ a vs, x = .ref a ∧ H a = some (.lst vs) ∧ Reps G F vs xs
  | .dic kvs => ∃ a ks, x = .ref a ∧ H a = some (.dK ks) ∧ RepK G F ks kvs
  | d => Rep G F x d
/-- .. the script, too -/
def ShW (G : GG) (F H : Hp) (x : V) : D → Prop
  | .lst xs => ∃ a vs, x = .ref a ∧ Rd H a (.lst vs) ∧ Reps G F vs xs
  | d => Sh G F H x d
section
variable {G : GG} {F H : Hp} {as : List Addr} {M M' : Mem} {x : V} {v : Vl} {d : D}
theorem Sh.of (e : Ex F H) (r : Rep G F x d) : Sh G F H x d := by
  cases r with
  | lst h r => exact ⟨_, _, rfl, e _ _ h, r⟩
  | dic h r => exact ⟨_, _, rfl, e _ _ h, r⟩
  | non => exact .non
  | bl b => exact .bl b
  | int b => exact .int b
  | str b => exact .str b
  | tup h r => exact .tup h r
  | obj h r => exact .obj h r
  | exc h h2 r => exact .exc h h2 r
theorem peek_ok (g : Good G Z F as M H) (r : RepL G F as x v) (e : peek v M = some (.ok d, M')) : M' = M ∧ Sh G F H x d := by
  cases v with
  | d y =>
    unfold peek at e
    cases e
    exact ⟨rfl, Sh.of g.sub r⟩
  | loc n =>
    obtain ⟨a, ha, rfl⟩ := r
    cases q : M[n]? with
    | none => simp only [peek, q] at e; cases e
    | some mo =>
      simp only [peek, q] at e
      have ok := g.ok n a mo ha q
      cases mo with
      | lst xs =>
        cases e
        obtain ⟨_, vs, h, r⟩ := ok
        exact ⟨rfl, a, vs, rfl, h, r⟩
      | dic xs =>
        cases e
        obtain ⟨_, vs, h, r⟩ := ok
        exact ⟨rfl, a, vs, rfl, h, r⟩
      | frz dd =>
        cases e
        exact ⟨rfl, Sh.of g.sub ok.2⟩
      | ins c fs => cases e
      | scr fs => cases e
theorem Sh.wide (h : Sh G F H x d) : ShW G F H x d := by
  cases d with
  | lst xs => obtain ⟨a, vs, h1, h2, h3⟩ := h; exact ⟨a, vs, h1, .inl h2, h3⟩
  | _ => exact h
theorem peekW_ok (g : Good G Z F as M H) (r : RepL G F as x v) (e : peekW v M = some (.ok d, M')) : M' = M ∧ ShW G F H x d := by
  cases v with
  | d y =>
    unfold peekW at e
    cases e
    exact ⟨rfl, (Sh.of g.sub r).wide⟩
  | loc n =>
    cases q : M[n]? with
    | none => simp only [peekW, q] at e; cases e
    | some mo =>
      by_cases hs : ∃ xs, mo = .scr xs
      · obtain ⟨xs, rfl⟩ := hs
        obtain ⟨a, ha, rfl⟩ := r
        have ok := g.ok n a _ ha q
        simp only [peekW, q] at e
        cases e
        obtain ⟨_, o, vs, h, r⟩ := ok
        exact ⟨rfl, a, vs, rfl, .inr ⟨o, h⟩, r⟩
      · have e2 : peek (.loc n) M = some (.ok d, M') := by
          cases mo with
          | scr xs => exact (hs ⟨xs, rfl⟩).elim
          | _ => simpa only [peekW, peek, q] using e
        obtain ⟨e3, h⟩ := peek_ok g r e2
        exact ⟨e3, h.wide⟩
theorem peekW_nx {x : Xc} : peekW v M ≠ some (.ex x, M') := by
  intro e
  cases v with
  | d y => unfold peekW at e; cases e
  | loc n =>
    unfold peekW at e
    simp only at e
    split at e <;> cases e
theorem peek_nx {x : Xc} : peek v M ≠ some (.ex x, M') := by
  intro e
  cases v with
  | d y => unfold peek at e; cases e
  | loc n =>
    unfold peek at e
    simp only at e
    split at e <;> cases e
theorem freeze_nx {n : Nat} {x : Xc} : freeze n M ≠ some (.ex x, M') := by
  intro e
  unfold freeze at e
  split at e
  · cases e
  · cases e
  · cases e
  · split at e <;> cases e
  · cases e
theorem toD_nx {x : Xc} : toD v M ≠ some (.ex x, M') := by
  cases v with
  | d y => intro e; cases e
  | loc n => exact freeze_nx
theorem RepLF.pure : ∀ {fs' : List (Str × V)} {fs : List (Str × Vl)} {ds : List (Str × D)}, RepLF G F as fs' fs → fsD fs = some ds → RepF G F fs' ds
  | _, _, _, .nil, e => by cases e; exact .nil
  | _, _, _, .cons (n := n) (d := .d x) (ds := r) h t, e => by
    have e' : (fsD r).map ((n, x) :: ·) = some _ := e
    cases q : fsD r with
    | none => rw [q] at e'; cases e'
    | some l =>
      rw [q] at e'
      cases e'
      exact .cons h (RepLF.pure t q)
  | _, _, _, .cons (d := .loc m) h t, e => by cases e
/-- data out of a value -/
theorem freeze_ok {n : Nat} {a : Addr} (g : Good G Z F as M H) (ha : as[n]? = some a) (e : freeze n M = some (.ok d, M')) : ∃ F', Good G Z F' as M' H ∧ Up F as F' as ∧ Rep G F' (.ref a) d := by
  unfold freeze at e
  cases q : M[n]? with
  | none => rw [q] at e; cases e
  | some mo =>
    rw [q] at e
    have ok := g.ok n a mo ha q
    cases mo with
    | lst xs =>
      cases e
      obtain ⟨f, vs, h, r⟩ := ok
      have hd : Rep G (upd F a (.lst vs)) (.ref a) (.lst xs) := .lst upd_same (r.mono (Evl.Ex.new f))
      obtain ⟨g1, u1⟩ := g.freeze ha f h hd
      exact ⟨_, g1, u1, hd⟩
    | dic xs =>
      cases e
      obtain ⟨f, vs, h, r⟩ := ok
      have hd : Rep G (upd F a (.dK vs)) (.ref a) (.dic xs) := .dic upd_same (r.mono (Evl.Ex.new f))
      obtain ⟨g1, u1⟩ := g.freeze ha f h hd
      exact ⟨_, g1, u1, hd⟩
    | frz dd =>
      cases e
      exact ⟨F, g, Up.refl, ok.2⟩
    | ins c fs =>
      cases q2 : fsD fs with
      | none => simp only [q2] at e; cases e
      | some ds =>
        simp only [q2] at e
        cases e
        obtain ⟨f, dx, fs', h, r⟩ := ok
        have hd : Rep G (upd F a (.ins (G.cl c) dx fs')) (.ref a) (.obj c ds) := .obj upd_same ((r.pure q2).mono (Evl.Ex.new f))
        obtain ⟨g1, u1⟩ := g.freeze ha f h hd
        exact ⟨_, g1, u1, hd⟩
    | scr fs => cases e
theorem toD_ok (g : Good G Z F as M H) (r : RepL G F as x v) (e : toD v M = some (.ok d, M')) : ∃ F', Good G Z F' as M' H ∧ Up F as F' as ∧ Rep G F' x d := by
  cases v with
  | d y =>
    cases e
    exact ⟨F, g, Up.refl, r⟩
  | loc n =>
    obtain ⟨a, ha, rfl⟩ := r
    exact freeze_ok g ha e
end
end TD
set_option Elab.async false
set_option linter.all false
set_option maxRecDepth 100000
set_option maxHeartbeats 2000000
/-! TD, part D: operators on data are the model's. -/
namespace TD
open PySem L2
theorem szOk_le {n : Nat} (h : szOk n = true) : n ≤ sizeLine := by
  rw [sizeLine_eq]
  exact of_decide_eq_true h
section
variable {G : GG} {F H : Hp} {x : V}
theorem Sh.int {i : Int} (h : Sh G F H x (.int i)) : x = .int i := by cases (show Rep G F x (.int i) from h); rfl
theorem Sh.bl {i : Bool} (h : Sh G F H x (.bl i)) : x = .bl i := by cases (show Rep G F x (.bl i) from h); rfl
theorem Sh.str {i : Str} (h : Sh G F H x (.str i)) : x = .str i := by cases (show Rep G F x (.str i) from h); rfl
theorem Sh.non (h : Sh G F H x .non) : x = .non := by cases (show Rep G F x .non from h); rfl
theorem Rep.tupE {xs : List D} (h : Rep G F x (.tup xs)) : ∃ a vs, x = .ref a ∧ SqT G.K F a vs ∧ Reps G F vs xs := by
  cases h with
  | tup h r => exact ⟨_, _, rfl, h, r⟩
theorem Sh.tup {xs : List D} (h : Sh G F H x (.tup xs)) : ∃ a vs, x = .ref a ∧ SqT G.K F a vs ∧ Reps G F vs xs := Rep.tupE h
theorem ShW.int {i : Int} (h : ShW G F H x (.int i)) : x = .int i := Sh.int (H := H) h
theorem ShW.str {i : Str} (h : ShW G F H x (.str i)) : x = .str i := Sh.str (H := H) h
theorem ShW.bl {i : Bool} (h : ShW G F H x (.bl i)) : x = .bl i := Sh.bl (H := H) h
theorem ShW.non (h : ShW G F H x .non) : x = .non := Sh.non (H := H) h
theorem ShW.tup {xs : List D} (h : ShW G F H x (.tup xs)) : ∃ a vs, x = .ref a ∧ SqT G.K F a vs ∧ Reps G F vs xs := Sh.tup (H := H) h
end
/-! ### reading -/
section
variable {G : GG} {X : Cx} {pins : List (Addr × Obj)} {σ : St} {F H : Hp} {s : Shared}
mutual
theorem Rep.reads (hk : X.K = G.K) (ex : Ex F H) (I : Inv X pins σ H s) : ∀ (n : Nat) (d : D) (v : V) (u : Value), flat n d = true → Rep G F v d → RelV v u → ∃ as, Reads s.heap u (py d) as
  | _, .non, _, _, _, h, r => by cases h; cases r; exact ⟨_, Reads.none⟩
  | _, .bl b, _, _, _, h, r => by cases h; cases r; exact ⟨_, Reads.bool b⟩
  | _, .int i, _, _, _, h, r => by cases h; obtain ⟨t, rfl⟩ := r; exact ⟨_, Reads.int i t⟩
  | _, .str i, _, _, _, h, r => by cases h; obtain ⟨t, rfl⟩ := r; exact ⟨_, Reads.str i t⟩
  | 0, .tup xs, _, _, f, _, _ => by unfold flat at f; cases f
  | 0, .lst xs, _, _, f, _, _ => by unfold flat at f; cases f
  | n + 1, .tup ds, _, _, f, h, r => by
    unfold flat at f
    cases h with
    | tup hs ha =>
      cases r
      obtain ⟨its, rv, ⟨o, ho, hc, n, hd⟩, _⟩ := I.tuple (by rw [hk]; exact Evl.ex_t ex hs)
      obtain ⟨as, hr⟩ := Reps.reads hk ex I _ ds _ its f ha rv
      exact ⟨_, Reads.tuple ho hc hd hr⟩
  | n + 1, .lst ds, _, _, f, h, r => by
    unfold flat at f
    cases h with
    | lst hs ha =>
      cases r
      obtain ⟨its, rv, ⟨o, n, ho, hc, _, hd⟩, _⟩ := I.list (.inl (.inl (ex _ _ hs)))
      obtain ⟨as, hr⟩ := Reps.reads hk ex I _ ds _ its f ha rv
      exact ⟨_, Reads.list ho hc hd hr⟩
  | _, .dic _, _, _, f, _, _ => by unfold flat at f; cases f
  | _, .obj _ _, _, _, f, _, _ => by unfold flat at f; cases f
  | _, .exc _ _, _, _, f, _, _ => by unfold flat at f; cases f
theorem Reps.reads (hk : X.K = G.K) (ex : Ex F H) (I : Inv X pins σ H s) : ∀ (n : Nat) (ds : List D) (vs : List V) (us : List Value), flats n ds = true → Reps G F vs ds → Vals vs us → ∃ as, ReadsAll s.heap us (pys ds) as
  | _, [], _, _, _, h, r => by cases h; cases r; exact ⟨_, ReadsAll.nil⟩
  | n, d :: ds, _, _, f, h, r => by
    unfold flats at f
    obtain ⟨f1, f2⟩ := Bool.and_eq_true_iff.mp f
    cases h with
    | cons h1 h2 =>
      cases r with
      | cons r1 r2 =>
        obtain ⟨as, q1⟩ := Rep.reads hk ex I n d _ _ f1 h1 r1
        obtain ⟨bs, q2⟩ := Reps.reads hk ex I n ds _ _ f2 h2 r2
        exact ⟨_, ReadsAll.cons q1 q2⟩
end
theorem ShW.reads (hk : X.K = G.K) (ex : Ex F H) (I : Inv X pins σ H s) {n : Nat} {d : D} {v : V} {u : Value} (f : flat n d = true) (h : ShW G F H v d) (r : RelV v u) : ∃ as, Reads s.heap u (py d) as := by
  cases d with
  | lst ds =>
    obtain ⟨a, vs, rfl, hr, rs⟩ := h
    cases n with
    | zero => unfold flat at f; cases f
    | succ n =>
      unfold flat at f
      cases r
      obtain ⟨its, rv, ⟨o, k, ho, hc, _, hd⟩, _⟩ := I.list (.inl hr)
      obtain ⟨as, hr⟩ := Reps.reads hk ex I _ ds _ its f rs rv
      exact ⟨_, Reads.list ho hc hd hr⟩
  | dic _ => unfold flat at f; cases f
  | obj _ _ => unfold flat at f; cases f
  | exc _ _ => unfold flat at f; cases f
  | non => exact Rep.reads hk ex I n _ v u f h r
  | bl _ => exact Rep.reads hk ex I n _ v u f h r
  | int _ => exact Rep.reads hk ex I n _ v u f h r
  | str _ => exact Rep.reads hk ex I n _ v u f h r
  | tup _ => exact Rep.reads hk ex I n _ v u f h r
end
/-! ### operators -/
def rV2 (G : GG) (f : Vl → Vl → EM Vl) : R2 := fun x y H Q => ∃ E Z F as a b M, Good G Z F as M H ∧ RepL G F as x a ∧ RepL G F as y b ∧ Out G Z F as (RepL G) Q E (f a b M)
def rV1 (G : GG) (f : Vl → EM Vl) : V → Hp → VK → Prop := fun x H Q => ∃ E Z F as a M, Good G Z F as M H ∧ RepL G F as x a ∧ Out G Z F as (RepL G) Q E (f a M)
def rVs (G : GG) (f : List Vl → EM Vl) : List V → Hp → VK → Prop := fun xs H Q => ∃ E Z F as vs M, Good G Z F as M H ∧ RepLs G F as xs vs ∧ Out G Z F as (RepL G) Q E (f vs M)
section
variable {G : GG} {X : Cx}
/-- both operands read -/
theorem two_peeks {F H : Hp} {as : List Addr} {M : Mem} {x y : V} {a b : Vl} {Q : VK} {E : XK} {f : D → D → EM Vl} (g : Good G Z F as M H) (ra : RepL G F as x a) (rb : RepL G F as y b)
    (o : Out G Z F as (RepL G) Q E (EM.bind (peek a) (fun dx => EM.bind (peek b) fun dy => f dx dy) M)) : ∃ dx dy, Sh G F H x dx ∧ Sh G F H y dy ∧ Out G Z F as (RepL G) Q E (f dx dy M) := by
  obtain ⟨dx, M1, e1, o1⟩ := o.got fun _ _ => peek_nx
  obtain ⟨q1, s1⟩ := peek_ok g ra e1
  rw [q1] at o1
  obtain ⟨dy, M2, e2, o2⟩ := o1.got fun _ _ => peek_nx
  obtain ⟨q2, s2⟩ := peek_ok g rb e2
  rw [q2] at o2
  exact ⟨dx, dy, s1, s2, o2⟩
theorem two_peeksW {F H : Hp} {as : List Addr} {M : Mem} {x y : V} {a b : Vl} {Q : VK} {E : XK} {f : D → D → EM Vl} (g : Good G Z F as M H) (ra : RepL G F as x a) (rb : RepL G F as y b)
    (o : Out G Z F as (RepL G) Q E (EM.bind (peekW a) (fun dx => EM.bind (peekW b) fun dy => f dx dy) M)) : ∃ dx dy, ShW G F H x dx ∧ ShW G F H y dy ∧ Out G Z F as (RepL G) Q E (f dx dy M) := by
  obtain ⟨dx, M1, e1, o1⟩ := o.got fun _ _ => peekW_nx
  obtain ⟨q1, s1⟩ := peekW_ok g ra e1
  rw [q1] at o1
  obtain ⟨dy, M2, e2, o2⟩ := o1.got fun _ _ => peekW_nx
  obtain ⟨q2, s2⟩ := peekW_ok g rb e2
  rw [q2] at o2
  exact ⟨dx, dy, s1, s2, o2⟩
/-- a text times an int -/
theorem mul_text (x : Str) (n : Int) (h0 : 0 ≤ n) : (if n < 1 then Str.empty else if (n == 1 || x.length == 0) = true then x else ⟨(List.replicate n.toNat x.cps).foldl (· ++ ·) #[]⟩) = (⟨(List.replicate n.toNat x.cps.toList).flatten.toArray⟩ : Str) := by
  have f0 : ∀ (m : Nat) (acc : Array Nat), (List.replicate m x.cps).foldl (· ++ ·) acc = acc ++ (List.replicate m x.cps.toList).flatten.toArray := by
    intro m
    induction m with
    | zero => intro acc; simp
    | succ m ih =>
      intro acc
      rw [List.replicate_succ, List.foldl_cons, ih, List.replicate_succ, List.flatten_cons]
      apply Array.ext'
      simp [List.append_assoc]
  by_cases h1 : n < 1
  · have : n = 0 := by omega
    subst this
    rw [if_pos h1]
    rfl
  · rw [if_neg h1]
    by_cases h2 : (n == 1 || x.length == 0) = true
    · rw [if_pos h2]
      rcases Bool.or_eq_true_iff.mp h2 with h3 | h3
      · have : n = 1 := by simpa using h3
        subst this
        cases x
        simp
      · have h4 : x.cps.toList = [] := by
          have : x.length = 0 := by simpa using h3
          have h5 : x.cps.size = 0 := this
          exact List.eq_nil_of_length_eq_zero (by rw [Array.length_toList]; exact h5)
        rw [h4]
        have h6 : ∀ m : Nat, (List.replicate m ([] : List Nat)).flatten = [] := fun m => by simp
        rw [h6]
        cases x with
        | mk cps =>
          have : cps = #[] := by
            apply Array.ext'
            simpa using h4
          subst this
          rfl
    · rw [if_neg h2, f0]
      simp
theorem op_bin {op : Operator} (hk : X.K = G.K) : OpR X (binaryOp op) (rV2 G (opB op)) := by
  intro pins s σ H x y v u Q I rx ry h
  obtain ⟨E, Z, F, as, a, b, M, g, ra, rb, o⟩ := h
  obtain ⟨dx, dy, s1, s2, o1⟩ := two_peeks (f := fun dx dy => EM.o ((binD op dx dy).map .d)) g ra rb o
  obtain ⟨z, ez, q⟩ := o1.o
  obtain ⟨d, ed, rfl⟩ := Option.map_eq_some_iff.mp ez
  have qd : ∀ {w : V}, Rep G F w d → Q w H := fun {w} r => q w F as H Up.refl g r
  have ql : ∀ {vs : List V} {ds : List D}, d = .lst ds → Reps G F vs ds → ∀ p, H p = none → Q (.ref p) (upd H p (.lst vs)) := fun {vs ds} e r p hp => by
    subst e
    obtain ⟨g1, u1⟩ := g.lay (o := .lst vs) hp
    exact q _ _ _ _ u1 g1 (Rep.lst upd_same (r.mono u1.ex))
  have qt : ∀ {vs : List V} {ds : List D}, d = .tup ds → Reps G F vs ds → ∀ p, H p = none → Q (.ref p) (upd H p (.tup vs)) := fun {vs ds} e r p hp => by
    subst e
    obtain ⟨g1, u1⟩ := g.lay (o := .tup vs) hp
    exact q _ _ _ _ u1 g1 (Rep.tup (.inl (.inl upd_same)) (r.mono u1.ex))
  unfold binD at ed
  split at ed
  · cases s1.int; cases s2.int; cases ed
    exact op_add pins s σ H _ _ v u Q I rx ry ⟨_, _, rfl, rfl, qd (.int _)⟩
  · cases s1.str; cases s2.str
    split at ed
    · rename_i hz
      cases ed
      exact op_add_str pins s σ H _ _ v u Q I rx ry ⟨_, _, rfl, rfl, szOk_le hz, qd (.str _)⟩
    · cases ed
  · split at ed
    · rename_i xs ys hz
      cases ed
      obtain ⟨a1, vs, rfl, t1, r1⟩ := s1.tup
      obtain ⟨a2, ws, rfl, t2, r2⟩ := s2.tup
      have l1 := r1.length
      have l2 := r2.length
      refine op_catA pins s σ H _ _ v u Q I rx ry ⟨a1, a2, vs, ws, rfl, rfl, by rw [hk]; exact Evl.ex_t g.sub t1, by rw [hk]; exact Evl.ex_t g.sub t2, by rw [l1, l2]; exact szOk_le hz, fun e => ?_, fun e1 e2 => ?_, fun _ _ => qt rfl (r1.append r2)⟩
      · subst e
        cases r1
        exact qd (.tup t2 r2)
      · subst e2
        cases r2
        exact qd (by rw [List.append_nil]; exact .tup t1 r1)
    · cases ed
  · split at ed
    · rename_i xs ys hz
      cases ed
      obtain ⟨a1, vs, rfl, t1, r1⟩ := s1
      obtain ⟨a2, ws, rfl, t2, r2⟩ := s2
      exact op_cat pins s σ H _ _ v u Q I rx ry ⟨a1, a2, vs, ws, rfl, rfl, t1, t2, by rw [r1.length, r2.length]; exact szOk_le hz, ql rfl (r1.append r2)⟩
    · cases ed
  · cases s1.int; cases s2.int; cases ed
    exact op_sub pins s σ H _ _ v u Q I rx ry ⟨_, _, rfl, rfl, qd (.int _)⟩
  · cases s1.int; cases s2.int
    split at ed
    · rename_i hz
      cases ed
      refine op_mul pins s σ H _ _ v u Q I rx ry ⟨_, _, rfl, rfl, ?_, qd (.int _)⟩
      unfold mulOk at hz
      rcases Bool.or_eq_true_iff.mp hz with h1 | h1
      · obtain ⟨h2, h3⟩ := Bool.and_eq_true_iff.mp h1
        exact .inl ⟨of_decide_eq_true h2, of_decide_eq_true h3⟩
      · obtain ⟨h2, h3⟩ := Bool.and_eq_true_iff.mp h1
        exact .inr ⟨of_decide_eq_true h2, of_decide_eq_true h3⟩
    · cases ed
  · cases s2.int
    split at ed
    · rename_i xs j hz
      cases ed
      obtain ⟨h12, h3⟩ := Bool.and_eq_true_iff.mp hz
      obtain ⟨h1, h2⟩ := Bool.and_eq_true_iff.mp h12
      have h1 := of_decide_eq_true h1
      have h2 := of_decide_eq_true h2
      obtain ⟨a1, vs, rfl, t1, r1⟩ := s1
      have rr : ∀ m : Nat, Reps G F (List.replicate m vs).flatten (List.replicate m xs).flatten := by
        intro m
        induction m with
        | zero => exact .nil
        | succ m ih =>
          rw [List.replicate_succ, List.replicate_succ, List.flatten_cons, List.flatten_cons]
          exact r1.append ih
      exact op_rep pins s σ H _ _ v u Q I rx ry ⟨a1, j, vs, rfl, rfl, t1, by omega, by omega, by rw [r1.length]; exact szOk_le h3, ql rfl (rr _)⟩
    · cases ed
  · cases s1.str; cases s2.int
    split at ed
    · rename_i xs j hz
      cases ed
      obtain ⟨h12, h3⟩ := Bool.and_eq_true_iff.mp hz
      obtain ⟨h1, h2⟩ := Bool.and_eq_true_iff.mp h12
      have h1 := of_decide_eq_true h1
      have h2 := of_decide_eq_true h2
      have h3 := of_decide_eq_true h3
      obtain ⟨t, rfl⟩ := rx
      obtain ⟨t', rfl⟩ := ry
      have em := mul_text xs j h1
      have qs : Q (.str (⟨(List.replicate j.toNat xs.cps.toList).flatten.toArray⟩ : Str)) H := qd (.str _)
      have hprod : xs.length * j.toNat ≤ 1000 * 1000 := Nat.mul_le_mul h3 (by omega)
      refine PySem.P.mul_str (by rw [decide_eq_false (by omega), decide_eq_false (by omega)]; rfl) (fun n1 _ => ?_) (fun n1 _ => ?_) ?_
      · have : (2 ^ 63 - 1) / j ≥ 1000 := by
          have h4 : (1000 : Int) * j ≤ 2 ^ 63 - 1 := by omega
          exact (Int.le_ediv_iff_mul_le (by omega)).mpr h4
        omega
      · unfold Builtin.Str.tooLong
        exact decide_eq_false (by rw [sizeLine_eq]; omega)
      · by_cases n1 : j < 1
        · rw [if_pos n1] at em ⊢
          exact ⟨by decide, ⟨.str _, H, I.tok _, ⟨_, rfl⟩, by rw [em]; exact qs⟩⟩
        · rw [if_neg n1] at em ⊢
          by_cases n2 : (j == 1 || xs.length == 0) = true
          · rw [if_pos n2] at em ⊢
            exact ⟨.str xs, H, I, ⟨t, rfl⟩, by rw [em]; exact qs⟩
          · rw [if_neg n2] at em ⊢
            refine ⟨?_, ⟨.str _, H, I.tok _, ⟨_, rfl⟩, by rw [em]; exact qs⟩⟩
            rw [em]
            show (List.replicate j.toNat xs.cps.toList).flatten.toArray.size ≤ sizeLine
            rw [List.size_toArray, PyProof.Rows.lm_len_rep_flat, sizeLine_eq]
            have : xs.cps.toList.length = xs.length := rfl
            rw [this, Nat.mul_comm]
            omega
    · cases ed
  · cases s1.int; cases s2.int
    split at ed
    · rename_i i j hz
      cases ed
      obtain ⟨h1, h2⟩ := Bool.and_eq_true_iff.mp hz
      have h1 := of_decide_eq_true h1
      have h2 := of_decide_eq_true h2
      refine op_fdivW pins s σ H _ _ v u Q I rx ry ⟨_, _, rfl, rfl, ⟨h1, ?_⟩, qd (.int _)⟩
      have h4 : j.natAbs < 2 ^ 1000 := by omega
      have h5 : j.natAbs ≠ 0 := by omega
      exact Nat.lt_trans ((Nat.log2_lt h5).mpr h4) (by decide)
    · cases ed
  · cases s1.int; cases s2.int
    split at ed
    · rename_i i j hz
      cases ed
      exact op_mod pins s σ H _ _ v u Q I rx ry ⟨_, _, rfl, rfl, of_decide_eq_true hz, qd (.int _)⟩
    · cases ed
  · cases s1.int; cases s2.int
    split at ed
    · rename_i i j hz
      cases ed
      obtain ⟨h123, h4⟩ := Bool.and_eq_true_iff.mp hz
      obtain ⟨h12, h3⟩ := Bool.and_eq_true_iff.mp h123
      obtain ⟨h1, h2⟩ := Bool.and_eq_true_iff.mp h12
      have h1 := of_decide_eq_true h1
      have h2 := of_decide_eq_true h2
      have h3 := of_decide_eq_true h3
      have h4 := of_decide_eq_true h4
      exact op_pow pins s σ H _ _ v u Q I rx ry ⟨_, _, rfl, rfl, ⟨h1, by omega, by omega⟩, qd (.int _)⟩
    · cases ed
  · cases ed
theorem op_neg : UnR X (unaryOp .USub) (rV1 G opN) := by
  intro pins s σ H x v Q I rx h
  obtain ⟨E, Z, F, as, a, M, g, ra, o⟩ := h
  obtain ⟨dx, M1, e1, o1⟩ := o.got fun _ _ => peek_nx
  obtain ⟨q1, s1⟩ := peek_ok g ra e1
  rw [q1] at o1
  obtain ⟨z, ez, q⟩ := o1.o
  obtain ⟨d, ed, rfl⟩ := Option.map_eq_some_iff.mp ez
  unfold negD at ed
  split at ed
  · cases s1.int
    cases ed
    exact un_neg pins s σ H _ v Q I rx ⟨_, rfl, q _ F as H Up.refl g (Rep.int _)⟩
  · cases ed
theorem any_pys (n m : Nat) (x : D) (hx : flat m x = true) : ∀ ys : List D, flats n ys = true → ((pys ys).any fun y => PyData.eqv y (py x)) = anyEq x ys
  | [], _ => rfl
  | y :: ys, h => by
    unfold flats at h
    obtain ⟨f1, f2⟩ := Bool.and_eq_true_iff.mp h
    show (PyData.eqv (py y) (py x) || (pys ys).any fun y => PyData.eqv y (py x)) = (eqD y x || anyEq x ys)
    rw [any_pys n m x hx ys f2, eqv_py n m y x f1 hx]
theorem flats_of : ∀ ys : List D, allOk ys = true → flats 20 ys = true
  | [], _ => rfl
  | y :: ys, h => by
    unfold allOk at h
    obtain ⟨f1, f2⟩ := Bool.and_eq_true_iff.mp h
    unfold flats
    rw [show flat 20 y = true from f1, flats_of ys f2]
    rfl
/-- x in y, x not in y over data -/
theorem in_data {pins : List (Addr × Obj)} {s : Shared} {σ : St} {F H : Hp} {x y : V} {v u : Value} {dx dy : D} {k : Bool} (hk : X.K = G.K) (hu : X.A.units + 64 < cLine) (ex : Ex F H) (I : Inv X pins σ H s) (rx : RelV x v) (ry : RelV y u)
    (s1 : ShW G F H x dx) (s2 : ShW G F H y dy) (e : inD dx dy = some k) {Q : VK} :
    (Q (.bl k) H → wpAny (model X.prog X.w) X.A (compareOp .In v u) (EP X pins σ Q) X.xe s) ∧ (Q (.bl (!k)) H → wpAny (model X.prog X.w) X.A (compareOp .NotIn v u) (EP X pins σ Q) X.xe s) := by
  unfold inD at e
  split at e
  · rename_i ys
    split at e
    · rename_i ok
      cases e
      obtain ⟨o1, o2⟩ := Bool.and_eq_true_iff.mp ok
      have f2 := flats_of ys o2
      obtain ⟨as1, r1⟩ := ShW.reads hk ex I o1 s1 rx
      obtain ⟨as2, r2⟩ := ShW.reads (n := 21) (d := .tup ys) hk ex I (by unfold flat; exact f2) s2 ry
      have h1 := depth_py 20 dx o1
      have hz : X.A.units + 1 + min (PyData.depthAll (pys ys)) (py dx).depth < cLine := by
        have := Nat.min_le_right (PyData.depthAll (pys ys)) (py dx).depth
        omega
      have e1 := any_pys 20 20 dx o1 ys f2
      exact ⟨fun q => SeqAt.in_tuple_data r2 r1 (plains_py 20 ys f2) (plain_py 20 dx o1) hz ⟨.bl _, H, I, rfl, by rw [e1]; exact q⟩,
        fun q => SeqAt.notIn_tuple_data r2 r1 (plains_py 20 ys f2) (plain_py 20 dx o1) hz ⟨.bl _, H, I, rfl, by rw [e1]; exact q⟩⟩
    · cases e
  · rename_i ys
    split at e
    · rename_i ok
      cases e
      obtain ⟨o1, o2⟩ := Bool.and_eq_true_iff.mp ok
      have f2 := flats_of ys o2
      obtain ⟨as1, r1⟩ := ShW.reads hk ex I o1 s1 rx
      obtain ⟨as2, r2⟩ := ShW.reads (n := 21) (d := .lst ys) hk ex I (by unfold flat; exact f2) s2 ry
      have h1 := depth_py 20 dx o1
      have hz : X.A.units + 1 + min (PyData.depthAll (pys ys)) (py dx).depth < cLine := by
        have := Nat.min_le_right (PyData.depthAll (pys ys)) (py dx).depth
        omega
      have e1 := any_pys 20 20 dx o1 ys f2
      exact ⟨fun q => SeqAt.in_list_data r2 r1 (plains_py 20 ys f2) (plain_py 20 dx o1) hz ⟨.bl _, H, I, rfl, by rw [e1]; exact q⟩,
        fun q => SeqAt.notIn_list_data r2 r1 (plains_py 20 ys f2) (plain_py 20 dx o1) hz ⟨.bl _, H, I, rfl, by rw [e1]; exact q⟩⟩
    · cases e
  · rename_i z
    split at e
    · rename_i w
      split at e
      · rename_i c hc
        cases e
        cases s1.str
        cases s2.str
        have ew : w = ⟨#[c]⟩ := by
          cases w with
          | mk cps =>
            have : cps = #[c] := by
              apply Array.ext'
              simpa using hc
            rw [this]
        subst ew
        exact ⟨fun q => op_in_sign pins s σ H _ _ v u Q I rx ry ⟨c, z, rfl, rfl, q⟩, fun q => op_notIn_sign pins s σ H _ _ v u Q I rx ry ⟨c, z, rfl, rfl, q⟩⟩
      · cases e
    · cases e
  · cases e
theorem op_cmp {op : CmpOp} (hk : X.K = G.K) (hu : X.A.units + 64 < cLine) : OpR X (compareOp op) (rV2 G (opC op)) := by
  intro pins s σ H x y v u Q I rx ry h
  obtain ⟨E, Z, F, as, a, b, M, g, ra, rb, o⟩ := h
  obtain ⟨dx, dy, s1, s2, o1⟩ := two_peeksW (f := fun dx dy => EM.o ((cmpD op dx dy).map fun b => .d (.bl b))) g ra rb o
  obtain ⟨z, ez, q⟩ := o1.o
  obtain ⟨k, ed, rfl⟩ := Option.map_eq_some_iff.mp ez
  have qd : Q (.bl k) H := q _ F as H Up.refl g (Rep.bl k)
  have ed2 : cmpD op dx dy = some k := ed
  unfold cmpD at ed2
  split at ed2
  · split at ed2
    · rename_i ok
      cases ed2
      obtain ⟨o1, o2⟩ := Bool.and_eq_true_iff.mp ok
      obtain ⟨as1, r1⟩ := ShW.reads hk g.sub I o1 s1 rx
      obtain ⟨as2, r2⟩ := ShW.reads hk g.sub I o2 s2 ry
      have h1 := depth_py 20 dx o1
      refine SeqAt.eq_plain r1 r2 (plain_py 20 dx o1) (plain_py 20 dy o2) (by have := Nat.min_le_left (py dx).depth (py dy).depth; omega) ⟨.bl _, H, I, rfl, ?_⟩
      rw [eqv_py 20 20 dx dy o1 o2]
      exact qd
    · cases ed2
  · split at ed2
    · rename_i ok
      cases ed2
      obtain ⟨o1, o2⟩ := Bool.and_eq_true_iff.mp ok
      obtain ⟨as1, r1⟩ := ShW.reads hk g.sub I o1 s1 rx
      obtain ⟨as2, r2⟩ := ShW.reads hk g.sub I o2 s2 ry
      have h1 := depth_py 20 dx o1
      refine SeqAt.ne_plain r1 r2 (plain_py 20 dx o1) (plain_py 20 dy o2) (by have := Nat.min_le_left (py dx).depth (py dy).depth; omega) ⟨.bl _, H, I, rfl, ?_⟩
      rw [eqv_py 20 20 dx dy o1 o2]
      exact qd
    · cases ed2
  · cases s1.int; cases s2.int; cases ed2
    exact op_lt pins s σ H _ _ v u Q I rx ry ⟨_, _, rfl, rfl, qd⟩
  · cases s1.int; cases s2.int; cases ed2
    exact op_le pins s σ H _ _ v u Q I rx ry ⟨_, _, rfl, rfl, qd⟩
  · cases s1.int; cases s2.int; cases ed2
    exact op_gt pins s σ H _ _ v u Q I rx ry ⟨_, _, rfl, rfl, qd⟩
  · cases s1.int; cases s2.int; cases ed2
    exact op_ge pins s σ H _ _ v u Q I rx ry ⟨_, _, rfl, rfl, qd⟩
  · cases s1.str; cases s2.str; cases ed2
    exact op_lt_str pins s σ H _ _ v u Q I rx ry ⟨_, _, rfl, rfl, qd⟩
  · cases s2.non; cases ed2
    refine op_isN pins s σ H _ _ v u Q I rx ry ⟨rfl, ?_⟩
    cases dx with
    | non => cases s1.non; exact qd
    | lst xs => obtain ⟨a, vs, rfl, _⟩ := s1; exact qd
    | dic xs => obtain ⟨a, vs, rfl, _⟩ := s1; exact qd
    | _ => cases (show Rep G F x _ from s1); exact qd
  · cases s2.non; cases ed2
    refine op_notN pins s σ H _ _ v u Q I rx ry ⟨rfl, ?_⟩
    cases dx with
    | non => cases s1.non; exact qd
    | lst xs => obtain ⟨a, vs, rfl, _⟩ := s1; exact qd
    | dic xs => obtain ⟨a, vs, rfl, _⟩ := s1; exact qd
    | _ => cases (show Rep G F x _ from s1); exact qd
  · exact (in_data hk hu g.sub I rx ry s1 s2 ed2).1 qd
  · obtain ⟨k0, e0, rfl⟩ := Option.map_eq_some_iff.mp ed2
    exact (in_data hk hu g.sub I rx ry s1 s2 e0).2 qd
  · cases ed2
end
end TD
set_option Elab.async false
set_option linter.all false
set_option maxRecDepth 100000
set_option maxHeartbeats 2000000
/-! TD, part E: an expression of the text does what its code computes. -/
namespace TD
open PySem L2
/-- where code stands -/
structure Kx where
  X : Cx
  W : WX
  G : GG
  P : Prg
  n : Nat
  hx : Hx
abbrev Kx.cl (κ : Kx) : Cl := callN κ.P κ.n
abbrev Kx.rE (κ : Kx) (c : CE) : L2.St → Hp → VK → Prop := tM κ.G κ.hx κ.W (RepL κ.G) (runE κ.P.T κ.P.rp κ.cl c)
def JE (κ : Kx) (e : Expr) (c : CE) : Prop := PE κ.X e (tM κ.G κ.hx κ.W (RepL κ.G) (runE κ.P.T κ.P.rp κ.cl c))
def JA (κ : Kx) (es : List Expr) (c : CL) : Prop := PA κ.X es (tM κ.G κ.hx κ.W (RepLs κ.G) (runL κ.P.T κ.P.rp κ.cl c))
def JO (κ : Kx) (e : Option Expr) (c : CO) : Prop := PO κ.X e (tM κ.G κ.hx κ.W rO (runO κ.P.T κ.P.rp κ.cl c))
def JT (κ : Kx) (e : Expr) (c : CT) : Prop := PT κ.X e (tM κ.G κ.hx κ.W rB (runT κ.P.T κ.P.rp κ.cl c))
def JW (κ : Kx) (e : Expr) (c : CT) : Prop := PW κ.X e (tM κ.G κ.hx κ.W rB (runT κ.P.T κ.P.rp κ.cl c))
def JTs (κ : Kx) (es : List Expr) (c : CTs) : Prop := PTs κ.X es (tM κ.G κ.hx κ.W rB (runTs κ.P.T κ.P.rp κ.cl c))
/-- what every place has -/
structure Ok0 (κ : Kx) : Prop where
  k : κ.X.K = κ.G.K
  u : κ.X.A.units + 64 < cLine
  gd : κ.X.A.guards = some []
theorem PE.weak {X : Cx} {e : Expr} {t t' : TE} (h : PE X e t) (f : ∀ σ H Q, t' σ H Q → t σ H Q) : PE X e t' := ⟨fun pins s σ H Q I q => h.run pins s σ H Q I (f σ H Q q)⟩
theorem PA.weak {X : Cx} {e : List Expr} {t t' : TA} (h : PA X e t) (f : ∀ σ H Q, t' σ H Q → t σ H Q) : PA X e t' := ⟨fun pos pins s σ H Q I q => h.run pos pins s σ H Q I (f σ H Q q)⟩
theorem PT.weak {X : Cx} {e : Expr} {t t' : TT} (h : PT X e t) (f : ∀ σ H Q, t' σ H Q → t σ H Q) : PT X e t' := ⟨fun pins s σ H Q I q => h.run pins s σ H Q I (f σ H Q q)⟩
theorem PW.weak {X : Cx} {e : Expr} {t t' : TT} (h : PW X e t) (f : ∀ σ H Q, t' σ H Q → t σ H Q) : PW X e t' := ⟨fun wh pins s σ H Q I q => h.run wh pins s σ H Q I (f σ H Q q)⟩
theorem PO.weak {X : Cx} {e : Option Expr} {t t' : TO} (h : PO X e t) (f : ∀ σ H Q, t' σ H Q → t σ H Q) : PO X e t' := ⟨fun pins s σ H Q I q => h.run pins s σ H Q I (f σ H Q q)⟩
section
variable {κ : Kx} {a b c e : Expr} {ca cb cc ce : CE} {es : List Expr} {cs : CL} {pos : Pos}
/-- the pieces of a bind, at a reading -/
theorem tM_bind {G : GG} {hx : Hx} {W : WX} {α β γ δ : Type} {R : Hp → List Addr → β → α → Prop} {S : Hp → List Addr → δ → γ → Prop} {m : Env → EM α} {k : α → Env → EM γ} {σ : L2.St} {H : Hp} {T : δ → Hp → Prop} {Q : β → Hp → Prop}
    (h : tM G hx W S (fun e => EM.bind (m e) fun x => k x e) σ H T)
    (f : ∀ b Z F as e M H' a, EnvR G hx F as σ e → Good G Z F as M H' → R F as b a → Out G Z F as S T (fun c d H' => W c d σ H') (k a e M) → Q b H') : tM G hx W R m σ H Q := by
  obtain ⟨Z, F, as, e, M, re, g, o⟩ := h
  exact ⟨Z, F, as, e, M, re, g, o.bind fun b F1 as1 H1 a M1 _ u1 g1 r1 o1 => f b Z F1 as1 e M1 H1 a (re.mono u1) g1 r1 o1⟩
theorem je_var {i : Nat} {x : Str} (hN : κ.X.N[i]? = some x) (hv : Vis κ.X.env.scope x) (hd : (x == ("__debug__" : Str)) = false := by decide) (hcd : (x == ("__classdict__" : Str)) = false := by decide) : JE κ (.Name x pos) (.var i) := by
  refine PE.weak (pe_var hN hv hd hcd) fun σ H Q h => ?_
  obtain ⟨Z, F, as, e, M, re, g, o⟩ := h
  have o1 : Out κ.G Z F as (RepL κ.G) Q (fun c d H' => κ.W c d σ H') (getV e i M) := o
  unfold getV at o1
  split at o1
  · rename_i v hv
    obtain ⟨x, hx, r⟩ := re.at_ i v hv
    exact ⟨x, hx, o1 x F as H Up.refl g r⟩
  · exact o1.elim
theorem je_con {X : Cx} {d : D} {v : V} (h : PE κ.X e (tC v)) (r : ∀ F, Rep κ.G F v d) : JE κ e (.con d) := by
  refine PE.weak h fun σ H Q h => ?_
  obtain ⟨Z, F, as, e, M, re, g, o⟩ := h
  exact o v F as H Up.refl g (r F)
theorem je_int {i : Int} {j : Nat} : JE κ (.Constant (.int i) j pos) (.con (.int i)) := je_con (X := κ.X) pe_int fun _ => .int i
theorem je_bl {i : Bool} {j : Nat} : JE κ (.Constant (.bool i) j pos) (.con (.bl i)) := je_con (X := κ.X) pe_bl fun _ => .bl i
theorem je_str {i : Str} {j : Nat} : JE κ (.Constant (.str i) j pos) (.con (.str i)) := je_con (X := κ.X) pe_str fun _ => .str i
theorem je_non {j : Nat} : JE κ (.Constant .none j pos) (.con .non) := je_con (X := κ.X) pe_non fun _ => .non
/-- a constant of the module -/
structure Con (κ : Kx) (x : Str) (d : D) : Prop where
  ex : ∃ v u, κ.X.mg x = some u ∧ RelV v u ∧ ∀ F, Rep κ.G F v d
theorem je_glb {x : Str} {d : D} (h : Con κ x d) (hg : Gl κ.X x) (hd : (x == ("__debug__" : Str)) = false := by decide) : JE κ (.Name x pos) (.glb d) := by
  obtain ⟨v, u, hm, r, rd⟩ := h.ex
  refine PE.weak (pe_glob hg hm r hd) fun σ H Q h => ?_
  obtain ⟨Z, F, as, e, M, re, g, o⟩ := h
  exact o v F as H Up.refl g (rd F)
theorem je_bin {op : Operator} (h : Ok0 κ) (ha : JE κ a ca) (hb : JE κ b cb) : JE κ (.BinOp a op b pos) (.bin op ca cb) :=
  PE.weak (pe_op (op_bin h.k) ha hb) fun σ H Q t => tM_bind (k := fun x e => EM.bind (runE κ.P.T κ.P.rp κ.cl cb e) fun y => opB op x y) t fun x Z F as e M H1 va re g ra o => ⟨Z, F, as, e, M, re, g, o.bind fun y F2 as2 H2 vb M2 _ u2 g2 rb o2 => ⟨_, Z, F2, as2, va, vb, M2, g2, ra.mono u2, rb, o2⟩⟩
theorem je_neg (h : Ok0 κ) (ha : JE κ a ca) : JE κ (.UnaryOp .USub a pos) (.neg ca) :=
  PE.weak (pe_un (op_neg (G := κ.G)) ha) fun σ H Q t => tM_bind (k := fun x e => opN x) t fun x Z F as e M H1 va re g ra o => ⟨_, Z, F, as, va, M, g, ra, o⟩
theorem w_cmp {op : CmpOp} {σ : L2.St} {H : Hp} {Q : VK} (t : tM κ.G κ.hx κ.W (RepL κ.G) (runE κ.P.T κ.P.rp κ.cl (.cmp op ca cb)) σ H Q) : tOp (rV2 κ.G (opC op)) (κ.rE ca) (κ.rE cb) σ H Q :=
  tM_bind (k := fun x e => EM.bind (runE κ.P.T κ.P.rp κ.cl cb e) fun y => opC op x y) t fun x Z F as e M H1 va re g ra o => ⟨Z, F, as, e, M, re, g, o.bind fun y F2 as2 H2 vb M2 _ u2 g2 rb o2 => ⟨_, Z, F2, as2, va, vb, M2, g2, ra.mono u2, rb, o2⟩⟩
theorem je_cmp {op : CmpOp} (h : Ok0 κ) (ha : JE κ a ca) (hb : JE κ b cb) (hm : behindInMarks op b = false := by rfl) : JE κ (.Compare a [op] [b] pos) (.cmp op ca cb) :=
  PE.weak (pe_cmpR (op_cmp h.k h.u) ha hb hm) fun σ H Q t => w_cmp t
end
end TD
set_option Elab.async false
set_option linter.all false
set_option maxRecDepth 100000
set_option maxHeartbeats 2000000
/-! TD, part F: expressions, further. -/
namespace TD
open PySem L2
section
variable {κ : Kx} {a b c e : Expr} {ca cb cc ce : CE} {es : List Expr} {cs : CL} {pos : Pos}
theorem Rep.blE {G : GG} {F : Hp} {x : V} {b : Bool} (r : Rep G F x (.bl b)) : x = .bl b := by cases r; rfl
theorem Rep.intE {G : GG} {F : Hp} {x : V} {b : Int} (r : Rep G F x (.int b)) : x = .int b := by cases r; rfl
theorem Rep.strE {G : GG} {F : Hp} {x : V} {b : Str} (r : Rep G F x (.str b)) : x = .str b := by cases r; rfl
theorem boolOf_ok {G : GG} {F : Hp} {as : List Addr} {x : V} {v : Vl} {M M' : Mem} {k : Bool} (r : RepL G F as x v) (e : boolOf v M = some (.ok k, M')) : x = .bl k ∧ M' = M := by
  cases v with
  | loc n => cases e
  | d d =>
    cases d with
    | bl b => cases e; exact ⟨Rep.blE r, rfl⟩
    | _ => cases e
theorem boolOf_nx {v : Vl} {M M' : Mem} {x : Xc} : boolOf v M ≠ some (.ex x, M') := by
  intro e
  cases v with
  | loc n => cases e
  | d d => cases d <;> cases e
theorem intOf_ok {G : GG} {F : Hp} {as : List Addr} {x : V} {v : Vl} {M M' : Mem} {k : Int} (r : RepL G F as x v) (e : intOf v M = some (.ok k, M')) : x = .int k ∧ M' = M := by
  cases v with
  | loc n => cases e
  | d d =>
    cases d with
    | int b => cases e; exact ⟨Rep.intE r, rfl⟩
    | _ => cases e
theorem intOf_nx {v : Vl} {M M' : Mem} {x : Xc} : intOf v M ≠ some (.ex x, M') := by
  intro e
  cases v with
  | loc n => cases e
  | d d => cases d <;> cases e
/-- a bool out of a value, then the rest -/
theorem Out.bool {G : GG} {F : Hp} {as : List Addr} {α β : Type} {R : Hp → List Addr → β → α → Prop} {Q : β → Hp → Prop} {E : XK} {M : Mem} {x : V} {v : Vl} {k : Bool → EM α} (r : RepL G F as x v) (o : Out G Z F as R Q E (EM.bind (boolOf v) k M)) :
    ∃ b, x = .bl b ∧ Out G Z F as R Q E (k b M) := by
  obtain ⟨b, M1, e1, o1⟩ := o.got fun _ _ => boolOf_nx
  obtain ⟨h1, h2⟩ := boolOf_ok r e1
  rw [h2] at o1
  exact ⟨b, h1, o1⟩
theorem Out.int {G : GG} {F : Hp} {as : List Addr} {α β : Type} {R : Hp → List Addr → β → α → Prop} {Q : β → Hp → Prop} {E : XK} {M : Mem} {x : V} {v : Vl} {k : Int → EM α} (r : RepL G F as x v) (o : Out G Z F as R Q E (EM.bind (intOf v) k M)) :
    ∃ b, x = .int b ∧ Out G Z F as R Q E (k b M) := by
  obtain ⟨b, M1, e1, o1⟩ := o.got fun _ _ => intOf_nx
  obtain ⟨h1, h2⟩ := intOf_ok r e1
  rw [h2] at o1
  exact ⟨b, h1, o1⟩
theorem w_chn {op op' : CmpOp} {σ : L2.St} {H : Hp} {Q : VK} (t : tM κ.G κ.hx κ.W (RepL κ.G) (runE κ.P.T κ.P.rp κ.cl (.chn op op' ca cb cc)) σ H Q) : tChain (rV2 κ.G (opC op)) (rV2 κ.G (opC op')) (κ.rE ca) (κ.rE cb) (κ.rE cc) σ H Q :=
  tM_bind (k := fun x e => EM.bind (runE κ.P.T κ.P.rp κ.cl cb e) fun y => EM.bind (opC op x y) fun r => EM.bind (boolOf r) fun k => if k then EM.bind (runE κ.P.T κ.P.rp κ.cl cc e) fun z => opC op' y z else EM.pure (.d (.bl false))) t
    fun x Z F as e M H1 va re g ra o => ⟨Z, F, as, e, M, re, g, o.bind fun y F2 as2 H2 vb M2 _ u2 g2 rb o2 => ⟨_, Z, F2, as2, va, vb, M2, g2, ra.mono u2, rb, o2.bind fun z F3 as3 H3 vz M3 _ u3 g3 rz o3 => by
      obtain ⟨k, hz, o4⟩ := Out.bool rz o3
      refine ⟨k, hz, ?_⟩
      cases k with
      | false => exact o4 _ _ _ _ Up.refl g3 (Rep.bl false)
      | true => exact ⟨Z, F3, as3, e, M3, (re.mono u2).mono u3, g3, Out.bind (k := fun z => opC op' vb z) o4 fun w F4 as4 H4 vw M4 _ u4 g4 rw o5 => ⟨_, Z, F4, as4, vb, vw, M4, g4, (rb.mono u3).mono u4, rw, o5⟩⟩⟩⟩
theorem je_chn {op op' : CmpOp} (h : Ok0 κ) (ha : JE κ a ca) (hb : JE κ b cb) (hc : JE κ c cc) (hm : lastMarks [op, op'] [b, c] = false := by with_unfolding_all rfl) : JE κ (.Compare a [op, op'] [b, c] pos) (.chn op op' ca cb cc) :=
  PE.weak (pe_chain (op_cmp h.k h.u) (op_cmp h.k h.u) ha hb hc hm) fun σ H Q t => w_chn t
/-- a bool value as a test -/
theorem t_tst {σ : L2.St} {H : Hp} {Q : Bool → Hp → Prop} (t : tM κ.G κ.hx κ.W rB (runT κ.P.T κ.P.rp κ.cl (.tst ca)) σ H Q) : tM κ.G κ.hx κ.W (RepL κ.G) (runE κ.P.T κ.P.rp κ.cl ca) σ H (fun x H' => ∃ k, x = .bl k ∧ Q k H') :=
  tM_bind (k := fun x e => boolOf x) t fun x Z F as e M H1 va re g ra o => by
    obtain ⟨b, hb, o1⟩ := Out.bool (k := EM.pure) ra (show Out κ.G Z F as rB Q (fun c d H' => κ.W c d σ H') (EM.bind (boolOf va) EM.pure M) by
      unfold EM.bind
      cases q : boolOf va M with
      | none => rw [q] at o; exact o
      | some r =>
        obtain ⟨r, M1⟩ := r
        rw [q] at o
        cases r <;> exact o)
    exact ⟨b, hb, o1 b F as H1 Up.refl g rfl⟩
theorem jt_chn {op op' : CmpOp} (h : Ok0 κ) (ha : JE κ a ca) (hb : JE κ b cb) (hc : JE κ c cc) (hm : lastMarks [op, op'] [b, c] = false := by with_unfolding_all rfl) : JT κ (.Compare a [op, op'] [b, c] pos) (.tst (.chn op op' ca cb cc)) :=
  PT.weak (pt_chain (op_cmp h.k h.u) (op_cmp h.k h.u) ha hb hc hm) fun σ H Q t => w_chn (t_tst t)
theorem jt_cmp {op : CmpOp} (h : Ok0 κ) (ha : JE κ a ca) (hb : JE κ b cb) (hm : behindInMarks op b = false := by rfl) : JT κ (.Compare a [op] [b] pos) (.tst (.cmp op ca cb)) :=
  PT.weak (pt_cmpR (op_cmp h.k h.u) ha hb hm) fun σ H Q t => w_cmp (t_tst t)
theorem je_one {op : BoolOp} (ha : JE κ a ca) : JE κ (.BoolOp op [a] pos) ca := pe_one ha
theorem je_and {rest : List Expr} (ha : JE κ a ca) (hb : JE κ (.BoolOp .And (b :: rest) pos) cb) : JE κ (.BoolOp .And (a :: b :: rest) pos) (.and ca cb) :=
  PE.weak (pe_and ha hb) fun σ H Q t => tM_bind (k := fun x e => EM.bind (boolOf x) fun k => if k then runE κ.P.T κ.P.rp κ.cl cb e else EM.pure (.d (.bl false))) t fun x Z F as e M H1 va re g ra o => by
    obtain ⟨k, hz, o4⟩ := Out.bool ra o
    refine ⟨k, hz, ?_⟩
    cases k with
    | false => exact o4 _ _ _ _ Up.refl g (Rep.bl false)
    | true => exact ⟨Z, F, as, e, M, re, g, o4⟩
theorem je_or {rest : List Expr} (ha : JE κ a ca) (hb : JE κ (.BoolOp .Or (b :: rest) pos) cb) : JE κ (.BoolOp .Or (a :: b :: rest) pos) (.or ca cb) :=
  PE.weak (pe_or ha hb) fun σ H Q t => tM_bind (k := fun x e => EM.bind (boolOf x) fun k => if k then EM.pure (.d (.bl true)) else runE κ.P.T κ.P.rp κ.cl cb e) t fun x Z F as e M H1 va re g ra o => by
    obtain ⟨k, hz, o4⟩ := Out.bool ra o
    refine ⟨k, hz, ?_⟩
    cases k with
    | true => exact o4 _ _ _ _ Up.refl g (Rep.bl true)
    | false => exact ⟨Z, F, as, e, M, re, g, o4⟩
theorem je_not (ha : JE κ a ca) : JE κ (.UnaryOp .Not a pos) (.not ca) :=
  PE.weak (pe_not ha) fun σ H Q t => tM_bind (R := RepL κ.G) (S := RepL κ.G) (k := fun x e => EM.bind (boolOf x) fun k => EM.pure (Vl.d (.bl (!k)))) t fun x Z F as e M H1 va re g ra o => by
    obtain ⟨k, hz, o4⟩ := Out.bool ra o
    exact ⟨k, hz, o4 _ _ _ _ Up.refl g (Rep.bl (!k))⟩
theorem je_ite {ct : CT} (hc : JT κ c ct) (ha : JE κ a ca) (hb : JE κ b cb) : JE κ (.IfExp c a b pos) (.ite ct ca cb) :=
  PE.weak (pe_ifExp hc ha hb) fun σ H Q t => tM_bind (R := rB) (k := fun k e => if k then runE κ.P.T κ.P.rp κ.cl ca e else runE κ.P.T κ.P.rp κ.cl cb e) t fun x Z F as e M H1 va re g ra o => by
    cases (show x = va from ra)
    cases x with
    | true => exact ⟨Z, F, as, e, M, re, g, o⟩
    | false => exact ⟨Z, F, as, e, M, re, g, o⟩
/-! ### tests -/
theorem truD_ok {X : Cx} {G : GG} {F H : Hp} {x : V} {d : D} {k : Bool} (hk : X.K = G.K) (ex : Ex F H) (h : Sh G F H x d) (e : truD d = some k) : TruV X.K x H k := by
  cases d with
  | non => cases h.non; cases e; rfl
  | bl b => cases h.bl; cases e; rfl
  | int i => cases h.int; cases e; rfl
  | str y =>
    cases h.str
    simp only [truD] at e
    split at e
    · rename_i hz
      cases e
      exact ⟨szOk_le hz, rfl⟩
    · cases e
  | tup xs =>
    obtain ⟨p, vs, rfl, t, r⟩ := h.tup
    cases e
    refine .inr (.inl ⟨vs, by rw [hk]; exact Evl.ex_t ex t, ?_⟩)
    have := r.length
    cases vs <;> cases xs <;> first | rfl | cases this
  | lst xs =>
    obtain ⟨p, vs, rfl, t, r⟩ := h
    cases e
    refine .inl ⟨vs, .inl (.inl t), ?_⟩
    have := r.length
    cases vs <;> cases xs <;> first | rfl | cases this
  | dic _ => cases e
  | obj _ _ => cases e
  | exc _ _ => cases e
/-- a value that is a bool, as a test -/
theorem jt_val (h : Ok0 κ) (ha : JE κ a ca) (he : ∀ whole, isTrue a κ.X.env whole = (do let v ← whole; standAt a.pos; holding [v] (truthy v)) := by intro _; rfl) : JT κ a (.val ca) :=
  PT.weak (pt_truth ha he) fun σ H Q t => tM_bind (k := fun x e => EM.bind (peek x) fun d => EM.o (truD d)) t fun x Z F as e M H1 va re g ra o => by
    obtain ⟨d, M1, e1, o1⟩ := o.got fun _ _ => peek_nx
    obtain ⟨q1, s1⟩ := peek_ok g ra e1
    rw [q1] at o1
    obtain ⟨k, ek, q⟩ := o1.o
    have hq : Q k H1 := q k F as H1 Up.refl g rfl
    exact ⟨k, truD_ok h.k g.sub s1 ek, hq⟩
theorem jt_not {ct : CT} (ha : JT κ a ct) : JT κ (.UnaryOp .Not a pos) (.not ct) :=
  PT.weak (pt_not ha) fun σ H Q t => tM_bind (R := rB) (S := rB) (k := fun k e => EM.pure (!k)) t fun x Z F as e M H1 va re g ra o => by
    cases (show x = va from ra)
    exact o _ _ _ _ Up.refl g rfl
theorem jw_and {ct cu : CT} {rest : List Expr} (ha : JT κ a ct) (hb : JW κ (.BoolOp .And (b :: rest) pos) cu) : JW κ (.BoolOp .And (a :: b :: rest) pos) (.and ct cu) :=
  PW.weak (pw_and ha hb) fun σ H Q t => tM_bind (R := rB) (S := rB) (k := fun k e => if k then runT κ.P.T κ.P.rp κ.cl cu e else EM.pure false) t fun x Z F as e M H1 va re g ra o => by
    cases (show x = va from ra)
    cases x with
    | true => exact ⟨Z, F, as, e, M, re, g, o⟩
    | false => exact o _ _ _ _ Up.refl g rfl
theorem jw_or {ct cu : CT} {rest : List Expr} (ha : JT κ a ct) (hb : JW κ (.BoolOp .Or (b :: rest) pos) cu) : JW κ (.BoolOp .Or (a :: b :: rest) pos) (.or ct cu) :=
  PW.weak (pw_or ha hb) fun σ H Q t => tM_bind (R := rB) (S := rB) (k := fun k e => if k then EM.pure true else runT κ.P.T κ.P.rp κ.cl cu e) t fun x Z F as e M H1 va re g ra o => by
    cases (show x = va from ra)
    cases x with
    | false => exact ⟨Z, F, as, e, M, re, g, o⟩
    | true => exact o _ _ _ _ Up.refl g rfl
theorem jw_and1 {ct : CT} (ha : JT κ a ct) : JW κ (.BoolOp .And [a] pos) ct := pw_and1 ha
theorem jw_or1 {ct : CT} (ha : JT κ a ct) : JW κ (.BoolOp .Or [a] pos) ct := pw_or1 ha
theorem jt_w {ct : CT} (ha : JW κ a ct) : JT κ a ct := ha.pt
/-! ### arguments -/
theorem ja_nil : JA κ [] .nil := PA.weak pa_nil fun σ H Q t => by
  obtain ⟨Z, F, as, e, M, re, g, o⟩ := t
  exact o [] F as H Up.refl g .nil
theorem ja_cons (ha : JE κ a ca) (hr : JA κ es cs) (hs : starEach (a :: es) κ.X.env = (false, eval a κ.X.env) :: starEach es κ.X.env := by rfl) : JA κ (a :: es) (.cons ca cs) :=
  PA.weak (pa_cons ha hr hs) fun σ H Q t => tM_bind (S := RepLs κ.G) (k := fun v e => EM.bind (runL κ.P.T κ.P.rp κ.cl cs e) fun vs => EM.pure (v :: vs)) t fun x Z F as e M H1 va re g ra o =>
    ⟨Z, F, as, e, M, re, g, o.bind fun ys F2 as2 H2 vs M2 _ u2 g2 rs o2 => o2 _ _ _ _ Up.refl g2 (.cons (ra.mono u2) rs)⟩
theorem RepLs.ofReps {G : GG} {F : Hp} {as : List Addr} : ∀ {vs : List V} {ds : List D}, Reps G F vs ds → RepLs G F as vs (ds.map .d)
  | _, _, .nil => .nil
  | _, _, .cons h r => .cons h (RepLs.ofReps r)
theorem RepLs.append {G : GG} {F : Hp} {as : List Addr} : ∀ {vs ws : List V} {ds es : List Vl}, RepLs G F as vs ds → RepLs G F as ws es → RepLs G F as (vs ++ ws) (ds ++ es)
  | _, _, _, _, .nil, s => s
  | _, _, _, _, .cons h r, s => .cons h (RepLs.append r s)
theorem ja_star {p : Pos} (h : Ok0 κ) (ha : JE κ a ca) (hr : JA κ es cs) (hs : starEach (.Starred a p :: es) κ.X.env = (true, eval a κ.X.env) :: starEach es κ.X.env := by rfl) : JA κ (.Starred a p :: es) (.star ca cs) :=
  PA.weak (StX.pa_star ha hr hs) fun σ H Q t => tM_bind (S := RepLs κ.G) (k := fun v e => EM.bind (peek v) fun d => EM.bind (EM.o (items d)) fun xs => EM.bind (runL κ.P.T κ.P.rp κ.cl cs e) fun vs => EM.pure (xs.map Vl.d ++ vs)) t fun x Z F as e M H1 va re g ra o => by
    obtain ⟨d, M1, e1, o1⟩ := o.got fun _ _ => peek_nx
    obtain ⟨q1, s1⟩ := peek_ok g ra e1
    rw [q1] at o1
    cases d with
    | tup xs =>
      obtain ⟨p, ws, rfl, t1, r1⟩ := s1.tup
      exact ⟨p, ws, rfl, .inl (by rw [h.k]; exact Evl.ex_t g.sub t1), Z, F, as, e, M, re, g, Out.bind (m := runL κ.P.T κ.P.rp κ.cl cs e) (k := fun vs => EM.pure (xs.map Vl.d ++ vs)) o1 fun ys F2 as2 H2 vs M2 _ u2 g2 rs o2 => o2 _ _ _ _ Up.refl g2 ((RepLs.ofReps (r1.mono u2.ex)).append rs)⟩
    | lst xs =>
      obtain ⟨p, ws, rfl, t1, r1⟩ := s1
      exact ⟨p, ws, rfl, .inr (.inl (.inl t1)), Z, F, as, e, M, re, g, Out.bind (m := runL κ.P.T κ.P.rp κ.cl cs e) (k := fun vs => EM.pure (xs.map Vl.d ++ vs)) o1 fun ys F2 as2 H2 vs M2 _ u2 g2 rs o2 => o2 _ _ _ _ Up.refl g2 ((RepLs.ofReps (r1.mono u2.ex)).append rs)⟩
    | _ => exact o1.elim
/-! ### displays -/
theorem toDs_nx {vs : List Vl} {M M' : Mem} {x : Xc} : toDs vs M ≠ some (.ex x, M') := by
  induction vs generalizing M M' x with
  | nil => intro e; cases e
  | cons v r ih =>
    intro e
    unfold toDs EM.bind at e
    cases q : toD v M with
    | none => simp only [q] at e; cases e
    | some p =>
      obtain ⟨p, M1⟩ := p
      cases p with
      | ex y => exact toD_nx q
      | ok d =>
        simp only [q] at e
        cases q2 : toDs r M1 with
        | none => simp only [q2] at e; cases e
        | some p2 =>
          obtain ⟨p2, M2⟩ := p2
          cases p2 with
          | ex y => exact ih q2
          | ok ds => simp only [q2] at e; cases e
theorem toDs_ok {G : GG} {as : List Addr} {H : Hp} : ∀ {vs : List Vl} {xs : List V} {F : Hp} {M M' : Mem} {ds : List D}, Good G Z F as M H → RepLs G F as xs vs → toDs vs M = some (.ok ds, M') → ∃ F', Good G Z F' as M' H ∧ Up F as F' as ∧ Reps G F' xs ds
  | [], _, F, M, M', ds, g, .nil, e => by
    cases e
    exact ⟨F, g, Up.refl, .nil⟩
  | v :: r, _, F, M, M', ds, g, .cons h t, e => by
    unfold toDs EM.bind at e
    cases q : toD v M with
    | none => simp only [q] at e; cases e
    | some p =>
      obtain ⟨p, M1⟩ := p
      cases p with
      | ex y => exact (toD_nx q).elim
      | ok d =>
        simp only [q] at e
        obtain ⟨F1, g1, u1, r1⟩ := toD_ok g h q
        cases q2 : toDs r M1 with
        | none => simp only [q2] at e; cases e
        | some p2 =>
          obtain ⟨p2, M2⟩ := p2
          cases p2 with
          | ex y => exact (toDs_nx q2).elim
          | ok es =>
            simp only [q2] at e
            cases e
            obtain ⟨F2, g2, u2, r2⟩ := toDs_ok g1 (t.mono u1) q2
            exact ⟨F2, g2, u1.trans u2, .cons (r1.mono u2.ex) r2⟩
theorem je_tup {x1 : Nat} (ha : JA κ es cs) : JE κ (.Tuple es x1 pos) (.tup cs) :=
  PE.weak (pe_tup ha) fun σ H Q t => tM_bind (R := RepLs κ.G) (S := RepL κ.G) (k := fun vs e => EM.bind (toDs vs) mkTup) t fun xs Z F as e M H1 vs re g rs o => by
    obtain ⟨ds, M1, e1, o1⟩ := o.got fun _ _ => toDs_nx
    obtain ⟨F1, g1, u1, r1⟩ := toDs_ok g rs e1
    obtain ⟨v, ev, q⟩ := Out.o o1
    split at ev
    · rename_i hz
      cases ev
      refine ⟨by rw [r1.length]; exact szOk_le hz, fun p hp => ?_⟩
      obtain ⟨g2, u2⟩ := g1.lay (o := .tup xs) hp
      exact q _ _ _ _ (u1.trans u2) g2 (Rep.tup (.inl (.inl upd_same)) (r1.mono u2.ex))
    · cases ev
theorem je_lst (ha : JA κ es cs) : JE κ (.List es pos) (.lst cs) :=
  PE.weak (pe_lst ha) fun σ H Q t => tM_bind (R := RepLs κ.G) (S := RepL κ.G) (k := fun vs e => EM.bind (toDs vs) mkLst) t fun xs Z F as e M H1 vs re g rs o => by
    obtain ⟨ds, M1, e1, o1⟩ := o.got fun _ _ => toDs_nx
    obtain ⟨F1, g1, u1, r1⟩ := toDs_ok g rs e1
    obtain ⟨v, ev, q⟩ := Out.o o1
    split at ev
    · rename_i hz
      cases ev
      refine ⟨by rw [r1.length]; exact szOk_le hz, fun p hp => ?_⟩
      obtain ⟨g2, u2⟩ := g1.lay (o := .lst xs) hp
      exact q _ _ _ _ (u1.trans u2) g2 (Rep.lst upd_same (r1.mono u2.ex))
    · cases ev
theorem je_new (ha : JA κ es cs) : JE κ (.List es pos) (.new cs) :=
  PE.weak (pe_lst ha) fun σ H Q t => tM_bind (R := RepLs κ.G) (S := RepL κ.G) (k := fun vs e => EM.bind (toDs vs) mkNew) t fun xs Z F as e M H1 vs re g rs o => by
    obtain ⟨ds, M1, e1, o1⟩ := o.got fun _ _ => toDs_nx
    obtain ⟨F1, g1, u1, r1⟩ := toDs_ok g rs e1
    unfold mkNew at o1
    split at o1
    · rename_i hz
      refine ⟨by rw [r1.length]; exact szOk_le hz, fun p hp => ?_⟩
      obtain ⟨g2, u2⟩ := g1.born (o := .lst xs) (mo := .lst ds) hp fun as' _ => ⟨g1.noF hp, xs, upd_same, r1⟩
      refine o1 _ _ _ _ (u1.trans u2) g2 ⟨p, ?_, rfl⟩
      rw [← g1.len, List.getElem?_append_right (Nat.le_refl _)]
      simp
    · exact o1.elim
end
end TD
set_option Elab.async false
set_option linter.all false
set_option maxRecDepth 100000
set_option maxHeartbeats 2000000
/-! TD, part G: objects and calls. -/
namespace TD
open PySem L2
/-! ### what is dropped at a def's end -/
section
variable {G : GG} {F H : Hp} {as : List Addr} {M : Mem}
theorem take_get {b n : Nat} {a : Addr} (hn : n < b) (e : as[n]? = some a) : (as.take b)[n]? = some a := by
  rw [List.getElem?_take, if_pos hn]
  exact e
theorem RepLF.cut {b : Nat} : ∀ {fs' : List (Str × V)} {fs : List (Str × Vl)}, RepLF G F as fs' fs → (fs.all fun f => noLoc b f.2) = true → RepLF G F (as.take b) fs' fs
  | _, _, .nil, _ => .nil
  | _, _, .cons (d := d) h r, e => by
    rw [List.all_cons] at e
    obtain ⟨e1, e2⟩ := Bool.and_eq_true_iff.mp e
    refine .cons ?_ (RepLF.cut r e2)
    cases d with
    | d x => exact h
    | loc n =>
      obtain ⟨a, h1, h2⟩ := h
      exact ⟨a, take_get (of_decide_eq_true e1) h1, h2⟩
theorem okCut_get {b : Nat} : ∀ {M : Mem} {n c : Nat} {fs : List (Str × Vl)}, okCut b M = true → M[n]? = some (.ins c fs) → (fs.all fun f => noLoc b f.2) = true
  | [], _, _, _, _, e => by simp at e
  | mo :: r, 0, c, fs, h, e => by
    have e' : mo = .ins c fs := by simpa using e
    subst e'
    unfold okCut at h
    exact (Bool.and_eq_true_iff.mp h).1
  | mo :: r, n + 1, c, fs, h, e => by
    have h2 : okCut b r = true := by
      cases mo <;> unfold okCut at h <;> first | exact h | exact (Bool.and_eq_true_iff.mp h).2
    exact okCut_get (n := n) h2 (by simpa using e)
theorem Good.cut {b : Nat} (g : Good G Z F as M H) (h : okCut b (M.take b) = true) : Good G Z F (as.take b) (M.take b) H := by
  refine ⟨g.sub, by simp [g.len], g.nd.sublist (List.take_sublist _ _), fun n a mo e1 e2 => ?_, g.zh, g.zf, fun a o hz hm => g.za a o hz (List.mem_of_mem_take hm)⟩
  have hn : n < b := by
    have := (List.getElem?_eq_some_iff.mp e1).1
    rw [List.length_take] at this
    omega
  rw [List.getElem?_take, if_pos hn] at e1
  have e3 : M[n]? = some mo := by
    rw [List.getElem?_take, if_pos hn] at e2
    exact e2
  have ok := g.ok n a mo e1 e3
  cases mo with
  | ins c fs =>
    obtain ⟨f, dx, fs', h1, r⟩ := ok
    exact ⟨f, dx, fs', h1, r.cut (okCut_get h e2)⟩
  | lst _ => exact ok
  | dic _ => exact ok
  | frz _ => exact ok
  | scr _ => exact ok
theorem pre_take {as as' : List Addr} {n : Nat} (h : as <+: as') (hn : as.length = n) : as'.take n = as := by
  obtain ⟨t, rfl⟩ := h
  subst hn
  simp
end
/-! ### objects -/
structure Ok1 (κ : Kx) : Prop extends Ok0 κ where
  fld : ∀ c f, κ.P.T.fld c f = true → Cls κ.X.K (κ.G.cl c) ∧ NoAttr κ.X.K (κ.G.cl c) f
theorem RepLF.lookup {G : GG} {F : Hp} {as : List Addr} {n : Str} : ∀ {vs : List (Str × V)} {ds : List (Str × Vl)}, RepLF G F as vs ds → (ds.lookup n = none → vs.lookup n = none) ∧ ∀ d, ds.lookup n = some d → ∃ v, vs.lookup n = some v ∧ RepL G F as v d
  | _, _, .nil => ⟨fun _ => rfl, fun d e => by simp at e⟩
  | _, _, .cons (n := k) h r => by
    obtain ⟨h1, h2⟩ := RepLF.lookup (n := n) r
    simp only [List.lookup_cons]
    by_cases q : (n == k) = true
    · simp only [q]
      refine ⟨fun e => ?_, fun d e => ?_⟩
      · cases e
      · cases e
        exact ⟨_, rfl, h⟩
    · rw [Bool.not_eq_true] at q
      simp only [q]
      exact ⟨h1, h2⟩
theorem look_ok {G : GG} {F H : Hp} {as : List Addr} {M : Mem} {x : V} {v : Vl} {f : Str} {c : Nat} {o : Option Vl} (g : Good G Z F as M H) (r : RepL G F as x v) (e : look f v M = some (c, o)) :
    ∃ a dx fs, x = .ref a ∧ H a = some (.ins (G.cl c) dx fs) ∧ (o = none → fs.lookup f = none) ∧ ∀ u, o = some u → ∃ w, fs.lookup f = some w ∧ RepL G F as w u := by
  have frozen : ∀ {y : V} {fs : List (Str × D)}, Rep G F y (.obj c fs) → o = (fs.lookup f).map .d → ∃ a dx fs, y = .ref a ∧ H a = some (.ins (G.cl c) dx fs) ∧ (o = none → fs.lookup f = none) ∧ ∀ u, o = some u → ∃ w, fs.lookup f = some w ∧ RepL G F as w u := by
    intro y fs ry eo
    cases ry with
    | obj h rf =>
      refine ⟨_, _, _, rfl, g.sub _ _ h, fun z => ?_, fun u z => ?_⟩
      · subst z
        exact rf.lookup_none (Option.map_eq_none_iff.mp eo.symm)
      · subst z
        obtain ⟨d, hd, rfl⟩ := Option.map_eq_some_iff.mp eo.symm
        exact rf.lookup hd
  cases v with
  | d y =>
    cases y with
    | obj k fs =>
      simp only [look] at e
      cases e
      exact frozen r rfl
    | _ => cases e
  | loc n =>
    obtain ⟨a, ha, rfl⟩ := r
    cases q : M[n]? with
    | none => simp only [look, q] at e; cases e
    | some mo =>
      have ok := g.ok n a mo ha q
      cases mo with
      | ins k fs =>
        simp only [look, q] at e
        cases e
        obtain ⟨_, dx, fs', h, rf⟩ := ok
        exact ⟨a, dx, fs', rfl, h, (RepLF.lookup rf).1, (RepLF.lookup rf).2⟩
      | frz y =>
        cases y with
        | obj k fs =>
          simp only [look, q] at e
          cases e
          exact frozen ok.2 rfl
        | _ => simp only [look, q] at e; cases e
      | _ => simp only [look, q] at e; cases e
section
variable {κ : Kx} {a b c e o : Expr} {ca cb cc ce co : CE} {es : List Expr} {cs : CL} {pos : Pos}
theorem je_fld {f : Str} (h : Ok1 κ) (ha : JE κ a ca) (hb : attributeBase a f κ.X.env (eval a κ.X.env) = eval a κ.X.env := by rfl) (hl : ∀ (M : Model) (A : Around) (E : Value → Shared → Prop) (Q : Unit → Shared → Prop) (s : Shared) (x r : Value), True := by intros; trivial) : JE κ (.Attribute a f pos) (.fld ca f) :=
  PE.weak (pe_fld ha hb) fun σ H Q t => tM_bind (R := RepL κ.G) (S := RepL κ.G) (k := fun x e => fieldOf κ.P.T f x) t fun x Z F as e M H1 va re g ra o => by
    unfold fieldOf at o
    split at o
    · rename_i k u hu
      split at o
      · rename_i hf
        obtain ⟨p, dx, fs, rfl, h1, _, h2⟩ := look_ok g ra hu
        obtain ⟨w, h3, rw⟩ := h2 u rfl
        obtain ⟨h4, h5⟩ := h.fld k f hf
        exact ⟨p, _, dx, fs, w, rfl, h1, h4, h5, h3, o w F as H1 Up.refl g rw⟩
      · exact o.elim
    · exact o.elim
end
/-! ### calls -/
def spF (G : GG) (P : Prg) (k f : Nat) : Sp := fun vs H Q E => ∃ Z F as ds M, RepLs G F as vs ds ∧ Good G Z F as M H ∧ Out G Z F as (RepL G) Q E (callN P k (.fn f) ds M)
/-- a promise by positional values, where nothing is being shown by repr -/
def FnG (P : Program) (w : World) (K : PySem.W.Frag) (mg : Str → Option Value) (base : Heap) (k : Nat) (f : Addr) (sp : Sp) : Prop :=
  ∀ (A : Around) (outer : List PySem.Env) (s : Shared) (H : Hp) (us : List Value) (vs : List V) (Q : VK) (E : XK), Room k A → A.guards = some [] → Env0 P w K mg base A outer s H → Vals vs us → sp vs H Q E →
    codeAny (model P w) A (.call (.ref f) ⟨us, []⟩) (CR (L2.CX P w) outer P w H s Q E) s
structure Ok (κ : Kx) : Prop extends Ok1 κ where
  calm : κ.X.calm = true
  room : Room κ.n κ.X.A
  tk : Takes κ.X κ.W
  po : PassesOwn (model κ.X.prog κ.X.w) κ.X.A κ.X.env κ.X.xe
  nd : κ.X.N.Nodup
  fn : ∀ k, k ≤ κ.n → ∀ f, FnG κ.X.prog κ.X.w κ.X.K κ.X.mg κ.X.base k (κ.G.fa f) (spF κ.G κ.P k f)
  met : ∀ c m f, κ.P.T.met c m = some f → Cls κ.X.K (κ.G.cl c) ∧ Meth κ.X.K (κ.G.cl c) m (κ.G.fa f)
  cls : ∀ c C, κ.P.cd c = some C → Mk κ.X.K (κ.G.cl c) (κ.G.fa C.init)
theorem under_guards {A : Around} {a : Args} (h : A.guards = some []) : (A.under (.builtin "type.__call__" a)).guards = some [] := by
  unfold Around.under
  rw [h]
  rfl
section
variable {κ : Kx} {pins : List (Addr × Obj)} {σ : L2.St} {H : Hp} {s : Shared} {Q : VK} {us : List Value} {vs : List V}
theorem run_at (h : Ok κ) {k f : Nat} (hk : k ≤ κ.n) (I : Inv κ.X pins σ H s) (r : Vals vs us) (q : spF κ.G κ.P k f vs H Q (fun c d H' => κ.W c d σ H')) :
    wpAny (model κ.X.prog κ.X.w) κ.X.A (call (.ref (κ.G.fa f)) us) (EP κ.X pins σ Q) κ.X.xe s := by
  have run := h.fn k hk f κ.X.A κ.X.stack s H us vs Q _ (h.room.mono hk) h.gd I.env0 r q
  refine wpAny_call (codeAny_mono run fun res s' hres => ?_)
  match res, hres with
  | .error e, hres => exact h.tk e s' (XE.of_call I (fun _ _ _ z => z) hres)
  | .ok (.ret _), hres => exact I.after hres
  | .ok .next, hres => exact hres.elim
  | .ok .brk, hres => exact hres.elim
  | .ok .cont, hres => exact hres.elim
/-- a new object by its class -/
theorem mk_at (h : Ok κ) {c k : Nat} {C : Cd} (hc : κ.P.cd c = some C) (hn : κ.n = k + 1) (I : Inv κ.X pins σ H s) (r : Vals vs us) {F : Hp} {as : List Addr} {ds : List Vl} {M : Mem} (rs : RepLs κ.G F as vs ds) (g : Good κ.G Z F as M H)
    (o : Out κ.G Z F as (RepL κ.G) Q (fun c d H' => κ.W c d σ H') (callN κ.P κ.n (.mk c) ds M)) : wpAny (model κ.X.prog κ.X.w) κ.X.A (call (.ref (κ.G.cl c)) us) (EP κ.X pins σ Q) κ.X.xe s := by
  have m := h.cls c C hc
  have I2 := Inv.made (C := κ.G.cl c) I
  let x := s.heap.objs.size + 1
  let dx := s.heap.objs.size
  have nx : H x = none := I.hok.fresh (Nat.le_succ _)
  have nd : H dx = none := I.hok.fresh (Nat.le_refl _)
  have ne : x ≠ dx := Nat.succ_ne_self _
  have ex1 : Ex H (upd H dx (.own x)) := Evl.Ex.new nd
  have g1 : Good κ.G Z F as M (upd H dx (.own x)) := g.heap ex1
  have nx1 : (upd H dx (.own x)) x = none := by rw [upd_ne ne]; exact nx
  obtain ⟨g2, u2⟩ := g1.born (o := .ins (κ.G.cl c) dx []) (mo := .ins c []) nx1 fun as' _ => ⟨g1.noF nx1, dx, [], upd_same, .nil⟩
  have hx : (as ++ [x])[M.length]? = some x := by
    rw [← g.len, List.getElem?_append_right (Nat.le_refl _)]
    simp
  rw [hn] at o
  simp only [callN, hc] at o
  have want : spF κ.G κ.P k C.init (.ref x :: vs) (upd (upd H dx (.own x)) x (.ins (κ.G.cl c) dx [])) (fun v H2 => v = .non ∧ Q (.ref x) H2) (fun c d H' => κ.W c d σ H') := by
    refine ⟨Z, F, as ++ [x], .loc M.length :: ds, M ++ [.ins c []], .cons ⟨x, hx, rfl⟩ (rs.mono u2), g2, ?_⟩
    cases q : callN κ.P k (.fn C.init) (.loc M.length :: ds) (M ++ [.ins c []]) with
    | none => rw [q] at o; exact o
    | some p =>
      obtain ⟨p, M1⟩ := p
      rw [q] at o
      cases p with
      | ex y =>
        simp only at o
        split at o
        · rename_i hcut
          intro dd fs F1 as1 H1 u g3 h1 h2
          have hpre : as1.take M.length = as := pre_take (u2.trans u).pre g.len
          exact o dd fs F1 as H1 ⟨(u2.trans u).ex, List.prefix_refl _⟩ (by have := g3.cut hcut; rw [hpre] at this; exact this) h1 h2
        · exact o.elim
      | ok v =>
        cases v with
        | loc n => exact o.elim
        | d y =>
          cases y with
          | non =>
            simp only at o
            intro w F1 as1 H1 u g3 rw1
            have hw : w = .non := by cases (show Rep κ.G F1 w .non from rw1); rfl
            have hx1 : as1[M.length]? = some x := pre_get u.pre hx
            refine ⟨hw, ?_⟩
            split at o
            · cases q2 : freeze M.length M1 with
              | none => rw [q2] at o; exact o.elim
              | some p2 =>
                obtain ⟨p2, M2⟩ := p2
                rw [q2] at o
                cases p2 with
                | ex y => exact o.elim
                | ok d =>
                  simp only at o
                  split at o
                  · rename_i hcut
                    obtain ⟨F2, g4, u4, r4⟩ := freeze_ok g3 hx1 q2
                    have hpre : as1.take M.length = as := pre_take (u2.trans u).pre g.len
                    have g5 := g4.cut hcut
                    rw [hpre] at g5
                    exact o _ F2 as H1 ⟨((u2.trans u).trans u4).ex, List.prefix_refl _⟩ g5 r4
                  · exact o.elim
            · exact o _ F1 as1 H1 (u2.trans u) g3 ⟨x, hx1, rfl⟩
          | _ => exact o.elim
  have r2 : Vals (V.ref x :: vs) (Value.ref x :: us) := .cons rfl r
  have hk : k ≤ κ.n := by omega
  have hr : Room (k + 1) κ.X.A := by rw [← hn]; exact h.room
  have run := h.fn k hk C.init _ κ.X.stack _ _ (Value.ref x :: us) _ _ _ (hr.make (κ.G.cl c) us []) (under_guards h.gd) (I2.env0.make (κ.G.cl c) us []) r2 want
  refine wpAny_call (make_map I.kIn m.makes m.init (beq_iff_eq.mp m.fn) (codeAny_mono run fun res s' hres => ?_))
  match res, hres with
  | .error e, hres => exact h.tk e s' (XE.of_call I2 (fun _ _ _ z => z) hres)
  | .ok (.ret u), hres =>
    obtain ⟨v, H', I3, rv, ev, q3⟩ := I2.after hres
    subst ev
    exact ⟨rv, ⟨V.ref x, H', I3, rfl, q3⟩⟩
  | .ok .next, hres => exact hres.elim
  | .ok .brk, hres => exact hres.elim
  | .ok .cont, hres => exact hres.elim
end
/-- a function or a class, as it is called -/
structure Cal (κ : Kx) (f : Fi) (u : Value) : Prop where
  kp : PySem.W.keepIn κ.X.K u = true
  run : ∀ {pins : List (Addr × Obj)} {σ : L2.St} {H : Hp} {s : Shared} {Q : VK} {us : List Value} {vs : List V} {Z F : Hp} {as : List Addr} {ds : List Vl} {M : Mem}, Inv κ.X pins σ H s → Vals vs us → RepLs κ.G F as vs ds → Good κ.G Z F as M H →
    Out κ.G Z F as (RepL κ.G) Q (fun c d H' => κ.W c d σ H') (callN κ.P κ.n f ds M) → wpAny (model κ.X.prog κ.X.w) κ.X.A (call u us) (EP κ.X pins σ Q) κ.X.xe s
theorem cal_fn {κ : Kx} (h : Ok κ) {f : Nat} (kp : PySem.W.keepIn κ.X.K (.ref (κ.G.fa f)) = true) : Cal κ (.fn f) (.ref (κ.G.fa f)) :=
  ⟨kp, fun I r rs g o => run_at h (Nat.le_refl _) I r ⟨_, _, _, _, _, rs, g, o⟩⟩
theorem cal_mk {κ : Kx} (h : Ok κ) {c : Nat} {C : Cd} (hc : κ.P.cd c = some C) : Cal κ (.mk c) (.ref (κ.G.cl c)) :=
  ⟨(h.cls c C hc).kp, fun {pins σ H s Q us vs Z F as ds M} I r rs g o => by
    cases hn : κ.n with
    | zero =>
      rw [hn] at o
      exact o.elim
    | succ k => exact mk_at h hc hn I r rs g o⟩
section
variable {κ : Kx} {a b c e o : Expr} {ca cb cc ce co : CE} {es : List Expr} {cs : CL} {pos p apos : Pos} {f : Fi} {u : Value} {x : Str}
/-- x(), x(e, ..), x(*e), x(e, .., *e) -/
theorem je_call0 (k : Cal κ f u) (hg : Gl κ.X x) (hm : κ.X.mg x = some u) (hd : (x == ("__debug__" : Str)) = false := by decide) : JE κ (.Call (.Name x p) [] [] pos) (.call f .nil) := by
  refine ⟨fun pins s σ H Q I t => ?_⟩
  obtain ⟨Z, F, as, e, M, re, g, o⟩ := t
  refine wpAny_Call_Name_kw (ld_glob I hg hm ?_ hd)
  exact PySem.W.callWith_K0 I.kIn k.kp (k.run (us := []) (vs := []) (ds := []) I .nil .nil g o)
theorem je_call (k : Cal κ f u) (hg : Gl κ.X x) (hm : κ.X.mg x = some u) (ha : JA κ (e :: es) cs) (hd : (x == ("__debug__" : Str)) = false := by decide)
    (he : starEach (e :: es) κ.X.env = (false, eval e κ.X.env) :: starEach es κ.X.env := by rfl) (hp : (backTo pos (starEach es κ.X.env)).any (·.1) = false := by rfl) : JE κ (.Call (.Name x p) (e :: es) [] pos) (.call f cs) := by
  refine ⟨fun pins s σ H Q I t => ?_⟩
  refine wpAny_Call_Name_kw (ld_glob I hg hm ?_ hd)
  refine PySem.W.callWith_K (h₀ := κ.X.base) I.ok.mod.kin k.kp (thn (ha.run pos pins s σ H _ I (tM_bind (R := RepLs κ.G) (Q := fun vs H1 => ∃ Z F as ds M, RepLs κ.G F as vs ds ∧ Good κ.G Z F as M H1 ∧ Out κ.G Z F as (RepL κ.G) Q (fun c d H' => κ.W c d σ H') (callN κ.P κ.n f ds M)) (k := fun vs e => κ.cl f vs) t fun vs Z F as e M H1 ds re g rs o => ⟨Z, F, as, ds, M, rs, g, o⟩)) fun us s1 ⟨vs, H1, I1, r, Z, F, as, ds, M, rs, g, o⟩ => ⟨I1.kIn, ?_⟩) he hp
  exact k.run I1 r rs g o
theorem je_callS (k : Cal κ f u) (hg : Gl κ.X x) (hm : κ.X.mg x = some u) (ha : JA κ (e :: es) cs) (hd : (x == ("__debug__" : Str)) = false := by decide)
    (he : starEach (e :: es) κ.X.env = (false, eval e κ.X.env) :: starEach es κ.X.env := by rfl) (hp : (backTo pos (starEach es κ.X.env)).any (·.1) = true := by rfl) : JE κ (.Call (.Name x p) (e :: es) [] pos) (.call f cs) := by
  refine ⟨fun pins s σ H Q I t => ?_⟩
  refine wpAny_Call_Name_kw (ld_glob I hg hm ?_ hd)
  refine PySem.W.callWith_S2 (h₀ := κ.X.base) I.ok.mod.kin k.kp (thn (ha.run pos pins s σ H _ I (tM_bind (R := RepLs κ.G) (Q := fun vs H1 => ∃ Z F as ds M, RepLs κ.G F as vs ds ∧ Good κ.G Z F as M H1 ∧ Out κ.G Z F as (RepL κ.G) Q (fun c d H' => κ.W c d σ H') (callN κ.P κ.n f ds M)) (k := fun vs e => κ.cl f vs) t fun vs Z F as e M H1 ds re g rs o => ⟨Z, F, as, ds, M, rs, g, o⟩)) fun us s1 ⟨vs, H1, I1, r, Z, F, as, ds, M, rs, g, o⟩ => ⟨I1.kIn, ?_⟩) he hp
  exact k.run I1 r rs g o
theorem je_call1 {sp : Pos} (h : Ok0 κ) (k : Cal κ f u) (hg : Gl κ.X x) (hm : κ.X.mg x = some u) (ha : JE κ e ce) (hd : (x == ("__debug__" : Str)) = false := by decide) (hst : starEach [.Starred e sp] κ.X.env = [(true, eval e κ.X.env)] := by rfl) :
    JE κ (.Call (.Name x p) [.Starred e sp] [] pos) (.call f (.star ce .nil)) := by
  refine ⟨fun pins s σ H Q I t => ?_⟩
  refine wpAny_Call_Name_kw (ld_glob I hg hm ?_ hd)
  obtain ⟨Z, F, as, en, M, re, g, o⟩ := t
  have t2 : tM κ.G κ.hx κ.W (RepL κ.G) (runE κ.P.T κ.P.rp κ.cl ce) σ H (fun y H1 => ∃ a xs Z F as ds M, y = V.ref a ∧ (SqT κ.X.K H1 a xs ∨ SqL κ.X.K H1 a xs) ∧ RepLs κ.G F as xs ds ∧ Good κ.G Z F as M H1 ∧ Out κ.G Z F as (RepL κ.G) Q (fun c d H' => κ.W c d σ H') (callN κ.P κ.n f ds M)) := by
    refine ⟨Z, F, as, en, M, re, g, ?_⟩
    have o1 : Out κ.G Z F as (RepL κ.G) Q (fun c d H' => κ.W c d σ H') (EM.bind (runE κ.P.T κ.P.rp κ.cl ce en) (fun v => EM.bind (peek v) fun d => EM.bind (EM.o (items d)) fun xs => κ.cl f (xs.map Vl.d)) M) := by
      have o0 : Out κ.G Z F as (RepL κ.G) Q (fun c d H' => κ.W c d σ H') (EM.bind (EM.bind (runE κ.P.T κ.P.rp κ.cl ce en) fun v => EM.bind (peek v) fun d => EM.bind (EM.o (items d)) fun xs => EM.bind (EM.pure []) fun vs => EM.pure (xs.map Vl.d ++ vs)) (fun vs => κ.cl f vs) M) := o
      unfold EM.bind at o0 ⊢
      cases q : runE κ.P.T κ.P.rp κ.cl ce en M with
      | none => rw [q] at o0; exact o0
      | some r =>
        obtain ⟨r, M1⟩ := r
        rw [q] at o0
        cases r with
        | ex y => exact o0
        | ok v =>
          simp only at o0 ⊢
          cases q2 : peek v M1 with
          | none => rw [q2] at o0; exact o0
          | some r2 =>
            obtain ⟨r2, M2⟩ := r2
            rw [q2] at o0
            cases r2 with
            | ex y => exact o0
            | ok d =>
              simp only at o0 ⊢
              cases q3 : items d with
              | none => simp only [EM.o, q3] at o0; exact o0.elim
              | some xs =>
                simp only [EM.o, q3, EM.pure, List.append_nil] at o0 ⊢
                exact o0
    refine o1.bind fun y F1 as1 H1 v M1 _ u1 g1 rv o2 => ?_
    obtain ⟨d, M2, e2, o3⟩ := o2.got fun _ _ => peek_nx
    obtain ⟨q1, s1⟩ := peek_ok g1 rv e2
    rw [q1] at o3
    cases d with
    | tup xs =>
      obtain ⟨q, ws, rfl, t1, r1⟩ := s1.tup
      exact ⟨q, ws, Z, F1, as1, _, M1, rfl, .inl (by rw [h.k]; exact Evl.ex_t g1.sub t1), RepLs.ofReps r1, g1, o3⟩
    | lst xs =>
      obtain ⟨q, ws, rfl, t1, r1⟩ := s1
      exact ⟨q, ws, Z, F1, as1, _, M1, rfl, .inr (.inl (.inl t1)), RepLs.ofReps r1, g1, o3⟩
    | _ => exact o3.elim
  refine PySem.W.callWith_S (h₀ := κ.X.base) I.ok.mod.kin k.kp (thn (ha.run pins s σ H _ I t2) fun v s1 ⟨y, H1, I1, ry, q, xs, Z1, F1, as1, ds, M1, ey, hxs, rs, g1, o3⟩ => ?_) hst
  subst ey
  obtain rfl : v = Value.ref q := ry
  exact StX.star_any I1 hxs fun us s2 I2 rv => ⟨I2.kIn, k.run I2 rv rs g1 o3⟩
/-- o.m(), o.m(e, ..) -/
theorem met_ok {m : Str} {F H1 : Hp} {as : List Addr} {M : Mem} {y : V} {v : Vl} {g : Nat} (h : Ok κ) (gd : Good κ.G Z F as M H1) (r : RepL κ.G F as y v) (e : metOf κ.P.T m v M = some g) :
    ∃ c a dx fs, y = .ref a ∧ H1 a = some (.ins (κ.G.cl c) dx fs) ∧ fs.lookup m = none ∧ Cls κ.X.K (κ.G.cl c) ∧ Meth κ.X.K (κ.G.cl c) m (κ.G.fa g) := by
  unfold metOf at e
  split at e
  · rename_i c hl
    obtain ⟨a, dx, fs, rfl, h1, h2, _⟩ := look_ok gd r hl
    exact ⟨c, a, dx, fs, rfl, h1, h2 rfl, h.met c m g e⟩
  · cases e
end
end TD
set_option Elab.async false
set_option linter.all false
set_option maxRecDepth 100000
set_option maxHeartbeats 2000000
/-! TD, part H: methods, subscripts, slices, isinstance, built-in functions. -/
namespace TD
open PySem L2
section
variable {κ : Kx} {a b c e o : Expr} {ca cb cc ce co : CE} {es : List Expr} {cs : CL} {pos p apos : Pos} {x : Str}
theorem metE_ok {T : Tab} {m : Str} {v : Vl} {M M' : Mem} {f : Nat} (e : metE T m v M = some (.ok f, M')) : metOf T m v M = some f ∧ M' = M := by
  unfold metE at e
  split at e
  · rename_i g h
    cases e
    exact ⟨h, rfl⟩
  · cases e
theorem metE_nx {T : Tab} {m : Str} {v : Vl} {M M' : Mem} {x : Xc} : metE T m v M ≠ some (.ex x, M') := by
  intro e
  unfold metE at e
  split at e <;> cases e
theorem je_met0 {m : Str} {pl : Sem Bool} (h : Ok κ) (ho : JE κ o co)
    (ht : eval (.Call (.Attribute o m apos) [] [] pos) κ.X.env = (do
      let obj ← eval o κ.X.env
      standAt apos.atName
      let (fn, fst) ← holding [obj] (getMethod obj m pl)
      callWith pos fn fst (backTo pos (starEach [] κ.X.env)) (backToKw pos (keywordEach [] κ.X.env))) := by rfl) : JE κ (.Call (.Attribute o m apos) [] [] pos) (.met m co .nil) := by
  refine ⟨fun pins s σ H Q I t => ?_⟩
  have t2 : tM κ.G κ.hx κ.W (RepL κ.G) (runE κ.P.T κ.P.rp κ.cl co) σ H (fun y H1 => ∃ Z F as v M f, Good κ.G Z F as M H1 ∧ RepL κ.G F as y v ∧ metOf κ.P.T m v M = some f ∧ Out κ.G Z F as (RepL κ.G) Q (fun c d H' => κ.W c d σ H') (callN κ.P κ.n (.fn f) [v] M)) :=
    tM_bind (S := RepL κ.G) (k := fun x e => EM.bind (metE κ.P.T m x) fun f => EM.bind (EM.pure []) fun vs => κ.cl (.fn f) (x :: vs)) t fun y Z F as e M H1 v re g rv o => by
      obtain ⟨f, M1, e1, o1⟩ := o.got fun _ _ => metE_nx
      obtain ⟨h1, h2⟩ := metE_ok e1
      rw [h2] at o1
      exact ⟨Z, F, as, v, M, f, g, rv, h1, o1⟩
  refine PySem.W.methodCall_KW (pl := pl) (thn (ho.run pins s σ H _ I t2) fun u s1 ⟨y, H1, I1, ry, Z, F, as, v, M, f, g, rv, hf, o⟩ => ?_) ht
  obtain ⟨c, a, dx, fs, rfl, h1, h2, h3, h4⟩ := met_ok h g rv hf
  obtain rfl : u = Value.ref a := ry
  refine getmeth_ok I1 h1 h3 h4 h2 ?_
  exact PySem.W.callWith_K0 (first := [.ref a]) I1.kIn h4.kp (run_at (us := [.ref a]) (vs := [.ref a]) h (Nat.le_refl _) I1 (.cons rfl .nil) ⟨Z, F, as, [v], M, .cons rv .nil, g, o⟩)
theorem je_met {m : Str} {pl : Sem Bool} (h : Ok κ) (ho : JE κ o co) (ha : JA κ (e :: es) cs)
    (hst : starEach (e :: es) κ.X.env = (false, eval e κ.X.env) :: starEach es κ.X.env := by rfl) (hpl : (backTo pos (starEach es κ.X.env)).any (·.1) = false := by rfl)
    (ht : eval (.Call (.Attribute o m apos) (e :: es) [] pos) κ.X.env = (do
      let obj ← eval o κ.X.env
      standAt apos.atName
      let (fn, fst) ← holding [obj] (getMethod obj m pl)
      callWith pos fn fst (backTo pos (starEach (e :: es) κ.X.env)) (backToKw pos (keywordEach [] κ.X.env))) := by rfl) : JE κ (.Call (.Attribute o m apos) (e :: es) [] pos) (.met m co cs) := by
  refine ⟨fun pins s σ H Q I t => ?_⟩
  have t2 : tM κ.G κ.hx κ.W (RepL κ.G) (runE κ.P.T κ.P.rp κ.cl co) σ H (fun y H1 => ∃ v f c a dx fs, y = .ref a ∧ H1 a = some (.ins (κ.G.cl c) dx fs) ∧ fs.lookup m = none ∧ Cls κ.X.K (κ.G.cl c) ∧ Meth κ.X.K (κ.G.cl c) m (κ.G.fa f) ∧
      tM κ.G κ.hx κ.W (RepLs κ.G) (runL κ.P.T κ.P.rp κ.cl cs) σ H1 (fun ys H2 => ∃ Z F as vs M, Good κ.G Z F as M H2 ∧ RepLs κ.G F as (y :: ys) (v :: vs) ∧ Out κ.G Z F as (RepL κ.G) Q (fun c d H' => κ.W c d σ H') (callN κ.P κ.n (.fn f) (v :: vs) M))) :=
    tM_bind (S := RepL κ.G) (k := fun x e => EM.bind (metE κ.P.T m x) fun f => EM.bind (runL κ.P.T κ.P.rp κ.cl cs e) fun vs => κ.cl (.fn f) (x :: vs)) t fun y Z F as e M H1 v re g rv o => by
      obtain ⟨f, M1, e1, o1⟩ := o.got fun _ _ => metE_nx
      obtain ⟨h1, h2⟩ := metE_ok e1
      rw [h2] at o1
      obtain ⟨c, a, dx, fs, h3, h4, h5, h6, h7⟩ := met_ok h g rv h1
      exact ⟨v, f, c, a, dx, fs, h3, h4, h5, h6, h7, Z, F, as, e, M, re, g, o1.bind fun ys F2 as2 H2 vs M2 _ u2 g2 rs o2 => ⟨Z, F2, as2, vs, M2, g2, .cons (rv.mono u2) rs, o2⟩⟩
  refine PySem.W.methodCall_KW (pl := pl) (thn (ho.run pins s σ H _ I t2) fun u s1 ⟨y, H1, I1, ry, v, f, c, a, dx, fs, ey, h4, h5, h6, h7, t3⟩ => ?_) ht
  subst ey
  obtain rfl : u = Value.ref a := ry
  refine getmeth_ok I1 h4 h6 h7 h5 ?_
  refine PySem.W.callWith_K (first := [.ref a]) (h₀ := κ.X.base) I.ok.mod.kin h7.kp (thn (ha.run pos pins s1 σ H1 _ I1 t3) fun us s2 ⟨ys, H2, I2, r, Z, F, as, vs, M, g, rs, o⟩ => ⟨I2.kIn, ?_⟩) hst hpl
  exact run_at (us := .ref a :: us) (vs := .ref a :: ys) h (Nat.le_refl _) I2 (.cons rfl r) ⟨Z, F, as, v :: vs, M, rs, g, o⟩
/-! ### subscripts, slices -/
theorem Reps.atI {G : GG} {F : Hp} {vs : List V} {ds : List D} {i : Int} {d : D} (r : Reps G F vs ds) (e : atI ds i = some d) : ∃ v, L2.atI vs i = some v ∧ Rep G F v d := by
  unfold L2.atI at e ⊢
  rw [r.length]
  cases q : ixN ds.length i with
  | none => rw [q] at e; cases e
  | some j =>
    rw [q] at e
    exact r.get (by simpa using e)
theorem op_ix (h : Ok0 κ) : IxR κ.X (rV2 κ.G opI) := by
  intro value slice pins s σ H x y v u Q I rx ry hr hs
  obtain ⟨E, Z, F, as, a, b, M, g, ra, rb, o⟩ := hr
  obtain ⟨dx, dy, s1, s2, o1⟩ := two_peeksW (f := fun dx dy => EM.o ((ixD dx dy).map .d)) g ra rb o
  obtain ⟨z, ez, q⟩ := o1.o
  obtain ⟨d, ed, rfl⟩ := Option.map_eq_some_iff.mp ez
  unfold ixD at ed
  split at ed
  · cases s2.int
    obtain ⟨p, vs, rfl, t1, r1⟩ := s1.tup
    obtain ⟨w, hw, rw⟩ := r1.atI ed
    exact ix_seq value slice pins s σ H _ _ v u Q I rx ry (.inr (.inl ⟨p, vs, _, w, rfl, rfl, by rw [h.k]; exact Evl.ex_t g.sub t1, hw, q w F as H Up.refl g rw⟩)) hs
  · cases s2.int
    obtain ⟨p, vs, rfl, t1, r1⟩ := s1
    obtain ⟨w, hw, rw⟩ := r1.atI ed
    exact ix_seq value slice pins s σ H _ _ v u Q I rx ry (.inl ⟨p, vs, _, w, rfl, rfl, .inl t1, hw, q w F as H Up.refl g rw⟩) hs
  · cases s2.int
    cases s1.str
    split at ed
    · rename_i hz
      obtain ⟨ch, hc, rfl⟩ := Option.map_eq_some_iff.mp ed
      exact ix_seq value slice pins s σ H _ _ v u Q I rx ry (.inr (.inr ⟨_, _, ch, rfl, rfl, szOk_le hz, hc, q _ F as H Up.refl g (Rep.str _)⟩)) hs
    · cases ed
  · cases ed
theorem je_ix (h : Ok0 κ) (ha : JE κ a ca) (hb : JE κ b cb) (hs : PlainIx b := by intro _ _; rfl) : JE κ (.Subscript a b pos) (.ix ca cb) :=
  PE.weak (pe_ix (op_ix h) ha hb hs) fun σ H Q t => tM_bind (k := fun x e => EM.bind (runE κ.P.T κ.P.rp κ.cl cb e) fun y => opI x y) t fun x Z F as e M H1 va re g ra o => ⟨Z, F, as, e, M, re, g, o.bind fun y F2 as2 H2 vb M2 _ u2 g2 rb o2 => ⟨_, Z, F2, as2, va, vb, M2, g2, ra.mono u2, rb, o2⟩⟩
theorem jo_none : JO κ none .none := PO.weak po_none fun σ H Q t => by
  obtain ⟨Z, F, as, e, M, re, g, o⟩ := t
  exact o none F as H Up.refl g rfl
theorem jo_some (ha : JE κ a ca) : JO κ (some a) (.some ca) := PO.weak (po_some ha) fun σ H Q t => tM_bind (R := RepL κ.G) (S := rO) (k := fun v e => EM.bind (intOf v) fun i => EM.pure (some i)) t fun x Z F as e M H1 va re g ra o => by
  obtain ⟨i, hi, o1⟩ := Out.int ra o
  exact ⟨i, hi, o1 _ F as H1 Up.refl g rfl⟩
theorem Reps.cut {G : GG} {F : Hp} {vs : List V} {ds : List D} (r : Reps G F vs ds) (lo hi : Option Int) : Reps G F (cutV vs lo hi) ((ds.drop (HT.sIx ds.length 0 lo)).take (HT.sIx ds.length ds.length hi - HT.sIx ds.length 0 lo)) := by
  unfold cutV
  rw [r.length]
  exact (r.drop _).take _
def rSl (G : GG) : V → Option Int → Option Int → Hp → VK → Prop := fun x lo hi H Q => ∃ E Z F as a M, Good G Z F as M H ∧ RepL G F as x a ∧ Out G Z F as (RepL G) Q E (EM.bind (peekW a) (fun dx => EM.o ((slD dx lo hi).map .d)) M)
theorem op_sl (h : Ok0 κ) : SlR κ.X (rSl κ.G) := by
  intro pins s σ H x v vl vu lo hi sl Q I rx hs pl pu hr
  obtain ⟨E, Z, F, as, a, M, g, ra, o⟩ := hr
  obtain ⟨d, M1, e1, o1⟩ := o.got fun _ _ => peekW_nx
  obtain ⟨q1, s1⟩ := peekW_ok g ra e1
  rw [q1] at o1
  obtain ⟨z, ez, q⟩ := o1.o
  obtain ⟨d2, ed, rfl⟩ := Option.map_eq_some_iff.mp ez
  unfold slD at ed
  split at ed
  · cases ed
    obtain ⟨p, vs, rfl, t1, r1⟩ := s1.tup
    refine sl_tupA pins s σ H _ v vl vu lo hi sl Q I rx hs pl pu ⟨p, vs, rfl, by rw [h.k]; exact Evl.ex_t g.sub t1, fun hw => ?_, fun _ p2 hp => ?_⟩
    · refine q _ F as H Up.refl g ?_
      rw [r1.length] at hw
      rw [hw.1, hw.2, Nat.sub_zero, List.drop_zero, List.take_length]
      exact Rep.tup t1 r1
    · obtain ⟨g2, u2⟩ := g.lay (o := .tup (cutV vs lo hi)) hp
      exact q _ _ _ _ u2 g2 (Rep.tup (.inl (.inl upd_same)) ((r1.cut lo hi).mono u2.ex))
  · cases ed
    obtain ⟨p, vs, rfl, t1, r1⟩ := s1
    refine sl_list pins s σ H _ v vl vu lo hi sl Q I rx hs pl pu ⟨p, vs, rfl, .inl t1, fun p2 hp => ?_⟩
    obtain ⟨g2, u2⟩ := g.lay (o := .lst (cutV vs lo hi)) hp
    exact q _ _ _ _ u2 g2 (Rep.lst upd_same ((r1.cut lo hi).mono u2.ex))
  · cases ed
theorem je_sl {lo hi : Option Expr} {cl ch : CO} {p2 : Pos} (h : Ok0 κ) (ha : JE κ a ca) (hl : JO κ lo cl) (hh : JO κ hi ch) : JE κ (.Subscript a (.Slice lo hi none p2) pos) (.sl ca cl ch) :=
  PE.weak (pe_slice (op_sl h) ha hl hh) fun σ H Q t => tM_bind (k := fun x e => EM.bind (runO κ.P.T κ.P.rp κ.cl cl e) fun l => EM.bind (runO κ.P.T κ.P.rp κ.cl ch e) fun hh => EM.bind (peekW x) fun dx => EM.o ((slD dx l hh).map Vl.d)) t fun x Z F as e M H1 va re g ra o =>
    ⟨Z, F, as, e, M, re, g, o.bind fun l F2 as2 H2 l' M2 _ u2 g2 rl o2 => ⟨Z, F2, as2, e, M2, re.mono u2, g2, o2.bind fun hh F3 as3 H3 h' M3 _ u3 g3 rh o3 => by
      cases (show l = l' from rl)
      cases (show hh = h' from rh)
      exact ⟨_, Z, F3, as3, va, M3, g3, (ra.mono u2).mono u3, o3⟩⟩⟩
/-! ### isinstance -/
def tyD (G : GG) : D → Value
  | .non => .type "NoneType"
  | .bl _ => .type "bool"
  | .int _ => .type "int"
  | .str _ => .type "str"
  | .tup _ => .type "tuple"
  | .lst _ => .type "list"
  | .dic _ => .type "dict"
  | .obj c _ => .ref (G.cl c)
  | .exc _ _ => .type "NoneType"
def tyU (G : GG) : Ty → Value
  | .int => .type "int"
  | .bool => .type "bool"
  | .str => .type "str"
  | .tuple => .type "tuple"
  | .list => .type "list"
  | .dict => .type "dict"
  | .cls c => .ref (G.cl c)
def tyVl (G : GG) : Ty → V
  | .int => .ty "int"
  | .bool => .ty "bool"
  | .str => .ty "str"
  | .tuple => .ty "tuple"
  | .list => .ty "list"
  | .dict => .ty "dict"
  | .cls c => .ref (G.cl c)
/-- what is known of the classes for isinstance -/
structure OkI (κ : Kx) : Prop where
  own : ∀ c a dx fs (H : Hp), H a = some (.ins (κ.G.cl c) dx fs) → κ.P.T.isb c c = true → TyX κ.X.K H (.ref a) (.ref (κ.G.cl c))
  kit : ∀ (t : Ty) (d : D), (∀ c fs, d = .obj c fs → κ.P.T.isb c c = true) → (∀ c, t = .cls c → κ.P.T.isb c c = true) → PySem.W.kitOne κ.X.K (tyD κ.G d) (tyU κ.G t) = some (isiD κ.P.T.isb t d)
theorem clsV_ty (G : GG) (t : Ty) : ClsV (tyVl G t) (tyU G t) := by
  cases t <;> first | exact .ty _ | exact .own _
theorem ShW.ty {G : GG} {X : Cx} {F H : Hp} {y : V} {d : D} (hk : X.K = G.K) (ex : Ex F H) (h : ShW G F H y d) (hno : ∀ c fs, d ≠ .obj c fs) (hnx : ∀ c fs, d ≠ .exc c fs) : TyX X.K H y (tyD G d) := by
  cases d with
  | non => cases h.non; exact .base .non
  | bl b => cases h.bl; exact .base (.bl b)
  | int b => cases h.int; exact .base (.int b)
  | str b => cases h.str; exact .base (.str b)
  | tup xs =>
    obtain ⟨p, vs, rfl, t, _⟩ := h.tup
    rcases t with (t | ⟨o, t⟩) | ⟨o, its, n, hk2, hc, _⟩
    · exact .base (.tup (ex _ _ t))
    · exact .fTuple (ex _ _ t)
    · exact .kTuple (by rw [hk]; exact hk2) hc
  | lst xs =>
    obtain ⟨p, vs, rfl, t, _⟩ := h
    rcases t with t | ⟨o, t⟩
    · exact .base (.lst t)
    · exact .base (.frz t)
  | dic xs =>
    obtain ⟨p, vs, rfl, t, _⟩ := h
    exact .base (.dK t)
  | obj c fs => exact (hno c fs rfl).elim
  | exc c fs => exact (hnx c fs rfl).elim
theorem shape_ok {F H1 : Hp} {as : List Addr} {M : Mem} {y : V} {v : Vl} {d : D} (h : Ok0 κ) (hi : OkI κ) (g : Good κ.G Z F as M H1) (r : RepL κ.G F as y v) (e : shape v M = some d) (hc : ∀ c fs, d = .obj c fs → κ.P.T.isb c c = true) : TyX κ.X.K H1 y (tyD κ.G d) := by
  have frozen : ∀ {z : D} {w : V}, Rep κ.G F w z → (∀ c fs, z = .obj c fs → κ.P.T.isb c c = true) → (∀ c fs, z ≠ .exc c fs) → TyX κ.X.K H1 w (tyD κ.G z) := fun {z w} rz hz hx => by
    cases z with
    | obj c fs =>
      cases rz with
      | obj ho _ => exact hi.own c _ _ _ H1 (g.sub _ _ ho) (hz c fs rfl)
    | _ => exact ShW.ty h.k g.sub (Sh.of g.sub rz).wide (fun _ _ q => by cases q) hx
  cases v with
  | d z =>
    obtain ⟨rfl, hx⟩ := noX_some e
    exact frozen r hc hx
  | loc n =>
    obtain ⟨a, ha, rfl⟩ := r
    cases q : M[n]? with
    | none => simp only [shape, q] at e; cases e
    | some mo =>
      have ok := g.ok n a mo ha q
      cases mo with
      | lst xs =>
        simp only [shape, q] at e
        cases e
        obtain ⟨_, vs, h1, _⟩ := ok
        exact .base (.lst h1)
      | scr xs =>
        simp only [shape, q] at e
        cases e
        obtain ⟨_, o, vs, h1, _⟩ := ok
        exact .base (.frz h1)
      | dic xs =>
        simp only [shape, q] at e
        cases e
        obtain ⟨_, vs, h1, _⟩ := ok
        exact .base (.dK h1)
      | frz z =>
        simp only [shape, q] at e
        obtain ⟨rfl, hx⟩ := noX_some e
        exact frozen ok.2 hc hx
      | ins c fs =>
        simp only [shape, q] at e
        cases e
        obtain ⟨_, dx, vs, h1, _⟩ := ok
        exact hi.own c _ _ _ H1 h1 (hc c [] rfl)
/-- isinstance(a, T): cb is the class's expression, v its value -/
theorem je_isi {t : Ty} (h : Ok0 κ) (hi : OkI κ) (ht : ∀ c, t = .cls c → κ.P.T.isb c c = true) (ha : JE κ a ca) (hb : PE κ.X b (tC (tyVl κ.G t))) (hg : Gl κ.X "isinstance") (hm : κ.X.mg "isinstance" = none)
    (he : starEach (a :: [b]) κ.X.env = (false, eval a κ.X.env) :: starEach [b] κ.X.env := by rfl) (he2 : starEach (b :: []) κ.X.env = (false, eval b κ.X.env) :: starEach [] κ.X.env := by rfl) (hpl : (backTo pos (starEach [b] κ.X.env)).any (·.1) = false := by rfl) :
    JE κ (.Call (.Name "isinstance" p) [a, b] [] pos) (.isi ca t) :=
  PE.weak (pe_callB call_isi hg hm (by decide +kernel) (pa_cons ha (pa_cons hb pa_nil he2) he) (he := he) (hpl := hpl)) fun σ H Q q => tM_bind (k := fun x e => isiV κ.P.T t x) q fun x Z F as e M H1 va re g ra o => by
    unfold isiV at o
    split at o
    · rename_i k hk
      obtain ⟨d, h1, h2⟩ := Option.bind_eq_some_iff.mp hk
      have hs := shape_ok h hi g ra h1
      refine ⟨x, _, tyD κ.G d, _, k, rfl, clsV_ty κ.G t, ?_, ?_, o _ F as H1 Up.refl g (Rep.bl k)⟩
      · unfold isiO at h2
        split at h2
        · rename_i c fs
          split at h2
          · rename_i hc
            cases h2
            exact hs fun _ _ z => by cases z; exact hc
          · cases h2
        · rename_i hno
          exact hs fun c fs z => (hno c fs z).elim
      · unfold isiO at h2
        split at h2
        · rename_i c fs
          split at h2
          · rename_i hc
            cases h2
            exact hi.kit t _ (fun _ _ z => by cases z; exact hc) ht
          · cases h2
        · rename_i hno
          cases h2
          exact hi.kit t d (fun c fs z => (hno c fs z).elim) ht
    · exact o.elim
end
end TD
set_option Elab.async false
set_option linter.all false
set_option maxRecDepth 100000
set_option maxHeartbeats 2000000
/-! TD, part I: built-in functions. -/
namespace TD
open PySem L2
inductive ShWs (G : GG) (F H : Hp) : List V → List D → Prop
  | nil : ShWs G F H [] []
  | cons {v : V} {vs : List V} {d : D} {ds : List D} : ShW G F H v d → ShWs G F H vs ds → ShWs G F H (v :: vs) (d :: ds)
theorem peeks_nx : ∀ {vs : List Vl} {M M' : Mem} {x : Xc}, peeks vs M ≠ some (.ex x, M')
  | [], M, M', x, e => by cases e
  | v :: r, M, M', x, e => by
    unfold peeks EM.bind at e
    cases q : peekW v M with
    | none => simp only [q] at e; cases e
    | some p =>
      obtain ⟨p, M1⟩ := p
      cases p with
      | ex y => exact peekW_nx q
      | ok d =>
        simp only [q] at e
        cases q2 : peeks r M1 with
        | none => simp only [q2] at e; cases e
        | some p2 =>
          obtain ⟨p2, M2⟩ := p2
          cases p2 with
          | ex y => exact peeks_nx q2
          | ok ds => simp only [q2] at e; cases e
theorem peeks_ok {G : GG} {F H : Hp} {as : List Addr} : ∀ {vs : List Vl} {xs : List V} {M M' : Mem} {ds : List D}, Good G Z F as M H → RepLs G F as xs vs → peeks vs M = some (.ok ds, M') → M' = M ∧ ShWs G F H xs ds
  | [], _, M, M', ds, g, .nil, e => by
    cases e
    exact ⟨rfl, .nil⟩
  | v :: r, _, M, M', ds, g, .cons h t, e => by
    unfold peeks EM.bind at e
    cases q : peekW v M with
    | none => simp only [q] at e; cases e
    | some p =>
      obtain ⟨p, M1⟩ := p
      cases p with
      | ex y => exact (peekW_nx q).elim
      | ok d =>
        simp only [q] at e
        obtain ⟨h1, h2⟩ := peekW_ok g h q
        subst h1
        cases q2 : peeks r M1 with
        | none => simp only [q2] at e; cases e
        | some p2 =>
          obtain ⟨p2, M2⟩ := p2
          cases p2 with
          | ex y => exact (peeks_nx q2).elim
          | ok es =>
            simp only [q2] at e
            cases e
            obtain ⟨h3, h4⟩ := peeks_ok g t q2
            exact ⟨h3, .cons h2 h4⟩
def bltU : BI → Value
  | .len => .builtin "len"
  | .all => .builtin "all"
  | .max2 => .builtin "max"
  | .min2 => .builtin "min"
  | .int => .type "int"
  | .tuple => .type "tuple"
  | .list => .type "list"
  | .repr => .builtin "repr"
  | .sortedSet => .builtin "sorted"
  | .sum => .builtin "sum"
  | .lenSet => .builtin "len"
mutual
/-- .. empty dicts, too -/
def flatE : Nat → D → Bool
  | _, .non => true
  | _, .bl _ => true
  | _, .int _ => true
  | _, .str _ => true
  | n + 1, .tup xs => flatsE n xs
  | n + 1, .lst xs => flatsE n xs
  | _, .dic [] => true
  | _, _ => false
def flatsE : Nat → List D → Bool
  | _, [] => true
  | n, x :: xs => flatE n x && flatsE n xs
end
mutual
theorem depth_pyE : ∀ (n : Nat) (d : D), flatE n d = true → (py d).depth ≤ n + 1
  | n, .non, _ => by show PyData.depth .none ≤ _; unfold PyData.depth; omega
  | n, .bl b, _ => by show PyData.depth (.bool b) ≤ _; unfold PyData.depth; omega
  | n, .int b, _ => by show PyData.depth (.int b) ≤ _; unfold PyData.depth; omega
  | n, .str b, _ => by show PyData.depth (.str b) ≤ _; unfold PyData.depth; omega
  | 0, .tup xs, h => by unfold flatE at h; cases h
  | 0, .lst xs, h => by unfold flatE at h; cases h
  | n + 1, .tup xs, h => by
    unfold flatE at h
    have := depths_pyE n xs h
    show PyData.depth (.tuple (pys xs)) ≤ _
    unfold PyData.depth
    omega
  | n + 1, .lst xs, h => by
    unfold flatE at h
    have := depths_pyE n xs h
    show PyData.depth (.list (pys xs)) ≤ _
    unfold PyData.depth
    omega
  | n, .dic kvs, h => by
    show PyData.depth (.dict []) ≤ _
    unfold PyData.depth PyData.depthKv
    omega
  | _, .obj _ _, h => by unfold flatE at h; cases h
  | _, .exc _ _, h => by unfold flatE at h; cases h
theorem depths_pyE : ∀ (n : Nat) (d : List D), flatsE n d = true → PyData.depthAll (pys d) ≤ n + 1
  | n, [], _ => by show PyData.depthAll [] ≤ _; unfold PyData.depthAll; omega
  | n, x :: xs, h => by
    unfold flatsE at h
    obtain ⟨a1, a2⟩ := Bool.and_eq_true_iff.mp h
    have h1 := depth_pyE n x a1
    have h2 := depths_pyE n xs a2
    show PyData.depthAll (py x :: pys xs) ≤ _
    unfold PyData.depthAll
    omega
end
/-- repr of data -/
def rpD (d : D) : Option Str :=
  match d with
  | .dic [] => some "{}"
  | d => if flatE 20 d && (py d).showable && szOk (py d).shown.length then some (py d).shown else none
section
variable {G : GG} {X : Cx} {F H : Hp} {pins : List (Addr × Obj)} {σ : L2.St} {s : Shared}
mutual
theorem Rep.reprK (hk : X.K = G.K) (ex : Ex F H) (I : Inv X pins σ H s) : ∀ (n : Nat) (d : D) (v : V) (u : Value), flatE n d = true → Rep G F v d → RelV v u → (py d).showable = true → (py d).shown.length ≤ sizeLine →
    ∃ as bs, Reads s.heap u (py d) as ∧ ReadAtMost s.heap (py d).depth bs ∧ ReprK X.prog X.w bs s.heap (py d).depth u (py d).shown
  | _, .non, _, _, _, h, r, _, _ => by
    cases h
    cases (show _ = Value.none from r)
    exact ⟨_, [], Reads.none, (fun _ h => nomatch h), by show ReprK _ _ _ _ _ _ (PyData.shown .none); simp only [PyData.shown]; exact .of_is ReprIs.none _ _ _⟩
  | _, .bl b, _, _, _, h, r, _, _ => by
    cases h
    cases (show _ = Value.bool b from r)
    exact ⟨_, [], Reads.bool b, (fun _ h => nomatch h), by show ReprK _ _ _ _ _ _ (PyData.shown (.bool b)); simp only [PyData.shown]; exact .of_is (ReprIs.bool b) _ _ _⟩
  | _, .int i, _, _, _, h, r, hs, _ => by
    cases h
    obtain ⟨t, q⟩ := (show ∃ t, _ = Value.int i t from r)
    cases q
    exact ⟨_, [], Reads.int i t, (fun _ h => nomatch h), by show ReprK _ _ _ _ _ _ (PyData.shown (.int i)); simp only [PyData.shown]; exact .of_is (ReprIs.int t (by simpa [py, PyData.showable] using hs)) _ _ _⟩
  | _, .str x, _, _, _, h, r, hs, hz => by
    cases h
    obtain ⟨t, q⟩ := (show ∃ t, _ = Value.str x t from r)
    cases q
    exact ⟨_, [], Reads.str x t, (fun _ h => nomatch h), by show ReprK _ _ _ _ _ _ (PyData.shown (.str x)); simp only [PyData.shown]; exact .of_is (ReprIs.str x t (by simpa only [py, PyData.shown] using hz)) _ _ _⟩
  | 0, .tup xs, _, _, f, _, _, _, _ => by unfold flatE at f; cases f
  | 0, .lst xs, _, _, f, _, _, _, _ => by unfold flatE at f; cases f
  | n + 1, .tup ds, _, _, f, h, r, hs, hz => by
    unfold flatE at f
    cases h with
    | tup hsq ha =>
      rename_i a vs
      cases (show _ = Value.ref a from r)
      obtain ⟨its, rv, ⟨o, ho, hc, m, hd⟩, _⟩ := I.tuple (by rw [hk]; exact Evl.ex_t ex hsq)
      have hz' : (tupleText (PyData.shownAll (pys ds))).length ≤ sizeLine := by simpa only [py, PyData.shown] using hz
      obtain ⟨as, bs, hr, hb, hk2⟩ := Reps.reprK hk ex I n ds vs its f ha rv (by simpa [py, PyData.showable] using hs) (fun t ht => Nat.le_trans (tupleText_mem_le ht) hz')
      have rr : Reads s.heap (.ref a) (.tuple (pys ds)) _ := Reads.tuple ho hc hd hr
      have hna : a ∉ bs := not_mem_of_deeper rr (by simp only [PyData.depth]; omega) hb
      refine ⟨_, a :: bs, rr, ReadAtMost.cons (d := .tuple (pys ds)) rr (by simp only [PyData.depth]; omega) hb, ?_⟩
      simp only [py, PyData.depth, PyData.shown]
      exact ReprK.tuple ho hc hd hna hk2
  | n + 1, .lst ds, _, _, f, h, r, hs, hz => by
    unfold flatE at f
    cases h with
    | lst hsq ha =>
      rename_i a vs
      cases (show _ = Value.ref a from r)
      obtain ⟨its, rv, ⟨o, m, ho, hc, _, hd⟩, _⟩ := I.list (.inl (.inl (ex _ _ hsq)))
      have hz' : (listText (PyData.shownAll (pys ds))).length ≤ sizeLine := by simpa only [py, PyData.shown] using hz
      obtain ⟨as, bs, hr, hb, hk2⟩ := Reps.reprK hk ex I n ds vs its f ha rv (by simpa [py, PyData.showable] using hs) (fun t ht => Nat.le_trans (listText_mem_le ht) hz')
      have rr : Reads s.heap (.ref a) (.list (pys ds)) _ := Reads.list ho hc hd hr
      have hna : a ∉ bs := not_mem_of_deeper rr (by simp only [PyData.depth]; omega) hb
      refine ⟨_, a :: bs, rr, ReadAtMost.cons (d := .list (pys ds)) rr (by simp only [PyData.depth]; omega) hb, ?_⟩
      simp only [py, PyData.depth, PyData.shown]
      cases its with
      | nil =>
        cases ds with
        | nil =>
          simp only [pys, PyData.shownAll, listText_nil]
          exact ReprK.listEmpty ho hc hd
        | cons d ds => cases rv; cases ha
      | cons x l => exact ReprK.list ho hc hd hna (by simpa using hk2.length_eq) (fun i y e => hk2.item i y (by simpa using e))
  | _, .dic kvs, _, _, f, h, r, hs, hz => by
    cases kvs with
    | cons p q => unfold flatE at f; cases f
    | nil =>
      cases h with
      | dic hd hr =>
        rename_i a ks
        cases hr
        cases (show _ = Value.ref a from r)
        obtain ⟨_, hsm, ws, kv, ob, es, ep, e1, e2, e3, _, hp, _⟩ := I.hok a _ (ex _ _ hd)
        cases kv
        have hes : es.toList = [] := by
          cases q : es.toList with
          | nil => rfl
          | cons x y => rw [q] at hp; cases hp
        have rd : Reads s.heap (.ref a) (.dict []) (a :: [] ++ []) := Reads.dict e1 e2.1 e3 (by rw [hes]; exact ReadsAll.nil) (by rw [hes]; exact ReadsAll.nil)
        refine ⟨_, [a], rd, ReadAtMost.cons (n := 0) (d := .dict []) rd (by simp only [PyData.depth]; omega) (fun _ h => nomatch h), ?_⟩
        simp only [py, PyData.depth, PyData.shown]
        exact ReprK.dict e1 e2.1 e3 hsm (by simp) (by rw [hes]; exact .nil)
  | _, .obj _ _, _, _, f, _, _, _, _ => by unfold flatE at f; cases f
  | _, .exc _ _, _, _, f, _, _, _, _ => by unfold flatE at f; cases f
theorem Reps.reprK (hk : X.K = G.K) (ex : Ex F H) (I : Inv X pins σ H s) : ∀ (n : Nat) (ds : List D) (vs : List V) (us : List Value), flatsE n ds = true → Reps G F vs ds → Vals vs us → PyData.showableAll (pys ds) = true → (∀ t ∈ PyData.shownAll (pys ds), t.length ≤ sizeLine) →
    ∃ as bs, ReadsAll s.heap us (pys ds) as ∧ ReadAtMost s.heap (PyData.depthAll (pys ds)) bs ∧ ReprAllK X.prog X.w bs s.heap (PyData.depthAll (pys ds)) us (PyData.shownAll (pys ds))
  | _, [], _, _, _, h, r, _, _ => by
    cases h
    cases r
    exact ⟨_, [], ReadsAll.nil, (fun _ h => nomatch h), by simp only [pys, PyData.shownAll]; exact .nil⟩
  | n, d :: ds, _, _, f, h, r, hs, hz => by
    unfold flatsE at f
    obtain ⟨f1, f2⟩ := Bool.and_eq_true_iff.mp f
    have hs' : (py d).showable = true ∧ PyData.showableAll (pys ds) = true := by simpa [pys, PyData.showableAll] using hs
    cases h with
    | cons h1 h2 =>
      cases r with
      | cons r1 r2 =>
        obtain ⟨as1, b1, q1, hb1, k1⟩ := Rep.reprK hk ex I n d _ _ f1 h1 r1 hs'.1 (hz _ (by simp only [pys, PyData.shownAll]; exact List.mem_cons_self ..))
        obtain ⟨as2, b2, q2, hb2, k2⟩ := Reps.reprK hk ex I n ds _ _ f2 h2 r2 hs'.2 (fun t ht => hz t (by simp only [pys, PyData.shownAll]; exact List.mem_cons_of_mem _ ht))
        refine ⟨_, b1 ++ b2, ReadsAll.cons q1 q2, ?_, ?_⟩
        · intro b hm
          simp only [pys, PyData.depthAll]
          rcases List.mem_append.mp hm with hm | hm
          · obtain ⟨d', as', r', hd'⟩ := hb1 b hm
            exact ⟨d', as', r', Nat.le_trans hd' (Nat.le_max_left _ _)⟩
          · obtain ⟨d', as', r', hd'⟩ := hb2 b hm
            exact ⟨d', as', r', Nat.le_trans hd' (Nat.le_max_right _ _)⟩
        · simp only [pys, PyData.depthAll, PyData.shownAll]
          exact .cons ((k1.more fun b hb => List.mem_append_left _ hb).level_le (Nat.le_max_left _ _)) (k2.more_le (fun b hb => List.mem_append_right _ hb) (Nat.le_max_right _ _))
end
end
mutual
theorem noDict_py : ∀ (n : Nat) (d : D), flat n d = true → (py d).hasDict = false
  | _, .non, _ => rfl
  | _, .bl _, _ => rfl
  | _, .int _, _ => rfl
  | _, .str _, _ => rfl
  | 0, .tup xs, h => by unfold flat at h; cases h
  | 0, .lst xs, h => by unfold flat at h; cases h
  | n + 1, .tup xs, h => by
    unfold flat at h
    exact noDicts_py n xs h
  | n + 1, .lst xs, h => by
    unfold flat at h
    exact noDicts_py n xs h
  | _, .dic _, h => by unfold flat at h; cases h
  | _, .obj _ _, h => by unfold flat at h; cases h
  | _, .exc _ _, h => by unfold flat at h; cases h
theorem noDicts_py : ∀ (n : Nat) (d : List D), flats n d = true → PyData.hasDictAll (pys d) = false
  | _, [], _ => rfl
  | n, x :: xs, h => by
    unfold flats at h
    obtain ⟨a1, a2⟩ := Bool.and_eq_true_iff.mp h
    show ((py x).hasDict || PyData.hasDictAll (pys xs)) = false
    rw [noDict_py n x a1, noDicts_py n xs a2]
    rfl
end
theorem noDict_of {n : Nat} {d : D} {as : List Addr} (h : flat n d = true) : (py d).hasDict = true → sysModules ∉ as := fun q => by
  rw [noDict_py n d h] at q
  cases q
section
variable {κ : Kx} {F H : Hp} {as : List Addr} {M : Mem} {xs : List V} {vs : List Vl} {Q : VK} {E : XK}
theorem blt_got {b : BI} (g : Good κ.G Z F as M H) (r : RepLs κ.G F as xs vs) (o : Out κ.G Z F as (RepL κ.G) Q E (bltV κ.P.rp b vs M)) :
    ∃ ds d, bltD κ.P.rp b ds = some d ∧ ShWs κ.G F H xs ds ∧ ∀ w F' as' H', Up F as F' as' → Good κ.G Z F' as' M H' → Rep κ.G F' w d → Q w H' := by
  unfold bltV at o
  obtain ⟨ds, M1, e1, o1⟩ := o.got fun _ _ => peeks_nx
  obtain ⟨h1, h2⟩ := peeks_ok g r e1
  rw [h1] at o1
  obtain ⟨z, ez, q⟩ := o1.o
  obtain ⟨d, ed, rfl⟩ := Option.map_eq_some_iff.mp ez
  exact ⟨ds, d, ed, h2, q⟩
theorem call_len_ok (h : Ok0 κ) : CallR κ.X (.builtin "len") (rVs κ.G (bltV κ.P.rp .len)) := by
  intro pins s σ H xs us Q I r hr
  obtain ⟨E, Z, F, as, vs, M, g, rs, o⟩ := hr
  obtain ⟨ds, d, ed, sh, q⟩ := blt_got g rs o
  replace ed : lenD ds = some d := ed
  unfold lenD at ed
  split at ed
  · cases sh with
    | cons s1 s2 =>
      cases s2
      cases s1.str
      split at ed
      · rename_i hz
        cases ed
        exact call_len_str pins s σ H _ us Q I r ⟨_, rfl, szOk_le hz, q _ F as H Up.refl g (.int _)⟩
      · cases ed
  · cases ed
    cases sh with
    | cons s1 s2 =>
      cases s2
      obtain ⟨p, ws, rfl, t1, r1⟩ := s1.tup
      refine call_len_seq pins s σ H _ us Q I r ⟨p, ws, rfl, .inr (by rw [h.k]; exact Evl.ex_t g.sub t1), ?_⟩
      rw [r1.length]
      exact q _ F as H Up.refl g (.int _)
  · cases ed
    cases sh with
    | cons s1 s2 =>
      cases s2
      obtain ⟨p, ws, rfl, t1, r1⟩ := s1
      refine call_len_seq pins s σ H _ us Q I r ⟨p, ws, rfl, .inl (.inl t1), ?_⟩
      rw [r1.length]
      exact q _ F as H Up.refl g (.int _)
  · cases ed
    cases sh with
    | cons s1 s2 =>
      cases s2
      obtain ⟨p, ws, rfl, t1, r1⟩ := s1
      refine call_lenD pins s σ H _ us Q I r ⟨p, ws, rfl, t1, ?_⟩
      rw [r1.length]
      exact q _ F as H Up.refl g (.int _)
  · cases ed
theorem call_max_ok (hc : κ.X.calm = true) : CallR κ.X (.builtin "max") (rVs κ.G (bltV κ.P.rp .max2)) := by
  intro pins s σ H xs us Q I r hr
  obtain ⟨E, Z, F, as, vs, M, g, rs, o⟩ := hr
  obtain ⟨ds, d, ed, sh, q⟩ := blt_got g rs o
  replace ed : maxD ds = some d := ed
  unfold maxD at ed
  split at ed
  · cases ed
    cases sh with
    | cons s1 s2 =>
      cases s2 with
      | cons s2 s3 =>
        cases s3
        cases s1.int
        cases s2.int
        exact call_max2 hc pins s σ H _ us Q I r ⟨_, _, rfl, q _ F as H Up.refl g (.int _)⟩
  · cases ed
theorem call_min_ok (hc : κ.X.calm = true) : CallR κ.X (.builtin "min") (rVs κ.G (bltV κ.P.rp .min2)) := by
  intro pins s σ H xs us Q I r hr
  obtain ⟨E, Z, F, as, vs, M, g, rs, o⟩ := hr
  obtain ⟨ds, d, ed, sh, q⟩ := blt_got g rs o
  replace ed : minD ds = some d := ed
  unfold minD at ed
  split at ed
  · cases ed
    cases sh with
    | cons s1 s2 =>
      cases s2 with
      | cons s2 s3 =>
        cases s3
        cases s1.int
        cases s2.int
        exact call_min2 hc pins s σ H _ us Q I r ⟨_, _, rfl, q _ F as H Up.refl g (.int _)⟩
  · cases ed
theorem call_int_ok : CallR κ.X (.type "int") (rVs κ.G (bltV κ.P.rp .int)) := by
  intro pins s σ H xs us Q I r hr
  obtain ⟨E, Z, F, as, vs, M, g, rs, o⟩ := hr
  obtain ⟨ds, d, ed, sh, q⟩ := blt_got g rs o
  replace ed : intD ds = some d := ed
  unfold intD at ed
  split at ed
  · cases ed
    cases sh with
    | cons s1 s2 =>
      cases s2
      cases s1.int
      exact call_int1 pins s σ H _ us Q I r (.inl ⟨_, rfl, q _ F as H Up.refl g (.int _)⟩)
  · cases ed
    cases sh with
    | cons s1 s2 =>
      cases s2
      cases s1.bl
      exact call_int1 pins s σ H _ us Q I r (.inr ⟨_, rfl, q _ F as H Up.refl g (.int _)⟩)
  · cases ed
theorem call_tuple_ok (h : Ok0 κ) : CallR κ.X (.type "tuple") (rVs κ.G (bltV κ.P.rp .tuple)) := by
  intro pins s σ H xs us Q I r hr
  obtain ⟨E, Z, F, as, vs, M, g, rs, o⟩ := hr
  obtain ⟨ds, d, ed, sh, q⟩ := blt_got g rs o
  replace ed : tupleD ds = some d := ed
  unfold tupleD at ed
  split at ed
  · cases ed
    cases sh with
    | cons s1 s2 =>
      cases s2
      obtain ⟨p, ws, rfl, t1, r1⟩ := s1
      refine call_tuple_of pins s σ H _ us Q I r ⟨p, ws, rfl, .inl ⟨.inl t1, fun l hl => ?_⟩⟩
      obtain ⟨g2, u2⟩ := g.lay (o := .tup ws) hl
      exact q _ _ _ _ u2 g2 (.tup (.inl (.inl upd_same)) (r1.mono u2.ex))
  · cases ed
    cases sh with
    | cons s1 s2 =>
      cases s2
      obtain ⟨p, ws, rfl, t1, r1⟩ := s1.tup
      exact call_tuple_of pins s σ H _ us Q I r ⟨p, ws, rfl, .inr ⟨by rw [h.k]; exact Evl.ex_t g.sub t1, q _ F as H Up.refl g (.tup t1 r1)⟩⟩
  · cases ed
theorem call_list_ok (h : Ok0 κ) : CallR κ.X (.type "list") (rVs κ.G (bltV κ.P.rp .list)) := by
  intro pins s σ H xs us Q I r hr
  obtain ⟨E, Z, F, as, vs, M, g, rs, o⟩ := hr
  obtain ⟨ds, d, ed, sh, q⟩ := blt_got g rs o
  replace ed : listD ds = some d := ed
  unfold listD at ed
  split at ed
  · cases ed
    cases sh with
    | cons s1 s2 =>
      cases s2
      obtain ⟨p, ws, rfl, t1, r1⟩ := s1.tup
      refine call_list_of pins s σ H _ us Q I r ⟨p, ws, rfl, .inr (by rw [h.k]; exact Evl.ex_t g.sub t1), fun l hl => ?_⟩
      obtain ⟨g2, u2⟩ := g.lay (o := .lst ws) hl
      exact q _ _ _ _ u2 g2 (.lst upd_same (r1.mono u2.ex))
  · cases ed
    cases sh with
    | cons s1 s2 =>
      cases s2
      obtain ⟨p, ws, rfl, t1, r1⟩ := s1
      refine call_list_of pins s σ H _ us Q I r ⟨p, ws, rfl, .inl (.inl t1), fun l hl => ?_⟩
      obtain ⟨g2, u2⟩ := g.lay (o := .lst ws) hl
      exact q _ _ _ _ u2 g2 (.lst upd_same (r1.mono u2.ex))
  · cases ed
theorem allBl_bs {G : GG} {F : Hp} : ∀ {ws : List V} {ds : List D} {k : Bool}, Reps G F ws ds → allBl ds = some k → ∃ bs : List Bool, ws = bs.map V.bl ∧ bs.all id = k
  | _, _, k, .nil, e => by cases e; exact ⟨[], rfl, rfl⟩
  | _, _, k, .cons (d := d) h r, e => by
    cases d with
    | bl b =>
      simp only [allBl] at e
      obtain ⟨k2, e2, rfl⟩ := Option.map_eq_some_iff.mp e
      obtain ⟨bs, h1, h2⟩ := allBl_bs r e2
      cases Rep.blE h
      exact ⟨b :: bs, by rw [h1]; rfl, by rw [← h2]; rfl⟩
    | _ => cases e
theorem call_all_ok (hc : κ.X.calm = true) : CallR κ.X (.builtin "all") (rVs κ.G (bltV κ.P.rp .all)) := by
  intro pins s σ H xs us Q I r hr
  obtain ⟨E, Z, F, as, vs, M, g, rs, o⟩ := hr
  obtain ⟨ds, d, ed, sh, q⟩ := blt_got g rs o
  replace ed : allD ds = some d := ed
  unfold allD at ed
  split at ed
  · obtain ⟨k, ek, rfl⟩ := Option.map_eq_some_iff.mp ed
    cases sh with
    | cons s1 s2 =>
      cases s2
      obtain ⟨p, ws, rfl, t1, r1⟩ := s1
      obtain ⟨bs, rfl, hb⟩ := allBl_bs r1 ek
      refine cr_all hc pins s σ H _ us Q I r ⟨p, bs, rfl, .inl t1, ?_⟩
      rw [hb]
      exact q _ F as H Up.refl g (.bl _)
  · cases ed
theorem sumI_ns {G : GG} {F : Hp} : ∀ {ws : List V} {ds : List D} {k : Int}, Reps G F ws ds → sumI ds = some k → ∃ bs : List Int, ws = bs.map V.int ∧ bs.sum = k
  | _, _, k, .nil, e => by cases e; exact ⟨[], rfl, rfl⟩
  | _, _, k, .cons (d := d) h r, e => by
    cases d with
    | int b =>
      simp only [sumI] at e
      obtain ⟨k2, e2, rfl⟩ := Option.map_eq_some_iff.mp e
      obtain ⟨bs, h1, h2⟩ := sumI_ns r e2
      cases Rep.intE h
      exact ⟨b :: bs, by rw [h1]; rfl, by rw [← h2]; rfl⟩
    | _ => cases e
theorem call_sum_ok (hc : κ.X.calm = true) : CallR κ.X (.builtin "sum") (rVs κ.G (bltV κ.P.rp .sum)) := by
  intro pins s σ H xs us Q I r hr
  obtain ⟨E, Z, F, as, vs, M, g, rs, o⟩ := hr
  obtain ⟨ds, d, ed, sh, q⟩ := blt_got g rs o
  replace ed : sumD ds = some d := ed
  unfold sumD at ed
  split at ed
  · obtain ⟨k, ek, rfl⟩ := Option.map_eq_some_iff.mp ed
    cases sh with
    | cons s1 s2 =>
      cases s2
      obtain ⟨p, ws, rfl, t1, r1⟩ := s1
      obtain ⟨bs, rfl, hb⟩ := sumI_ns r1 ek
      refine cr_sum hc pins s σ H _ us Q I r ⟨p, bs, rfl, .inl t1, ?_⟩
      rw [hb]
      exact q _ F as H Up.refl g (.int _)
  · cases ed
theorem call_repr_ok (h : Ok0 κ) (hrp : κ.P.rp = rpD) : CallR κ.X (.builtin "repr") (rVs κ.G (bltV κ.P.rp .repr)) := by
  intro pins s σ H xs us Q I r hr
  obtain ⟨E, Z, F, as, vs, M, g, rs, o⟩ := hr
  obtain ⟨ds, d, ed, sh, q⟩ := blt_got g rs o
  replace ed : reprD κ.P.rp ds = some d := ed
  unfold reprD at ed
  split at ed
  · rename_i d0
    obtain ⟨z, ez, rfl⟩ := Option.map_eq_some_iff.mp ed
    rw [hrp] at ez
    cases sh with
    | cons s1 s2 =>
      cases s2
      obtain ⟨u, rfl, ru⟩ := r.one
      have qq : Q (.str z) H := q _ F as H Up.refl g (.str z)
      unfold rpD at ez
      split at ez
      · cases ez
        obtain ⟨p, ks, rfl, t1, r1⟩ := s1
        cases r1
        cases ru
        obtain ⟨_, hsm, ws, kv, ob, es, ep, e1, e2, e3, _, hp, _⟩ := I.hok p _ t1
        cases kv
        have hes : es.toList = [] := by
          cases q : es.toList with
          | nil => rfl
          | cons x y => rw [q] at hp; cases hp
        have rd : Reads s.heap (.ref p) (.dict []) (p :: [] ++ []) := Reads.dict e1 e2.1 e3 (by rw [hes]; exact ReadsAll.nil) (by rw [hes]; exact ReadsAll.nil)
        refine repr_of_reads' (d := .dict []) rd rfl (fun _ hm => ?_) h.gd (by have := h.u; show κ.X.A.units + (PyData.depth (.dict []) + 1) < cLine; have hd : PyData.depth (.dict []) ≤ 3 := by decide
                                                                               omega) (fun _ _ e => e) (fun h' u tk hk => ⟨.str _, H, I.kept hk, ⟨u, rfl⟩, qq⟩) (by decide +kernel)
        have : sysModules = p := by simpa using hm
        rw [this] at hsm
        simp at hsm
      · rename_i hno
        split at ez
        · rename_i ok
          cases ez
          obtain ⟨ok12, ok3⟩ := Bool.and_eq_true_iff.mp ok
          obtain ⟨ok1, ok2⟩ := Bool.and_eq_true_iff.mp ok12
          have hd := depth_pyE 20 d0 ok1
          have hu := h.u
          have hz := szOk_le ok3
          cases d0 with
          | non => cases s1.non; cases ru; exact PySem.P.repr_of_none ⟨.str _, H, I.tok _, ⟨_, rfl⟩, qq⟩
          | bl b =>
            cases s1.bl; cases ru
            cases b <;> exact PySem.P.repr_of_bool ⟨.str _, H, I.tok _, ⟨_, rfl⟩, qq⟩
          | int i =>
            cases s1.int; obtain ⟨t, rfl⟩ := ru
            exact PySem.P.repr_of_int (of_decide_eq_true ok2) ⟨.str _, H, I.tok _, ⟨_, rfl⟩, qq⟩
          | str w =>
            cases s1.str; obtain ⟨t, rfl⟩ := ru
            exact PySem.P.repr_of_str ⟨.str _, H, I.tok _, ⟨_, rfl⟩, qq⟩ hz
          | tup ys =>
            obtain ⟨p, ws, rfl, hsq, ha⟩ := s1.tup
            cases ru
            unfold flatE at ok1
            obtain ⟨its, rv, ⟨o, ho, hc, m, hdd⟩, _⟩ := I.tuple (by rw [h.k]; exact Evl.ex_t g.sub hsq)
            have hz' : (tupleText (PyData.shownAll (pys ys))).length ≤ sizeLine := by simpa only [py, PyData.shown] using hz
            obtain ⟨as1, bs, hr, hb, hk2⟩ := Reps.reprK h.k g.sub I 19 ys ws its ok1 ha rv (by simpa [py, PyData.showable] using ok2) (fun t ht => Nat.le_trans (tupleText_mem_le ht) hz')
            have rr : Reads s.heap (.ref p) (.tuple (pys ys)) _ := Reads.tuple ho hc hdd hr
            have hna : p ∉ bs := not_mem_of_deeper rr (by simp only [PyData.depth]; omega) hb
            simp only [py, PyData.depth] at hd
            have qq : Q (.str (tupleText (PyData.shownAll (pys ys)))) H := by simpa only [py, PyData.shown] using qq
            exact call_repr_slot (by omega) ⟨o, ho, hc⟩ PySem.F.slot_tuple_repr (call_tuple_reprK ho hc hdd hna hk2 h.gd (fun b _ => Clear.nil b) (by show κ.X.A.units + 1 + _ < cLine; omega) (fun _ _ e => e) (fun h' u tk hk => ⟨_, _, rfl, ⟨.str _, H, I.kept hk, ⟨u, rfl⟩, qq⟩⟩) hz')
          | lst ys =>
            obtain ⟨p, ws, rfl, hrd, ha⟩ := s1
            cases ru
            unfold flatE at ok1
            obtain ⟨its, rv, ⟨o, m, ho, hc, _, hdd⟩, _⟩ := I.list (.inl hrd)
            have hz' : (listText (PyData.shownAll (pys ys))).length ≤ sizeLine := by simpa only [py, PyData.shown] using hz
            obtain ⟨as1, bs, hr, hb, hk2⟩ := Reps.reprK h.k g.sub I 19 ys ws its ok1 ha rv (by simpa [py, PyData.showable] using ok2) (fun t ht => Nat.le_trans (listText_mem_le ht) hz')
            have rr : Reads s.heap (.ref p) (.list (pys ys)) _ := Reads.list ho hc hdd hr
            have hna : p ∉ bs := not_mem_of_deeper rr (by simp only [PyData.depth]; omega) hb
            simp only [py, PyData.depth] at hd
            have qq : Q (.str (listText (PyData.shownAll (pys ys)))) H := by simpa only [py, PyData.shown] using qq
            refine call_repr_slot (by omega) ⟨o, ho, hc⟩ PySem.F.slot_list_repr.toG ?_
            cases its with
            | nil =>
              cases ys with
              | nil =>
                simp only [pys, PyData.shownAll, listText_nil] at qq
                exact call_list_repr_empty ⟨o, ho, hc⟩ ho hdd ⟨_, _, rfl, ⟨.str _, H, I.tok _, ⟨_, rfl⟩, qq⟩⟩
              | cons d ds => cases rv; cases ha
            | cons x l => exact call_list_reprK ho hc hdd hna (by simpa using hk2.length_eq) (fun i y e => hk2.item i y (by simpa using e)) h.gd (fun b _ => Clear.nil b) (by show κ.X.A.units + 1 + _ < cLine; omega) (fun _ _ e => e) (fun h' u tk hk => ⟨_, _, rfl, ⟨.str _, H, I.kept hk, ⟨u, rfl⟩, qq⟩⟩) hz'
          | dic kvs =>
            cases kvs with
            | nil => exact (hno rfl).elim
            | cons p q => unfold flatE at ok1; cases ok1
          | obj _ _ => unfold flatE at ok1; cases ok1
          | exc _ _ => unfold flatE at ok1; cases ok1
        · cases ez
  · cases ed
end
end TD
set_option Elab.async false
set_option linter.all false
set_option maxRecDepth 100000
set_option maxHeartbeats 4000000
/-! TD, part N: enumerate(t), t a tuple. -/
namespace TD
open PySem L2
theorem enum_new_of {v : Value} {ob : Obj} {Hq : Heap → Prop} (B : Begins v ob Hq) :
    Meets (Builtin.«enumerate.__new__» ⟨[.type "enumerate", v], []⟩) (fun _ Rr st => Hq st.heap ∧
      Rr (.ok (.ret (.ref (st.heap.push ob).objs.size))) { st with heap := (st.heap.push ob).push { cls := .type "enumerate", data := .fields #[.none, .bool false, .ref st.heap.objs.size, rawInt 0, .none, .none] } }) :=
  .of_wp fun pr wo Ar Rr st hyp => by
    obtain ⟨hp, gn, dr, tk, os⟩ := st
    obtain ⟨hyp1, hyp2⟩ := hyp
    have sub1 := sub_enumerate
    have step1 : ∀ {Az : Around} {Ez : Value → Shared → Prop} {Qz : Value → Shared → Prop}, Qz (.ref hp.objs.size) ⟨hp.push ob, gn, dr, tk, os⟩ → wpAny (model pr wo) Az (pyIter v) Qz Ez ⟨hp, gn, dr, tk, os⟩ :=
      fun z => B.iter pr wo _ _ ⟨hp, gn, dr, tk, os⟩ _ hyp1 z
    wp_walk using step1
    refine wpAny_stack_any fun stk => wpAny_pure ?_
    split
    · rename_i cc _ _ _ _ _
      cases (cc == Value.type "enumerate")
      · wp_walk using step1
        exact ⟨_, rfl, hyp2⟩
      · wp_walk using step1
        exact ⟨_, rfl, hyp2⟩
    · wp_walk using step1
      exact ⟨_, rfl, hyp2⟩
theorem call_enum_of {pr : Program} {wo : World} {Ar : Around} {Er : Value → Shared → Prop} {st : Shared} {v : Value} {ob : Obj} {Hq : Heap → Prop} {Q : Value → Shared → Prop} (B : Begins v ob Hq) (h1 : Hq st.heap)
    (h : ∀ hh, IsEnum hh (st.heap.objs.size + 1) st.heap.objs.size 0 .none → hh.get? st.heap.objs.size = some ob → (∀ b o, st.heap.get? b = some o → hh.get? b = some o) → Q (.ref (st.heap.objs.size + 1)) { st with heap := hh }) :
    wpAny (model pr wo) Ar (call (.type "enumerate") [v]) Q Er st := by
  refine callType_new F.called_enumerate (by decide) (F.typeCall_enumerate_1 _) (F.newCall_enumerate_1 _) (fun obj => F.args_object_init_2 obj _) F.entry_enumerate_new (enum_new_of B) ⟨h1, ?_⟩
  have sz : (st.heap.push ob).objs.size = st.heap.objs.size + 1 := Heap.size_push ..
  show _ ∧ _
  rw [sz]
  have he : IsEnum ((st.heap.push ob).push { cls := .type "enumerate", data := .fields #[.none, .bool false, .ref st.heap.objs.size, rawInt 0, .none, .none] }) (st.heap.objs.size + 1) st.heap.objs.size 0 .none := by
    have q := Heap.get?_push_size (st.heap.push ob) (o := { cls := .type "enumerate", data := .fields #[.none, .bool false, .ref st.heap.objs.size, rawInt 0, .none, .none] }) rfl
    rw [sz] at q
    exact q
  exact ⟨⟨_, he, rfl⟩, h _ he (Heap.get?_push_of_some _ (Heap.get?_push_size _ B.free)) fun b o x => Heap.get?_push_of_some _ (Heap.get?_push_of_some _ x)⟩
/-- the tuple at a, its items in new pairs with their numbers -/
def ItT (K : PySem.W.Frag) (a : Addr) : It :=
  ⟨fun i H => ∃ (xs : List V) (x : V), SqT K H a xs ∧ xs[i]? = some x,
   fun i H v H2 => ∃ T x, v = .ref T ∧ H T = none ∧ H2 = upd H T (.tup [.int (i : Nat), x]) ∧ ∀ xs, SqT K H a xs → xs[i]? = some x,
   fun i H => ∃ xs : List V, SqT K H a xs ∧ xs.length = i⟩
theorem turn_enumT {P : Program} {w : World} {K : PySem.W.Frag} {elts : List Expr} {kk : Nat} {tpos : Pos} (a e it : Addr) (hai : a ≠ it) (hae : a ≠ e) :
    Turn P w K (.Tuple elts kk tpos) (ItT K a) [e, it] e (fun i h => (∃ old, IsEnum h e it ((i : Nat) : Int) old) ∧ h.IsTupleIter it a i ∧ e ≠ it) where
  mem := by simp
  obj := fun i h st b hb => by
    obtain ⟨⟨old, he⟩, ⟨o, ho, hc, hd⟩, _⟩ := st
    rcases (show b = e ∨ b = it by simpa using hb) with rfl | rfl
    · exact ⟨_, he, fun v q => nomatch q⟩
    · exact ⟨o, ho, fun v q => by rw [hd] at q; cases q⟩
  keep := fun i h h2 st k => by
    obtain ⟨⟨old, he⟩, hi, hne⟩ := st
    exact ⟨⟨old, k e (by simp) _ he⟩, hi.at fun o q => k it (by simp) o q, hne⟩
  item := by
    intro X hP hw hK hc i pins s σ H E I hf st hg
    subst hP hw hK
    obtain ⟨⟨old, he⟩, hit, hne⟩ := st
    obtain ⟨xs, x, hq, hx⟩ := hg
    obtain ⟨its, rv, p, hz⟩ := I.tuple hq
    obtain ⟨u, hu, ru⟩ := rv.get hx
    have D := Draws.tuple (prog := X.prog) (w := X.w) (A := X.A.in1) (I.ok.hd hc) it a hai its.toArray
    have Gn := GoesN.enumFrom (elts := elts) (x1 := kk) (pos := tpos) 0 D e hne (by simp [hne, hae.symm]) (by simp)
    have hil : i < its.toArray.size := by
      have := (List.getElem?_eq_some_iff.mp hu).1
      simpa using this
    refine wpAny_mono (Gn.goes i s (fun vv s2 => ∃ y H2, Inv X pins σ H2 s2 ∧ RelV y vv ∧ (ItT X.K a).yld i H y H2 ∧ ((∃ old, IsEnum s2.heap e it (((i + 1 : Nat)) : Int) old) ∧ s2.heap.IsTupleIter it a (i + 1) ∧ e ≠ it) ∧ ∀ b ∈ [e, it], H2 b = none) E hil ⟨⟨old, by rw [Int.zero_add]; exact he⟩, hit, p⟩ ?_) (fun r s1 z => z) (fun _ _ z => z)
    intro vv h2 tk hY hst hk _
    obtain ⟨T, t, xv, rfl, hT, hxv, hTu⟩ := hY
    obtain ⟨⟨old2, he2⟩, hit2, _⟩ := hst
    have exv : xv = u := by
      have h3 : its[i]? = some xv := by simpa using hxv
      rw [hu] at h3
      exact (Option.some.inj h3).symm
    subst exv
    have new : ObjOk X.prog X.w (upd H T (.tup [.int (i : Nat), x])) h2 T (.tup [.int (i : Nat), x]) :=
      ⟨by show 2 ≤ sizeLine; decide, [.int (0 + (i : Int)) t, xv], .cons ⟨t, by rw [Int.zero_add]⟩ (.cons ru .nil), hTu⟩
    have I1 := I.turnedNew (t' := tk) (ch := [e, it]) hk hf hT new
    refine ⟨.ref T, _, I1, rfl, ⟨T, x, rfl, I.hok.fresh hT, rfl, fun ys hy => ?_⟩, ⟨⟨old2, ?_⟩, hit2, hne⟩, fun b hb => ?_⟩
    · rw [I.tuple_inj hy hq]
      exact hx
    · rw [Int.zero_add] at he2
      exact he2
    · have hb1 : b < s.heap.objs.size := by
        rcases (show b = e ∨ b = it by simpa using hb) with rfl | rfl
        · exact Heap.lt_size he
        · obtain ⟨_, q, _⟩ := hit
          exact Heap.lt_size q
      rw [upd_ne (Nat.ne_of_lt (Nat.lt_of_lt_of_le hb1 hT))]
      exact (hf b hb).1
  done := by
    intro X hP hw hK hc i pins s σ H E I hf st hg
    subst hP hw hK
    obtain ⟨⟨old, he⟩, hit, hne⟩ := st
    obtain ⟨xs, hq, hx⟩ := hg
    obtain ⟨its, rv, p, hz⟩ := I.tuple hq
    have hl := rv.length
    obtain ⟨f0, f1, f2, f3, f4, f5⟩ := hf it (by simp)
    have D := Draws.tuple (prog := X.prog) (w := X.w) (A := X.A.in1) (I.ok.hd hc) it a hai its.toArray
    have hin : i = its.toArray.size := by rw [List.size_toArray, ← hl]; exact hx.symm
    refine wpAny_pyNext_enum_endD D he ⟨by rw [← hin]; exact hit, p⟩ fun h2 eb => ?_
    exact ⟨rfl, I.turned (t' := s.toks) (fun b o hb q => eb b o hb q) f0 f1 f3 f4 f5⟩
  self := fun A i s Q E st h => by
    obtain ⟨⟨_, he⟩, _⟩ := st
    exact wpAny_pyIter_enum he h
def iEnT (K : PySem.W.Frag) (ta : TA) : TI := fun σ H R => ta σ H fun vs H1 => ∃ a xs, vs = [.ref a] ∧ SqT K H1 a xs ∧ R (ItT K a) H1
theorem pi_enumT {X : Cx} {e : Expr} {ta : TA} {p pos tpos : Pos} {elts : List Expr} {kk : Nat} (hg : Gl X "enumerate") (hm : X.mg "enumerate" = none) (ha : PA X [e] ta) (hs : starEach [e] X.env = [(false, eval e X.env)] := by rfl) :
    PI X (.Tuple elts kk tpos) (.Call (.Name "enumerate" p) [e] [] pos) (iEnT X.K ta) := by
  refine ⟨fun pins s σ H R I h => ?_⟩
  refine wpAny_Call_Name_kw (ld_blt I hg hm PyProof.Rows.boot_enumerate (PyProof.Rows.callWith_type1 (thn (ha.run pos pins s σ H _ I h) fun us s1 ⟨vs, H1, I1, r1, a, xs, ex, hq, q⟩ => ?_) hs rfl))
  subst ex
  obtain ⟨u, rfl, ru⟩ := r1.one
  obtain rfl : u = Value.ref a := ru
  obtain ⟨its, rv, pt, hz⟩ := I1.tuple hq
  refine call_enum_of (begins_tuple a its.toArray) pt fun hh he hob hk => wpAny_pyIter_enum he ?_
  have I2 : Inv X pins σ H1 { s1 with heap := hh } := I1.kept (t' := s1.toks) hk
  have al : a < s1.heap.objs.size := by
    obtain ⟨o, g1, _⟩ := pt
    exact Heap.lt_size g1
  refine ⟨s1.heap.objs.size + 1, [s1.heap.objs.size + 1, s1.heap.objs.size], _, _, H1, rfl, I2, turn_enumT a (s1.heap.objs.size + 1) s1.heap.objs.size (Nat.ne_of_lt al) (Nat.ne_of_lt (Nat.lt_succ_of_lt al)), ⟨⟨.none, he⟩, ⟨_, hob, rfl, rfl⟩, Nat.succ_ne_self _⟩, fun b hb => ?_, q⟩
  have hle : s1.heap.objs.size ≤ b := by
    rcases (show b = s1.heap.objs.size + 1 ∨ b = s1.heap.objs.size by simpa using hb) with rfl | rfl
    · exact Nat.le_succ _
    · exact Nat.le_refl _
  exact I1.fpOk hle (I1.hok.fresh hle)
end TD
set_option Elab.async false
set_option linter.all false
set_option maxRecDepth 100000
set_option maxHeartbeats 4000000
/-! TD, part J: built-ins by name, iterators, targets, list comprehensions. -/
namespace TD
open PySem L2
section
variable {κ : Kx} {a b c e o : Expr} {ca cb cc ce co : CE} {es : List Expr} {cs : CL} {pos p p1 p2 p3 : Pos} {x : Str}
theorem je_bltB {b : BI} {id : String} (hc : CallR κ.X (.builtin id) (rVs κ.G (bltV κ.P.rp b))) (hg : Gl κ.X x) (hm : κ.X.mg x = none) (hv : bootBuiltins x = some (.builtin id)) (ha : JA κ (e :: es) cs) (hn : x ≠ "__name__" := by decide) (hdb : (x == ("__debug__" : Str)) = false := by decide)
    (he : starEach (e :: es) κ.X.env = (false, eval e κ.X.env) :: starEach es κ.X.env := by rfl) (hpl : (backTo pos (starEach es κ.X.env)).any (·.1) = false := by rfl) : JE κ (.Call (.Name x p) (e :: es) [] pos) (.blt b cs) :=
  PE.weak (pe_callB hc hg hm hv ha hn hdb he hpl) fun σ H Q t => tM_bind (R := RepLs κ.G) (S := RepL κ.G) (k := fun vs e => bltV κ.P.rp b vs) t fun vs Z F as e M H1 ds re g rs o => ⟨_, Z, F, as, ds, M, g, rs, o⟩
theorem je_bltT {b : BI} {id : String} (hc : CallR κ.X (.type id) (rVs κ.G (bltV κ.P.rp b))) (hg : Gl κ.X x) (hm : κ.X.mg x = none) (hv : bootBuiltins x = some (.type id)) (ha : JA κ (e :: es) cs) (hn : x ≠ "__name__" := by decide) (hdb : (x == ("__debug__" : Str)) = false := by decide)
    (he : starEach (e :: es) κ.X.env = (false, eval e κ.X.env) :: starEach es κ.X.env := by rfl) (hpl : (backTo pos (starEach es κ.X.env)).any (·.1) = false := by rfl) : JE κ (.Call (.Name x p) (e :: es) [] pos) (.blt b cs) :=
  PE.weak (pe_callTy hc hg hm hv ha hn hdb he hpl) fun σ H Q t => tM_bind (R := RepLs κ.G) (S := RepL κ.G) (k := fun vs e => bltV κ.P.rp b vs) t fun vs Z F as e M H1 ds re g rs o => ⟨_, Z, F, as, ds, M, g, rs, o⟩
theorem je_rev {k : Nat} (h : Ok0 κ) (ha : JE κ a ca) : JE κ (.Subscript a (.Slice none none (some (.UnaryOp .USub (.Constant (.int 1) k p1) p2)) p3) pos) (.rev ca) :=
  PE.weak (pe_revL ha) fun σ H Q t => tM_bind (R := RepL κ.G) (S := RepL κ.G) (k := fun x e => EM.bind (peek x) fun d => EM.o ((revD d).map .d)) t fun x Z F as e M H1 va re g ra o => by
    obtain ⟨d, M1, e1, o1⟩ := o.got fun _ _ => peek_nx
    obtain ⟨q1, s1⟩ := peek_ok g ra e1
    rw [q1] at o1
    obtain ⟨z, ez, q⟩ := o1.o
    obtain ⟨d2, ed, rfl⟩ := Option.map_eq_some_iff.mp ez
    cases d with
    | lst xs =>
      cases ed
      obtain ⟨p, vs, rfl, t1, r1⟩ := s1
      refine ⟨p, vs, rfl, .inl (.inl t1), fun l hl => ?_⟩
      obtain ⟨g2, u2⟩ := g.lay (o := .lst vs.reverse) hl
      exact q _ _ _ _ u2 g2 (.lst upd_same (r1.reverse.mono u2.ex))
    | _ => cases ed
end
/-! ### iterators -/
structure Walk (G : GG) (F : Hp) (as0 : List Addr) (J : It) (ds : List D) : Prop where
  go : ∀ {i : Nat} {d : D} {Z F' : Hp} {as : List Addr} {M : Mem} {H : Hp}, Ex F F' → Good G Z F' as M H → ds[i]? = some d → J.go i H
  yld : ∀ {i : Nat} {d : D} {Z F' : Hp} {as : List Addr} {M : Mem} {H : Hp} {x : V} {H2 : Hp}, Ex F F' → Good G Z F' as M H → ds[i]? = some d → J.yld i H x H2 → ∃ F2, Good G Z F2 as M H2 ∧ Ex F' F2 ∧ Rep G F2 x d
  stop : ∀ {Z F' : Hp} {as : List Addr} {M : Mem} {H : Hp}, Ex F F' → Good G Z F' as M H → J.stop ds.length H
theorem zipEnum_get : ∀ (xs : List D) (n i : Nat), (zipEnum n xs)[i]? = (xs[i]?).map fun x => .tup [.int ((n + i : Nat) : Int), x]
  | [], n, i => by simp [zipEnum]
  | x :: xs, n, 0 => by simp [zipEnum]
  | x :: xs, n, i + 1 => by
    have := zipEnum_get xs (n + 1) i
    simp only [zipEnum, List.getElem?_cons_succ]
    rw [this, show n + 1 + i = n + (i + 1) by omega]
theorem zipEnum_len : ∀ (xs : List D) (n : Nat), (zipEnum n xs).length = xs.length
  | [], n => rfl
  | x :: xs, n => by simp [zipEnum, zipEnum_len xs]
theorem rngGo_get : ∀ (n : Nat) (j : Int) (i : Nat) (d : D), (rngGo n j)[i]? = some d → i < n ∧ d = .int (j + i)
  | 0, j, i, d, h => by simp [rngGo] at h
  | n + 1, j, 0, d, h => by simp [rngGo] at h; exact ⟨by omega, by rw [← h]; simp⟩
  | n + 1, j, i + 1, d, h => by
    simp only [rngGo, List.getElem?_cons_succ] at h
    obtain ⟨h1, h2⟩ := rngGo_get n (j + 1) i d h
    exact ⟨by omega, by rw [h2]; congr 1; omega⟩
theorem rngGo_len : ∀ (n : Nat) (j : Int), (rngGo n j).length = n
  | 0, j => rfl
  | n + 1, j => by simp [rngGo, rngGo_len n]
section
variable {G : GG} {F : Hp} {as0 : List Addr} {K : PySem.W.Frag} {a : Addr} {vs : List V} {ds : List D}
theorem walk_list (h : F a = some (.lst vs)) (r : Reps G F vs ds) : Walk G F as0 (Itl K a) ds where
  go := fun e g hd => by
    obtain ⟨v, hv, _⟩ := r.get hd
    exact ⟨vs, v, .inl (.inl (g.sub _ _ (e _ _ h))), hv⟩
  yld := fun {i d Z F' as M H x H2} e g hd y => by
    obtain ⟨rfl, y⟩ := y
    obtain ⟨d2, h2, r2⟩ := r.getV (y vs (.inl (.inl (g.sub _ _ (e _ _ h)))))
    rw [hd] at h2
    cases h2
    exact ⟨F', g, Evl.Ex.refl _, r2.mono e⟩
  stop := fun e g => ⟨vs, .inl (.inl (g.sub _ _ (e _ _ h))), by rw [r.length]; exact Nat.le_refl _⟩
theorem walk_tup (h : SqT G.K F a vs) (r : Reps G F vs ds) : Walk G F as0 (Itt G.K a) ds where
  go := fun e g hd => by
    obtain ⟨v, hv, _⟩ := r.get hd
    exact ⟨vs, v, Evl.ex_t g.sub (Evl.ex_t e h), hv⟩
  yld := fun {i d Z F' as M H x H2} e g hd y => by
    obtain ⟨rfl, y⟩ := y
    obtain ⟨d2, h2, r2⟩ := r.getV (y vs (Evl.ex_t g.sub (Evl.ex_t e h)))
    rw [hd] at h2
    cases h2
    exact ⟨F', g, Evl.Ex.refl _, r2.mono e⟩
  stop := fun e g => ⟨vs, Evl.ex_t g.sub (Evl.ex_t e h), by rw [r.length]; exact Nat.le_refl _⟩
theorem pair_lay {Z F' : Hp} {as : List Addr} {M : Mem} {H : Hp} {T : Addr} {v : V} {d : D} {i : Nat} (g : Good G Z F' as M H) (hT : H T = none) (r : Rep G F' v d) :
    ∃ F2, Good G Z F2 as M (upd H T (.tup [.int (i : Nat), v])) ∧ Ex F' F2 ∧ Rep G F2 (.ref T) (.tup [.int ((0 + i : Nat) : Int), d]) := by
  obtain ⟨g2, u2⟩ := g.lay (o := .tup [.int (i : Nat), v]) hT
  refine ⟨_, g2, u2.ex, .tup (.inl (.inl upd_same)) (.cons ?_ (.cons (r.mono u2.ex) .nil))⟩
  rw [Nat.zero_add]
  exact .int _
theorem walk_enum (h : F a = some (.lst vs)) (r : Reps G F vs ds) : Walk G F as0 (Ite K a) (zipEnum 0 ds) where
  go := fun e g hd => by
    rw [zipEnum_get] at hd
    obtain ⟨d0, h0, rfl⟩ := Option.map_eq_some_iff.mp hd
    obtain ⟨v, hv, _⟩ := r.get h0
    exact ⟨vs, v, .inl (.inl (g.sub _ _ (e _ _ h))), hv⟩
  yld := fun {i d Z F' as M H x H2} e g hd y => by
    rw [zipEnum_get] at hd
    obtain ⟨d0, h0, rfl⟩ := Option.map_eq_some_iff.mp hd
    obtain ⟨T, v, rfl, hT, rfl, y⟩ := y
    obtain ⟨d2, h2, r2⟩ := r.getV (y vs (.inl (.inl (g.sub _ _ (e _ _ h)))))
    rw [h0] at h2
    cases h2
    exact pair_lay g hT (r2.mono e)
  stop := fun e g => ⟨vs, .inl (.inl (g.sub _ _ (e _ _ h))), by rw [r.length, zipEnum_len]; exact Nat.le_refl _⟩
theorem walk_enumT (h : SqT G.K F a vs) (r : Reps G F vs ds) : Walk G F as0 (ItT G.K a) (zipEnum 0 ds) where
  go := fun e g hd => by
    rw [zipEnum_get] at hd
    obtain ⟨d0, h0, rfl⟩ := Option.map_eq_some_iff.mp hd
    obtain ⟨v, hv, _⟩ := r.get h0
    exact ⟨vs, v, Evl.ex_t g.sub (Evl.ex_t e h), hv⟩
  yld := fun {i d Z F' as M H x H2} e g hd y => by
    rw [zipEnum_get] at hd
    obtain ⟨d0, h0, rfl⟩ := Option.map_eq_some_iff.mp hd
    obtain ⟨T, v, rfl, hT, rfl, y⟩ := y
    obtain ⟨d2, h2, r2⟩ := r.getV (y vs (Evl.ex_t g.sub (Evl.ex_t e h)))
    rw [h0] at h2
    cases h2
    exact pair_lay g hT (r2.mono e)
  stop := fun e g => ⟨vs, Evl.ex_t g.sub (Evl.ex_t e h), by rw [r.length, zipEnum_len]⟩
theorem walk_rng {n : Nat} : Walk G F as0 (Itr 0 n) (rngGo n 0) where
  go := fun e g hd => (rngGo_get _ _ _ _ hd).1
  yld := fun {i d Z F' as M H x H2} e g hd y => by
    obtain ⟨rfl, rfl⟩ := y
    rw [(rngGo_get _ _ _ _ hd).2]
    exact ⟨F', g, Evl.Ex.refl _, .int _⟩
  stop := fun e g => by
    rw [rngGo_len]
    exact Nat.le_refl _
theorem walk_chars {x : Str} : Walk G F as0 (Its x) (x.cps.toList.map fun c => .str ⟨#[c]⟩) where
  go := fun {i d Z F' as M H} e g hd => by
    have := (List.getElem?_eq_some_iff.mp hd).1
    show i < x.cps.size
    simpa using this
  yld := fun {i d Z F' as M H y H2} e g hd z => by
    obtain ⟨rfl, c, hc, rfl⟩ := z
    have : d = .str ⟨#[c]⟩ := by
      rw [List.getElem?_map, Array.getElem?_toList, hc] at hd
      exact (Option.some.inj hd).symm
    subst this
    exact ⟨F', g, Evl.Ex.refl _, .str _⟩
  stop := fun e g => by simp [Its]
end
def JI (κ : Kx) (tg e : Expr) (c : CI) : Prop := PI κ.X tg e (tM κ.G κ.hx κ.W (Walk κ.G) (runI κ.P.T κ.P.rp κ.cl c))
section
variable {κ : Kx} {tg a b c e o : Expr} {ca cb cc ce co : CE} {es elts : List Expr} {cs : CL} {pos p tpos : Pos} {x : Str} {kk : Nat}
theorem lst_of {F : Hp} {x : V} {xs : List D} {G : GG} (r : Rep G F x (.lst xs)) : ∃ a vs, x = .ref a ∧ F a = some (.lst vs) ∧ Reps G F vs xs := by
  cases r with
  | lst h r => exact ⟨_, _, rfl, h, r⟩
theorem tup_of {F : Hp} {x : V} {xs : List D} {G : GG} (r : Rep G F x (.tup xs)) : ∃ a vs, x = .ref a ∧ SqT G.K F a vs ∧ Reps G F vs xs := by
  cases r with
  | tup h r => exact ⟨_, _, rfl, h, r⟩
/-- which kind of sequence a computed one is -/
theorem seq_kind {m : EM Vl} {M : Mem} : (∃ v M1 xs M2, m M = some (.ok v, M1) ∧ toD v M1 = some (.ok (.lst xs), M2)) ∨ ∀ v M1 d M2, m M = some (.ok v, M1) → toD v M1 = some (.ok d, M2) → ∀ xs, d ≠ .lst xs := by
  by_cases h : ∃ v M1 xs M2, m M = some (.ok v, M1) ∧ toD v M1 = some (.ok (.lst xs), M2)
  · exact .inl h
  · exact .inr fun v M1 d M2 h1 h2 xs e => h ⟨v, M1, xs, M2, h1, by rw [h2, e]⟩
theorem ji_seq (h : Ok0 κ) (ha : JE κ a ca) : JI κ tg a (.seq ca) := by
  refine ⟨fun pins s σ H R I t => ?_⟩
  obtain ⟨Z, F, as, e, M, re, g, o⟩ := t
  rcases seq_kind (m := runE κ.P.T κ.P.rp κ.cl ca e) (M := M) with ⟨v, M1, xs, M2, h1, h2⟩ | hno
  · refine (pi_list ha).run pins s σ H R I ⟨Z, F, as, e, M, re, g, Out.bind o fun x F1 as1 H1 v' M1' e1 u1 g1 r1 o1 => ?_⟩
    rw [h1] at e1
    cases e1
    obtain ⟨F2, g2, u2, r2⟩ := toD_ok g1 r1 h2
    obtain ⟨p, vs, rfl, hp, rs⟩ := lst_of r2
    have o2 := Out.step h2 o1
    obtain ⟨ys, ey, q⟩ := Out.o o2
    refine ⟨p, rfl, ⟨vs, .inl (.inl (g2.sub _ _ hp))⟩, q _ F2 as1 H1 u2 g2 ?_⟩
    simp only [items, Option.bind_some] at ey
    split at ey
    · cases ey
      exact walk_list hp rs
    · cases ey
  · refine (pi_tup ha).run pins s σ H R I ⟨Z, F, as, e, M, re, g, Out.bind o fun x F1 as1 H1 v' M1' e1 u1 g1 r1 o1 => ?_⟩
    obtain ⟨d, M2, h2, o2⟩ := o1.got fun _ _ => toD_nx
    obtain ⟨F2, g2, u2, r2⟩ := toD_ok g1 r1 h2
    obtain ⟨ys, ey, q⟩ := Out.o o2
    have hl := hno _ _ _ _ e1 h2
    cases d with
    | tup xs =>
      obtain ⟨p, vs, rfl, hp, rs⟩ := tup_of r2
      refine ⟨p, rfl, ⟨vs, by rw [h.k]; exact Evl.ex_t g2.sub hp⟩, q _ F2 as1 H1 u2 g2 ?_⟩
      simp only [items, Option.bind_some] at ey
      split at ey
      · cases ey
        rw [h.k]
        exact walk_tup hp rs
      · cases ey
    | lst xs => exact (hl xs rfl).elim
    | _ => cases ey
theorem ji_enm (h : Ok0 κ) (hg : Gl κ.X "enumerate") (hm : κ.X.mg "enumerate" = none) (ha : JE κ a ca) (hs : starEach [a] κ.X.env = [(false, eval a κ.X.env)] := by rfl) : JI κ (.Tuple elts kk tpos) (.Call (.Name "enumerate" p) [a] [] pos) (.enm ca) := by
  have pa : PA κ.X [a] _ := pa_cons ha pa_nil hs
  refine ⟨fun pins s σ H R I t => ?_⟩
  obtain ⟨Z, F, as, e, M, re, g, o⟩ := t
  rcases seq_kind (m := runE κ.P.T κ.P.rp κ.cl ca e) (M := M) with ⟨v, M1, xs, M2, h1, h2⟩ | hno
  · refine (pi_enum hg hm pa hs).run pins s σ H R I ⟨Z, F, as, e, M, re, g, Out.bind o fun x F1 as1 H1 v' M1' e1 u1 g1 r1 o1 => ?_⟩
    rw [h1] at e1
    cases e1
    obtain ⟨F2, g2, u2, r2⟩ := toD_ok g1 r1 h2
    obtain ⟨p, vs, rfl, hp, rs⟩ := lst_of r2
    have o2 := Out.step h2 o1
    obtain ⟨ys, ey, q⟩ := Out.o o2
    refine ⟨p, vs, rfl, .inl (.inl (g2.sub _ _ hp)), q _ F2 as1 H1 u2 g2 ?_⟩
    simp only [items, Option.bind_some] at ey
    split at ey
    · cases ey
      exact walk_enum hp rs
    · cases ey
  · refine (pi_enumT hg hm pa hs).run pins s σ H R I ⟨Z, F, as, e, M, re, g, Out.bind o fun x F1 as1 H1 v' M1' e1 u1 g1 r1 o1 => ?_⟩
    obtain ⟨d, M2, h2, o2⟩ := o1.got fun _ _ => toD_nx
    obtain ⟨F2, g2, u2, r2⟩ := toD_ok g1 r1 h2
    obtain ⟨ys, ey, q⟩ := Out.o o2
    have hl := hno _ _ _ _ e1 h2
    cases d with
    | tup xs =>
      obtain ⟨p, vs, rfl, hp, rs⟩ := tup_of r2
      refine ⟨p, vs, rfl, by rw [h.k]; exact Evl.ex_t g2.sub hp, q _ F2 as1 H1 u2 g2 ?_⟩
      simp only [items, Option.bind_some] at ey
      split at ey
      · cases ey
        rw [h.k]
        exact walk_enumT hp rs
      · cases ey
    | lst xs => exact (hl xs rfl).elim
    | _ => cases ey
theorem ji_rng (hg : Gl κ.X "range") (hm : κ.X.mg "range" = none) (ha : JE κ a ca) (hs : starEach [a] κ.X.env = [(false, eval a κ.X.env)] := by rfl) : JI κ tg (.Call (.Name "range" p) [a] [] pos) (.rng ca) := by
  have pa : PA κ.X [a] _ := pa_cons ha pa_nil hs
  refine ⟨fun pins s σ H R I t => (pi_range1 hg hm pa hs).run pins s σ H R I ?_⟩
  obtain ⟨Z, F, as, e, M, re, g, o⟩ := t
  refine ⟨Z, F, as, e, M, re, g, Out.bind o fun x F1 as1 H1 v' M1' e1 u1 g1 r1 o1 => ?_⟩
  obtain ⟨i, rfl, o2⟩ := Out.int r1 o1
  obtain ⟨ys, ey, q⟩ := Out.o o2
  split at ey
  · rename_i hb
    cases ey
    obtain ⟨b1, b2⟩ := Bool.and_eq_true_iff.mp hb
    have b1 := of_decide_eq_true b1
    have b2 := of_decide_eq_true b2
    exact ⟨i, rfl, b1, by omega, q _ F1 as1 H1 Up.refl g1 walk_rng⟩
  · cases ey
theorem ji_chars (ha : JE κ a ca) : JI κ tg a (.chars ca) := by
  refine ⟨fun pins s σ H R I t => (pi_str ha).run pins s σ H R I ?_⟩
  obtain ⟨Z, F, as, e, M, re, g, o⟩ := t
  refine ⟨Z, F, as, e, M, re, g, Out.bind o fun x F1 as1 H1 v' M1' e1 u1 g1 r1 o1 => ?_⟩
  cases v' with
  | loc n => exact o1.elim
  | d d =>
    cases d with
    | str y =>
      cases Rep.strE r1
      obtain ⟨ys, ey, q⟩ := Out.o o1
      split at ey
      · cases ey
        exact ⟨y, rfl, q _ F1 as1 H1 Up.refl g1 walk_chars⟩
      · cases ey
    | _ => exact o1.elim
end
/-! ### targets -/
mutual
def CG.sub : CG → List Nat → Bool
  | .name i, vs => vs.contains i
  | .tup gs, vs => gs.sub vs
def CGs.sub : CGs → List Nat → Bool
  | .nil, _ => true
  | .cons g r, vs => g.sub vs && r.sub vs
end
def CGs.len : CGs → Nat
  | .nil => 0
  | .cons _ r => r.len + 1
theorem asgs_len : ∀ {gs : CGs} {ds : List D} {e e' : Env}, asgs gs ds e = some e' → ds.length = gs.len
  | .nil, [], _, _, _ => rfl
  | .nil, _ :: _, _, _, h => by cases h
  | .cons _ _, [], _, _, h => by cases h
  | .cons g r, d :: ds, e, e', h => by
    unfold asgs at h
    obtain ⟨e1, h1, h2⟩ := Option.bind_eq_some_iff.mp h
    show _ + 1 = _ + 1
    rw [asgs_len h2]
theorem wipe_in {σ : L2.St} {j : Nat} : ∀ {vs : List Nat}, j ∈ vs → j < σ.length → (wipe σ vs)[j]? = some none
  | v :: vs, h, hl => by
    unfold wipe
    by_cases e : v = j
    · subst e
      exact List.getElem?_set_self (by rw [wipe_length]; exact hl)
    · rw [List.getElem?_set_ne e]
      exact wipe_in ((List.mem_cons.mp h).resolve_left fun q => e q.symm) hl
theorem wipe_set {σ : L2.St} {i : Nat} {x : Option V} {vs : List Nat} (h : i ∈ vs) : wipe (σ.set i x) vs = wipe σ vs := by
  refine List.ext_getElem? fun j => ?_
  by_cases hj : j ∈ vs
  · by_cases hl : j < σ.length
    · rw [wipe_in hj hl, wipe_in hj (by simpa using hl)]
    · rw [List.getElem?_eq_none (by rw [wipe_length]; simpa using hl), List.getElem?_eq_none (by rw [wipe_length]; omega)]
  · rw [wipe_out hj, wipe_out hj, List.getElem?_set_ne fun q => hj (by rw [← q]; exact h)]
theorem wipe_wipe {σ : L2.St} {vs : List Nat} : wipe (wipe σ vs) vs = wipe σ vs := by
  refine List.ext_getElem? fun j => ?_
  by_cases hj : j ∈ vs
  · by_cases hl : j < σ.length
    · rw [wipe_in hj hl, wipe_in hj (by rw [wipe_length]; exact hl)]
    · rw [List.getElem?_eq_none (by rw [wipe_length, wipe_length]; omega), List.getElem?_eq_none (by rw [wipe_length]; omega)]
  · rw [wipe_out hj]
def tgM (G : GG) (hx : Hx) (g : CG) : TG := fun v σ H Q => ∃ Z F as e M d e', EnvR G hx F as σ e ∧ Good G Z F as M H ∧ Rep G F v d ∧ asg g d e = some e' ∧ ∀ σ', EnvR G hx F as σ' e' → (∀ vs, g.sub vs = true → wipe σ' vs = wipe σ vs) → Q σ' H
def tgMs (G : GG) (hx : Hx) (g : CGs) : TGs := fun v σ H Q => ∃ Z F as e M d e', EnvR G hx F as σ e ∧ Good G Z F as M H ∧ Reps G F v d ∧ asgs g d e = some e' ∧ ∀ σ', EnvR G hx F as σ' e' → (∀ vs, g.sub vs = true → wipe σ' vs = wipe σ vs) → Q σ' H
def JG (κ : Kx) (tg : Expr) (g : CG) : Prop := PG κ.X tg (tgM κ.G κ.hx g)
def JGs (κ : Kx) (tg : List Expr) (g : CGs) : Prop := PGs κ.X tg (tgMs κ.G κ.hx g)
section
variable {κ : Kx} {tg : Expr} {es : List Expr} {g : CG} {gs : CGs} {pos : Pos} {x : Str} {i kk : Nat}
theorem jg_name (hN : κ.X.N.Nodup) (hi : κ.X.N[i]? = some x) (hx : Loc κ.X.env.scope x) (hf : κ.X.fn x = true ∨ κ.X.env.scope.names.lookup x = some .local) : JG κ (.Name x pos) (.name i) := by
  refine ⟨fun pins s σ H v u Q I r t => (pg_name hN hi hx hf).run pins s σ H v u Q I r ?_⟩
  obtain ⟨Z, F, as, e, M, d, e', re, g, rd, ea, q⟩ := t
  cases ea
  refine q _ (re.set (v := .d d) rd) fun vs hv => wipe_set ?_
  simpa [CG.sub] using hv
theorem jgs_nil : JGs κ [] .nil := by
  refine ⟨fun pins s σ H v u Q I r t => pgs_nil.run pins s σ H v u Q I r ?_⟩
  obtain ⟨Z, F, as, e, M, d, e', re, g, rd, ea, q⟩ := t
  cases rd with
  | nil =>
    cases ea
    exact ⟨rfl, q _ re fun _ _ => rfl⟩
  | cons _ _ => cases ea
theorem jgs_cons (h1 : JG κ tg g) (h2 : JGs κ es gs) (hs : (assignEach (tg :: es) κ.X.env).map (·.2) = assign tg κ.X.env :: (assignEach es κ.X.env).map (·.2) := by rfl) : JGs κ (tg :: es) (.cons g gs) := by
  refine ⟨fun pins s σ H v u Q I r t => (pgs_cons h1 h2 hs).run pins s σ H v u Q I r ?_⟩
  obtain ⟨Z, F, as, e, M, d, e', re, gd, rd, ea, q⟩ := t
  cases rd with
  | nil => cases ea
  | cons r1 r2 =>
    unfold asgs at ea
    obtain ⟨e1, h1, h2⟩ := Option.bind_eq_some_iff.mp ea
    refine ⟨_, _, rfl, Z, F, as, e, M, _, e1, re, gd, r1, h1, fun σ1 re1 w1 => ?_⟩
    refine ⟨Z, F, as, e1, M, _, e', re1, gd, r2, h2, fun σ2 re2 w2 => q σ2 re2 fun vs hv => ?_⟩
    unfold CGs.sub at hv
    obtain ⟨v1, v2⟩ := Bool.and_eq_true_iff.mp hv
    rw [w2 vs v2, w1 vs v1]
theorem jg_tup (h : Ok0 κ) (hc : κ.X.calm = true) (hg : JGs κ es gs) (hn : (assignEach es κ.X.env).length = gs.len := by rfl) (hst : (assignEach es κ.X.env).findIdx? (·.1) = none := by rfl) : JG κ (.Tuple es kk pos) (.tup gs) := by
  refine ⟨fun pins s σ H v u Q I r t => ?_⟩
  obtain ⟨Z, F, as, e, M, d, e', re, gd, rd, ea, q⟩ := t
  cases d with
  | tup xs =>
    obtain ⟨p, vs, rfl, hp, rs⟩ := tup_of rd
    have ea : asgs gs xs e = some e' := ea
    exact (pg_tup hc hg hn hst).run pins s σ H _ u Q I r ⟨p, vs, rfl, by rw [h.k]; exact Evl.ex_t gd.sub hp, by rw [rs.length, asgs_len ea], Z, F, as, e, M, xs, e', re, gd, rs, ea, fun σ' re' w => q σ' re' fun vs hv => w vs hv⟩
  | lst xs =>
    obtain ⟨p, vs, rfl, hp, rs⟩ := lst_of rd
    have ea : asgs gs xs e = some e' := ea
    exact (pg_unl hc hg hn hst).run pins s σ H _ u Q I r ⟨p, vs, rfl, .inl (.inl (gd.sub _ _ hp)), by rw [rs.length, asgs_len ea], Z, F, as, e, M, xs, e', re, gd, rs, ea, fun σ' re' w => q σ' re' fun vs hv => w vs hv⟩
  | _ => cases ea
end

/-! ### list comprehensions -/
abbrev Kx.blk (κ : Kx) (s : Shared) (H : Hp) (scope : Scope) (cenv : PySem.Env) (fp : List Addr) : Kx := { κ with X := κ.X.blk s H scope cenv fp, W := fun _ _ _ _ => False }
theorem Ok.blk {κ : Kx} (h : Ok κ) (s : Shared) (H : Hp) (scope : Scope) (cenv : PySem.Env) (fp : List Addr) : Ok (κ.blk s H scope cenv fp) where
  k := h.k
  u := h.u
  gd := h.gd
  fld := h.fld
  calm := h.calm
  room := h.room
  tk := fun u s' ⟨a, B, sI, pins, σ, H, cls, d, e, I, nb, up, sky, na, os, ag, w⟩ => w.elim
  po := PassesOwn.never
  nd := h.nd
  fn := h.fn
  met := h.met
  cls := h.cls
theorem wipeS_some {l : List (Option Vl)} {i : Nat} {x : Vl} : ∀ {vs : List Nat}, (wipeS l vs)[i]? = some (some x) → l[i]? = some (some x) ∧ i ∉ vs
  | [], h => ⟨h, by simp⟩
  | v :: vs, h => by
    unfold wipeS at h
    by_cases e : v = i
    · subst e
      by_cases hv : v < (wipeS l vs).length
      · rw [List.getElem?_set_self hv] at h; cases h
      · rw [List.getElem?_eq_none (by simpa using hv)] at h; cases h
    · rw [List.getElem?_set_ne e] at h
      obtain ⟨h1, h2⟩ := wipeS_some h
      exact ⟨h1, fun q => (List.mem_cons.mp q).elim (fun z => e z.symm) h2⟩
theorem wipeS_length (l : List (Option Vl)) : ∀ vs : List Nat, (wipeS l vs).length = l.length
  | [] => rfl
  | v :: vs => by unfold wipeS; rw [List.length_set, wipeS_length l vs]
theorem EnvR.wipe {G : GG} {hx : Hx} {F : Hp} {as : List Addr} {σ : L2.St} {e : Env} (r : EnvR G hx F as σ e) (vs : List Nat) : EnvR G hx F as (L2.wipe σ vs) (e.wipe vs) :=
  ⟨by rw [wipe_length, r.len]; exact (wipeS_length _ _).symm, fun i v h => by
    obtain ⟨h1, h2⟩ := wipeS_some h
    obtain ⟨x, h3, h4⟩ := r.at_ i v h1
    exact ⟨x, by rw [wipe_out h2]; exact h3, h4⟩, fun x h => by cases h⟩
theorem noEx_ok {α : Type} {m : EM α} {M M' : Mem} {a : α} (h : noEx m M = some (.ok a, M')) : m M = some (.ok a, M') := by
  unfold noEx at h
  split at h
  · rename_i h1
    rw [h1]
    exact h
  · cases h
theorem noEx_nx {α : Type} {m : EM α} {M M' : Mem} {x : Xc} : noEx m M ≠ some (.ex x, M') := by
  intro h
  unfold noEx at h
  split at h <;> cases h
theorem EM.bind_ok {α β : Type} {m : EM α} {k : α → EM β} {M M' : Mem} {b : β} (h : EM.bind m k M = some (.ok b, M')) : ∃ a M1, m M = some (.ok a, M1) ∧ k a M1 = some (.ok b, M') := by
  unfold EM.bind at h
  cases q : m M with
  | none => rw [q] at h; cases h
  | some r =>
    obtain ⟨r, M1⟩ := r
    rw [q] at h
    cases r with
    | ok a => exact ⟨a, M1, rfl, h⟩
    | ex x => cases h
theorem lcGo_nx {f : D → EM (Option D)} : ∀ {xs : List D} {M M' : Mem} {x : Xc}, lcGo f xs M ≠ some (.ex x, M')
  | [], M, M', x, h => by cases h
  | d :: xs, M, M', x, h => by
    unfold lcGo EM.bind at h
    cases q : noEx (f d) M with
    | none => rw [q] at h; cases h
    | some r =>
      obtain ⟨r, M1⟩ := r
      rw [q] at h
      cases r with
      | ex y => exact noEx_nx q
      | ok a =>
        simp only at h
        cases q2 : lcGo f xs M1 with
        | none => rw [q2] at h; cases h
        | some r2 =>
          obtain ⟨r2, M2⟩ := r2
          rw [q2] at h
          cases r2 with
          | ex y => exact lcGo_nx q2
          | ok ys => cases h
theorem lcGo_cons {f : D → EM (Option D)} {d : D} {xs ys : List D} {M M' : Mem} (h : lcGo f (d :: xs) M = some (.ok ys, M')) : ∃ o M1 zs, f d M = some (.ok o, M1) ∧ lcGo f xs M1 = some (.ok zs, M') ∧ ys = (match o with | some y => y :: zs | none => zs) := by
  unfold lcGo at h
  obtain ⟨o, M1, h1, h2⟩ := EM.bind_ok h
  obtain ⟨zs, M2, h3, h4⟩ := EM.bind_ok h2
  cases h4
  exact ⟨o, M1, zs, noEx_ok h1, h3, rfl⟩
section
variable {κ : Kx} {tg iter elt : Expr} {ifs : List Expr} {scope : Scope} {own : List (Str × Nat)} {ci : CI} {g : CG} {ct : CTs} {ce : CE} {pos spos py : Pos}
theorem jts_nil : JTs κ [] .nil := ⟨fun pins s σ H Q I t => by
  obtain ⟨Z, F, as, e, M, re, g, o⟩ := t
  exact pts_nil.run pins s σ H Q I (o _ F as H Up.refl g rfl)⟩
theorem jts_one {c : Expr} {t : CT} (h : JT κ c t) : JTs κ [c] (.one t) := pts_one h
theorem w_lc {σ : L2.St} {H : Hp} {Q : VK} (hsub : g.sub (own.map (·.2)) = true) (t : tM κ.G κ.hx κ.W (RepL κ.G) (runE κ.P.T κ.P.rp κ.cl (.lc g ci ct ce (own.map (·.2)))) σ H Q) :
    tLc (tM κ.G κ.hx κ.W (Walk κ.G) (runI κ.P.T κ.P.rp κ.cl ci)) (tgM κ.G κ.hx g) (tM κ.G κ.hx (fun _ _ _ _ => False) rB (runTs κ.P.T κ.P.rp κ.cl ct)) (tM κ.G κ.hx (fun _ _ _ _ => False) (RepL κ.G) (runE κ.P.T κ.P.rp κ.cl ce)) (own.map (·.2)) σ H Q := by
  generalize hvs : own.map (·.2) = vs at t hsub
  refine tM_bind (R := Walk κ.G) (S := RepL κ.G) (k := fun xs e => EM.bind (lcGo (fun x => match asg g x (e.wipe vs) with
      | none => EM.fail
      | some e' => EM.bind (runTs κ.P.T κ.P.rp κ.cl ct e') fun k => if k then EM.bind (runE κ.P.T κ.P.rp κ.cl ce e') fun v => EM.bind (toD v) fun d => EM.pure (some d) else EM.pure none) xs) mkLst) t fun J Z F as e M H1 xs re gd wk o => ?_
  intro D hD
  generalize hf : (fun x => match asg g x (e.wipe vs) with
      | none => EM.fail
      | some e' => EM.bind (runTs κ.P.T κ.P.rp κ.cl ct e') fun k => if k then EM.bind (runE κ.P.T κ.P.rp κ.cl ce e') fun v => EM.bind (toD v) fun d => EM.pure (some d) else EM.pure none) = f at o
  obtain ⟨tot, Me, e1, o1⟩ := o.got fun _ _ => lcGo_nx
  obtain ⟨z, ez, q⟩ := Out.o o1
  split at ez
  case isFalse => cases ez
  rename_i hz
  cases ez
  have hz := szOk_le hz
  let S : Nat → Hp → Prop := fun i H => ∃ F' as' M' acc accD ys, Up F as F' as' ∧ Good κ.G (upd Z D (.lst acc)) F' as' M' H ∧ Reps κ.G F' acc accD ∧ lcGo f (xs.drop i) M' = some (.ok ys, Me) ∧ tot = accD ++ ys
  refine ⟨fun i m H => m = xs.length - i ∧ i ≤ xs.length ∧ S i H, ⟨xs.length, by simp, Nat.zero_le _, F, as, M, [], [], tot, Up.refl, gd.aside hD, .nil, e1, rfl⟩, ?_⟩
  rintro i m H2 ⟨rfl, hi, F', as', M', acc, accD, ys, u1, g1, ra, el, et⟩
  by_cases hlt : i < xs.length
  · refine .inr ?_
    have hx : xs[i]? = some xs[i] := List.getElem?_eq_getElem hlt
    refine ⟨wk.go u1.ex g1 hx, S (i + 1), fun H3 h3 => ⟨_, by omega, rfl, by omega, h3⟩, fun xv H3 y3 => ?_⟩
    obtain ⟨F2, g2, ex2, rx⟩ := wk.yld u1.ex g1 hx y3
    rw [List.drop_eq_getElem_cons hlt] at el
    obtain ⟨oo, M1, zs, ef, el2, ey⟩ := lcGo_cons el
    rw [← hf] at ef
    simp only at ef
    cases qa : asg g xs[i] (e.wipe vs) with
    | none => rw [qa] at ef; cases ef
    | some e' =>
      rw [qa] at ef
      simp only at ef
      have u2 : Up F as F2 as' := u1.trans ⟨ex2, List.prefix_refl _⟩
      refine ⟨_, F2, as', e.wipe vs, M', xs[i], e', (re.mono u2).wipe vs, g2, rx, qa, fun σ2 re2 w2 => ⟨(w2 vs hsub).trans wipe_wipe, ?_⟩⟩
      obtain ⟨k, M3, et3, ef⟩ := EM.bind_ok ef
      refine ⟨_, F2, as', e', M', re2, g2, ?_⟩
      rw [et3]
      intro b F3 as3 H4 u3 g3 hb
      cases (show b = k from hb)
      cases k with
      | false =>
        cases ef
        simp only [Bool.false_eq_true, if_false]
        exact ⟨F3, as3, M1, acc, accD, zs, u2.trans u3, g3, (ra.mono ex2).mono u3.ex, el2, by rw [et, ey]⟩
      | true =>
        simp only [if_true] at ef ⊢
        obtain ⟨v, M4, ev, ef⟩ := EM.bind_ok ef
        obtain ⟨d, M5, ed, ef⟩ := EM.bind_ok ef
        cases ef
        refine ⟨_, F3, as3, e', M3, re2.mono u3, g3, ?_⟩
        rw [ev]
        intro y F4 as4 H5 u4 g4 ry
        obtain ⟨F5, g5, u5, rd⟩ := toD_ok g4 ry ed
        have racc := ((ra.mono ex2).mono u3.ex).mono (u4.trans u5).ex
        have htot : tot = (accD ++ [d]) ++ zs := by rw [et, ey]; simp
        refine ⟨acc, g4.zh _ _ upd_same, ?_, F5, as4, M1, acc ++ [y], accD ++ [d], zs, (u2.trans u3).trans (u4.trans u5), ?_, racc.append (.cons rd .nil), el2, htot⟩
        · have := ra.length
          have hl : tot.length = accD.length + 1 + zs.length := by rw [htot]; simp; omega
          show acc.length < 16777216
          have h9 : tot.length ≤ 16777216 := hz
          omega
        · have := g5.turn (p := D) (u := .lst (acc ++ [y])) upd_same
          rw [upd_upd] at this
          exact this
  · have : i = xs.length := by omega
    subst this
    rw [List.drop_length] at el
    cases el
    refine .inl ⟨wk.stop u1.ex g1, ?_⟩
    obtain ⟨g3, u3⟩ := g1.adopt (Z0 := Z) (p := D) upd_same fun a u h => by
      have ne : a ≠ D := ne_of_none (gd.zh _ _ h) hD
      exact ⟨by rw [upd_ne ne]; exact h, ne⟩
    refine q _ _ _ _ (u1.trans u3) g3 (.lst upd_same ?_)
    rw [et, List.append_nil]
    exact ra.mono u3.ex
theorem je_lc (h : Ok κ) (hi : JI κ tg iter ci) (ok : BlkOk κ.X.N κ.X.env.scope scope own) (hsub : g.sub (own.map (·.2)) = true)
    (hg : ∀ (s : Shared) (H : Hp) (C : Addr) (cl : List (Str × Addr)) (fp : List Addr), JG (κ.blk s H scope (compEnvC scope cl C κ.X.env) fp) tg g)
    (ht : ∀ (s : Shared) (H : Hp) (C : Addr) (cl : List (Str × Addr)) (fp : List Addr), JTs (κ.blk s H scope (compEnvC scope cl C κ.X.env) fp) ifs ct)
    (he : ∀ (s : Shared) (H : Hp) (C : Addr) (cl : List (Str × Addr)) (fp : List Addr), JE (κ.blk s H scope (compEnvC scope cl C κ.X.env) fp) elt ce)
    (hs : ∀ x, foldedSetIterable iter κ.X.env x = pure x := by intro _; rfl) : JE κ (.ListComp elt [⟨tg, iter, ifs, 0⟩] scope pos) (.lc g ci ct ce (own.map (·.2))) :=
  PE.weak (pe_lc (g := tgM κ.G κ.hx g) (tt := tM κ.G κ.hx (fun _ _ _ _ => False) rB (runTs κ.P.T κ.P.rp κ.cl ct)) (te := tM κ.G κ.hx (fun _ _ _ _ => False) (RepL κ.G) (runE κ.P.T κ.P.rp κ.cl ce)) h.calm h.nd hi ok hg ht he hs) fun σ H Q t => w_lc hsub t
end
end TD
set_option Elab.async false
set_option linter.all false
set_option maxRecDepth 100000
set_option maxHeartbeats 4000000
/-! TD, part K: statements. -/
namespace TD
open PySem L2
def OutS (G : GG) (hx : Hx) (W : WX) (Z F : Hp) (as : List Addr) (D : Ends) : Option (Flw × Mem) → Prop
  | none => False
  | some (.next e, M) => ∀ σ F' as' H, Up F as F' as' → EnvR G hx F' as' σ e → Good G Z F' as' M H → D.nx σ H
  | some (.brk e, M) => ∀ σ F' as' H, Up F as F' as' → EnvR G hx F' as' σ e → Good G Z F' as' M H → D.bk σ H
  | some (.cnt e, M) => ∀ σ F' as' H, Up F as F' as' → EnvR G hx F' as' σ e → Good G Z F' as' M H → D.ct σ H
  | some (.ret v, M) => ∀ x F' as' H, Up F as F' as' → Good G Z F' as' M H → RepL G F' as' x v → D.rt x H
  | some (.ex x e, M) => ∀ dd fs σ F' as' H, Up F as F' as' → EnvR G hx F' as' σ e → Good G Z F' as' M H → F' dd = some (.xd fs) → RepF G F' fs x.fs → W (.ref (G.cl x.cls)) (some dd) σ H
def tS (G : GG) (hx : Hx) (W : WX) (m : Env → SM) : TS := fun D σ H => ∃ Z F as e M, EnvR G hx F as σ e ∧ Good G Z F as M H ∧ OutS G hx W Z F as D (m e M)
abbrev Kx.rS (κ : Kx) (c : CS) : Env → SM := runS κ.P.T κ.P.rp κ.P.XT κ.cl c
abbrev Kx.rSs (κ : Kx) (c : CSs) : Env → SM := runSs κ.P.T κ.P.rp κ.P.XT κ.cl c
def JS (κ : Kx) (st : Stmt) (c : CS) : Prop := PS κ.X st (tS κ.G κ.hx κ.W (κ.rS c))
def JSs (κ : Kx) (st : List Stmt) (c : CSs) : Prop := PSs κ.X st (tS κ.G κ.hx κ.W (κ.rSs c))
theorem PS.weak {X : Cx} {e : Stmt} {t t' : TS} (h : PS X e t) (f : ∀ D σ H, t' D σ H → t D σ H) : PS X e t' := ⟨fun pins s σ H D I q => h.run pins s σ H D I (f D σ H q)⟩
theorem PSs.weak {X : Cx} {e : List Stmt} {t t' : TS} (h : PSs X e t) (f : ∀ D σ H, t' D σ H → t D σ H) : PSs X e t' := ⟨fun pins s σ H D I q => h.run pins s σ H D I (f D σ H q)⟩
section
variable {G : GG} {hx : Hx} {W : WX} {Z F F' : Hp} {as as' : List Addr} {D D' : Ends} {α β : Type} {R : Hp → List Addr → β → α → Prop} {Q : β → Hp → Prop} {M : Mem} {σ : L2.St} {e : Env}
theorem OutS.up (u : Up F as F' as') : ∀ {r : Option (Flw × Mem)}, OutS G hx W Z F as D r → OutS G hx W Z F' as' D r
  | none, h => h
  | some (.next _, _), h => fun σ F2 as2 H2 u2 => h σ F2 as2 H2 (u.trans u2)
  | some (.brk _, _), h => fun σ F2 as2 H2 u2 => h σ F2 as2 H2 (u.trans u2)
  | some (.cnt _, _), h => fun σ F2 as2 H2 u2 => h σ F2 as2 H2 (u.trans u2)
  | some (.ret _, _), h => fun σ F2 as2 H2 u2 => h σ F2 as2 H2 (u.trans u2)
  | some (.ex _ _, _), h => fun dd fs σ F2 as2 H2 u2 => h dd fs σ F2 as2 H2 (u.trans u2)
theorem OutS.seq {m : EM α} {k : α → SM} (o : OutS G hx W Z F as D (seqE e m k M)) (re : EnvR G hx F as σ e)
    (f : ∀ b F' as' H' a M', m M = some (.ok a, M') → Up F as F' as' → Good G Z F' as' M' H' → R F' as' b a → OutS G hx W Z F' as' D (k a M') → Q b H') : Out G Z F as R Q (fun c d H' => W c d σ H') (m M) := by
  unfold seqE at o
  cases q : m M with
  | none => rw [q] at o; exact o
  | some r =>
    obtain ⟨r, M1⟩ := r
    rw [q] at o
    cases r with
    | ok a => exact fun b F' as' H' u g r => f b F' as' H' a M1 q u g r (OutS.up u o)
    | ex x => exact fun dd fs F' as' H' u g h1 h2 => o dd fs σ F' as' H' u (re.mono u) g h1 h2
theorem seqE_bind {γ : Type} {m : EM α} {f : α → EM γ} {k : γ → SM} : seqE e (EM.bind m f) k = seqE e m fun a => seqE e (f a) k := by
  funext M
  unfold seqE EM.bind
  cases m M with
  | none => rfl
  | some r =>
    obtain ⟨r, M1⟩ := r
    cases r <;> rfl
theorem OutS.got {m : EM α} {k : α → SM} (o : OutS G hx W Z F as D (seqE e m k M)) (np : ∀ x M', m M ≠ some (.ex x, M')) : ∃ a M', m M = some (.ok a, M') ∧ OutS G hx W Z F as D (k a M') := by
  unfold seqE at o
  cases q : m M with
  | none => rw [q] at o; exact o.elim
  | some r =>
    obtain ⟨r, M1⟩ := r
    rw [q] at o
    cases r with
    | ok a => exact ⟨a, M1, rfl, o⟩
    | ex x => exact (np x M1 q).elim
theorem OutS.gotO {o' : Option α} {k : α → SM} (o : OutS G hx W Z F as D (seqE e (EM.o o') k M)) : ∃ a, o' = some a ∧ OutS G hx W Z F as D (k a M) := by
  cases o' with
  | none => exact o.elim
  | some a => exact ⟨a, rfl, o⟩
theorem tS_bind {m : Env → EM α} {k : α → Env → SM} {H : Hp} (t : tS G hx W (fun e => seqE e (m e) fun a => k a e) D σ H)
    (f : ∀ b Z F as e M H' a, EnvR G hx F as σ e → Good G Z F as M H' → R F as b a → OutS G hx W Z F as D (k a e M) → Q b H') : tM G hx W R m σ H Q := by
  obtain ⟨Z, F, as, e, M, re, g, o⟩ := t
  exact ⟨Z, F, as, e, M, re, g, o.seq re fun b F1 as1 H1 a M1 _ u1 g1 r1 o1 => f b Z F1 as1 e M1 H1 a (re.mono u1) g1 r1 o1⟩
end
section
variable {κ : Kx} {a b c e o : Expr} {ca cb cc ce co : CE} {es : List Expr} {cs : CL} {pos p apos cpos pos' px py pz pt pt2 : Pos} {x y z : Str} {i j l : Nat} {st : Stmt} {sts : List Stmt} {cst : CS} {csts cb1 cb2 : CSs}
theorem jss_nil : JSs κ [] .nil := PSs.weak pss_nil fun D σ H t => by
  obtain ⟨Z, F, as, e, M, re, g, o⟩ := t
  exact o σ F as H Up.refl re g
theorem jss_cons (h1 : JS κ st cst) (h2 : JSs κ sts csts) : JSs κ (st :: sts) (.cons cst csts) := PSs.weak (pss_cons h1 h2) fun D σ H t => by
  obtain ⟨Z, F, as, e, M, re, g, o⟩ := t
  refine ⟨Z, F, as, e, M, re, g, ?_⟩
  have o : OutS κ.G κ.hx κ.W Z F as D (SM.then (κ.rS cst e) (fun e' => κ.rSs csts e') M) := o
  unfold SM.then at o
  cases q : κ.rS cst e M with
  | none => rw [q] at o; exact o
  | some r =>
    obtain ⟨r, M1⟩ := r
    rw [q] at o
    cases r with
    | next e1 => exact fun σ1 F1 as1 H1 u1 re1 g1 => ⟨Z, F1, as1, e1, M1, re1, g1, OutS.up u1 o⟩
    | ret v => exact o
    | brk e1 => exact o
    | cnt e1 => exact o
    | ex x e1 => exact o
theorem js_pass : JS κ (.Pass pos) .pass := PS.weak ps_pass fun D σ H t => by
  obtain ⟨Z, F, as, e, M, re, g, o⟩ := t
  exact o σ F as H Up.refl re g
theorem js_brk : JS κ (.Break pos) .brk := PS.weak ps_break fun D σ H t => by
  obtain ⟨Z, F, as, e, M, re, g, o⟩ := t
  exact o σ F as H Up.refl re g
theorem js_cnt : JS κ (.Continue pos) .cnt := PS.weak ps_continue fun D σ H t => by
  obtain ⟨Z, F, as, e, M, re, g, o⟩ := t
  exact o σ F as H Up.refl re g
theorem js_retN : JS κ (.Return none pos) .retN := PS.weak ps_retN fun D σ H t => by
  obtain ⟨Z, F, as, e, M, re, g, o⟩ := t
  exact o .non F as H Up.refl g .non
theorem js_ret (ha : JE κ a ca) : JS κ (.Return (some a) pos) (.ret ca) := PS.weak (ps_ret ha) fun D σ H t =>
  tS_bind (k := fun v e => SM.pure (.ret v)) t fun x Z F as e M H1 va re g ra o => o x F as H1 Up.refl g ra
theorem js_expr (ha : JE κ a ca) (hs : swapsWith a none pos.line κ.X.env = pure false := by rfl) : JS κ (.Expr a pos) (.expr ca) := PS.weak (ps_expr ha hs) fun D σ H t =>
  tS_bind (k := fun v e => SM.pure (.next e)) t fun x Z F as e M H1 va re g ra o => o σ F as H1 Up.refl re g
theorem w_set {D : Ends} {σ : L2.St} {H : Hp} (t : tS κ.G κ.hx κ.W (κ.rS (.set (.name i) ca)) D σ H) : tAsg (κ.rE ca) (gName i) D σ H := by
  have t : tS κ.G κ.hx κ.W (fun e => seqE e (EM.bind (runE κ.P.T κ.P.rp κ.cl ca e) fun v => EM.pure (e.set i v)) fun e' => SM.pure (.next e')) D σ H := t
  simp only [seqE_bind] at t
  exact tS_bind (k := fun v e => seqE e (EM.pure (e.set i v)) fun e' => SM.pure (.next e')) t fun x Z F as e M H1 va re g ra o => o _ F as H1 Up.refl (re.set ra) g
theorem js_set (hN : κ.X.N.Nodup) (hi : κ.X.N[i]? = some x) (hx : Loc κ.X.env.scope x) (hf : κ.X.fn x = true ∨ κ.X.env.scope.names.lookup x = some .local) (ha : JE κ a ca) (hs : swapsWith a (some (.Name x pos')) pos.line κ.X.env = pure false := by rfl) :
    JS κ (.Assign [.Name x pos'] a pos) (.set (.name i) ca) := PS.weak (ps_set hN hi hx ha hs hf) fun D σ H t => w_set t
theorem js_asg {g : CG} {gs : CGs} (ha : JE κ a ca) (hg : JG κ b (.tup gs)) (hs : swapsWithSole [b] a pos.line κ.X.env = pure false := by rfl) (hw : swappedStores [b] a κ.X.env = pure none := by rfl)
    (h1 : (assignEach [b] κ.X.env).map (·.2) = [assign b κ.X.env] := by rfl) : JS κ (.Assign [b] a pos) (.set (.tup gs) ca) := PS.weak (ps_asg ha hg hs hw h1) fun D σ H t => by
  have t : tS κ.G κ.hx κ.W (fun e => seqE e (EM.bind (runE κ.P.T κ.P.rp κ.cl ca e) fun v => EM.bind (toD v) fun d => EM.o (asg (.tup gs) d e)) fun e' => SM.pure (.next e')) D σ H := t
  simp only [seqE_bind] at t
  refine tS_bind (k := fun v e => seqE e (toD v) fun d => seqE e (EM.o (asg (.tup gs) d e)) fun e' => SM.pure (.next e')) t fun x Z F as e M H1 va re g ra o => ?_
  obtain ⟨d, M1, e1, o1⟩ := o.got fun _ _ => toD_nx
  obtain ⟨F1, g1, u1, r1⟩ := toD_ok g ra e1
  obtain ⟨e', ee, o2⟩ := o1.gotO
  exact ⟨Z, F1, as, e, M1, d, e', re.mono u1, g1, r1, ee, fun σ' re' _ => o2 σ' F1 as H1 u1 re' g1⟩
theorem js_par2 (h : Ok κ) {kt k2 : Nat} (hi : κ.X.N[i]? = some x) (hj : κ.X.N[j]? = some y) (hij : i ≠ j) (hx : κ.X.env.scope.names.lookup x = some .local) (hy : κ.X.env.scope.names.lookup y = some .local) (ha : JA κ [a, b] cs)
    (hw : swappedStores [.Tuple [.Name x px, .Name y py] kt pt] (.Tuple [a, b] k2 pt2) κ.X.env = pure (some [x, y]))
    (hs : swapsWithSole [.Tuple [.Name x px, .Name y py] kt pt] (.Tuple [a, b] k2 pt2) pos.line κ.X.env = pure false := by rfl) : JS κ (.Assign [.Tuple [.Name x px, .Name y py] kt pt] (.Tuple [a, b] k2 pt2) pos) (.par [i, j] cs) :=
  PS.weak (ps_par h.calm h.nd hi hj hij hx hy ha hw hs) fun D σ H t => by
    have t : tS κ.G κ.hx κ.W (fun e => seqE e (EM.bind (runL κ.P.T κ.P.rp κ.cl cs e) fun vs => EM.o (parS [i, j] vs e)) fun e' => SM.pure (.next e')) D σ H := t
    simp only [seqE_bind] at t
    refine tS_bind (R := RepLs κ.G) (k := fun vs e => seqE e (EM.o (parS [i, j] vs e)) fun e' => SM.pure (.next e')) t fun xs Z F as e M H1 vs re g rs o => ?_
    obtain ⟨e', ee, o2⟩ := o.gotO
    cases rs with
    | nil => cases ee
    | cons r1 rs =>
      cases rs with
      | nil => cases ee
      | cons r2 rs =>
        cases rs with
        | nil =>
          cases ee
          exact ⟨_, _, rfl, o2 _ F as H1 Up.refl ((re.set r1).set r2) g⟩
        | cons r3 rs => cases ee
theorem js_par3 (h : Ok κ) {kt k2 : Nat} (hi : κ.X.N[i]? = some x) (hj : κ.X.N[j]? = some y) (hl : κ.X.N[l]? = some z) (hij : i ≠ j) (hil : i ≠ l) (hjl : j ≠ l) (hx : κ.X.env.scope.names.lookup x = some .local) (hy : κ.X.env.scope.names.lookup y = some .local) (hz : κ.X.env.scope.names.lookup z = some .local) (ha : JA κ [a, b, c] cs)
    (hw : swappedStores [.Tuple [.Name x px, .Name y py, .Name z pz] kt pt] (.Tuple [a, b, c] k2 pt2) κ.X.env = pure (some [x, y, z]))
    (hs : swapsWithSole [.Tuple [.Name x px, .Name y py, .Name z pz] kt pt] (.Tuple [a, b, c] k2 pt2) pos.line κ.X.env = pure false := by rfl) : JS κ (.Assign [.Tuple [.Name x px, .Name y py, .Name z pz] kt pt] (.Tuple [a, b, c] k2 pt2) pos) (.par [i, j, l] cs) :=
  PS.weak (ps_par3 h.calm h.nd hi hj hl hij hil hjl hx hy hz ha hw hs) fun D σ H t => by
    have t : tS κ.G κ.hx κ.W (fun e => seqE e (EM.bind (runL κ.P.T κ.P.rp κ.cl cs e) fun vs => EM.o (parS [i, j, l] vs e)) fun e' => SM.pure (.next e')) D σ H := t
    simp only [seqE_bind] at t
    refine tS_bind (R := RepLs κ.G) (k := fun vs e => seqE e (EM.o (parS [i, j, l] vs e)) fun e' => SM.pure (.next e')) t fun xs Z F as e M H1 vs re g rs o => ?_
    obtain ⟨e', ee, o2⟩ := o.gotO
    cases rs with
    | nil => cases ee
    | cons r1 rs =>
      cases rs with
      | nil => cases ee
      | cons r2 rs =>
        cases rs with
        | nil => cases ee
        | cons r3 rs =>
          cases rs with
          | nil =>
            cases ee
            exact ⟨_, _, _, rfl, o2 _ F as H1 Up.refl (((re.set r1).set r2).set r3) g⟩
          | cons r4 rs => cases ee
theorem js_if {ct : CT} (hc : JT κ c ct) (ha : JSs κ sts cb1) {sts2 : List Stmt} (hb : JSs κ sts2 cb2) : JS κ (.If c sts sts2 pos) (.ife ct cb1 cb2) := PS.weak (ps_if hc ha hb) fun D σ H t =>
  tS_bind (R := rB) (k := fun k e => if k then κ.rSs cb1 e else κ.rSs cb2 e) t fun x Z F as e M H1 va re g ra o => by
    cases (show x = va from ra)
    cases x with
    | true => exact ⟨Z, F, as, e, M, re, g, o⟩
    | false => exact ⟨Z, F, as, e, M, re, g, o⟩
end
end TD
set_option Elab.async false
set_option linter.all false
set_option maxRecDepth 100000
set_option maxHeartbeats 4000000
/-! TD, part L: statements, further. -/
namespace TD
open PySem L2
theorem RepLF.put {G : GG} {F : Hp} {as : List Addr} {f : Str} {y : V} {v : Vl} (h : RepL G F as y v) : ∀ {fs' : List (Str × V)} {fs : List (Str × Vl)}, RepLF G F as fs' fs → RepLF G F as (putF f y fs') (putL f v fs)
  | _, _, .nil => .cons h .nil
  | _, _, .cons (n := n) h1 r => by
    unfold putF putL
    by_cases q : n = f
    · rw [if_pos q, if_pos q]
      exact .cons h r
    · rw [if_neg q, if_neg q]
      exact .cons h1 (RepLF.put h r)
theorem RepLF.length {G : GG} {F : Hp} {as : List Addr} : ∀ {vs : List (Str × V)} {ds : List (Str × Vl)}, RepLF G F as vs ds → vs.length = ds.length
  | _, _, .nil => rfl
  | _, _, .cons _ r => congrArg (· + 1) r.length
section
variable {κ : Kx} {a b c e o : Expr} {ca cb cc ce co : CE} {es : List Expr} {cs : CL} {pos p apos cpos pos' px py pz pt pt2 : Pos} {x y z : Str} {i j l : Nat} {st : Stmt} {sts : List Stmt} {cst : CS} {csts cb1 cb2 : CSs}
theorem js_fld {f : Str} (h : Ok1 κ) (ho : JE κ o co) (ha : JE κ a ca) (hs : swapsWith a (some (.Attribute o f pos')) pos.line κ.X.env = pure false := by rfl) : JS κ (.Assign [.Attribute o f pos'] a pos) (.fld co f ca) := PS.weak (ps_fld ho ha hs) fun D σ H t => by
  have t : tS κ.G κ.hx κ.W (fun e => seqE e (EM.bind (runE κ.P.T κ.P.rp κ.cl ca e) fun v => EM.bind (runE κ.P.T κ.P.rp κ.cl co e) fun x => setField κ.P.T f v x) fun _ => SM.pure (.next e)) D σ H := t
  simp only [seqE_bind] at t
  refine tS_bind (R := RepL κ.G) (k := fun v e => seqE e (runE κ.P.T κ.P.rp κ.cl co e) fun x => seqE e (setField κ.P.T f v x) fun _ => SM.pure (.next e)) t fun y Z F as e M H1 va re g ra o => ?_
  refine ⟨Z, F, as, e, M, re, g, o.seq re fun xo F2 as2 H2 vo M2 _ u2 g2 ro o2 => ?_⟩
  cases vo with
  | d d => exact o2.elim
  | loc n =>
    obtain ⟨p, hp, rfl⟩ := ro
    unfold seqE setField at o2
    cases q : M2[n]? with
    | none => simp only [q] at o2; exact o2.elim
    | some mo =>
      have ok := g2.ok n p mo hp q
      cases mo with
      | ins k fs =>
        simp only [q] at o2
        by_cases hc : (κ.P.T.fld k f && decide (fs.length < 1000)) = true
        · rw [if_pos hc] at o2
          obtain ⟨hf, hl⟩ := Bool.and_eq_true_iff.mp hc
          obtain ⟨h4, h5⟩ := h.fld k f hf
          obtain ⟨hn, dx, fs', hH, rf⟩ := ok
          refine ⟨p, _, dx, fs', rfl, hH, h4, h5, by rw [rf.length]; exact of_decide_eq_true hl, ?_⟩
          exact o2 σ F2 as2 _ Up.refl (re.mono u2) (g2.write hp hn ⟨hn, dx, _, upd_same, rf.put (ra.mono u2)⟩)
        · rw [if_neg hc] at o2
          exact o2.elim
      | _ => simp only [q] at o2; exact o2.elim
theorem js_sub (ho : JE κ o co) (hi : JE κ b cb) (ha : JE κ a ca) (hs : swapsWithSole [.Subscript o b pos'] a pos.line κ.X.env = pure false := by rfl) (hw : swappedStores [.Subscript o b pos'] a κ.X.env = pure none := by rfl)
    (h1 : (assignEach [.Subscript o b pos'] κ.X.env).map (·.2) = [assign (.Subscript o b pos') κ.X.env] := by rfl)
    (hsub : ∀ v, assign (.Subscript o b pos') κ.X.env v = (do
      let ov ← holding [v] (eval o κ.X.env)
      let iv ← holding [v, ov] (eval b κ.X.env)
      standAt pos'
      holding [v, ov, iv] (setItem ov iv v)
      release [v, ov, iv] []) := by intro _; rfl) : JS κ (.Assign [.Subscript o b pos'] a pos) (.sub co cb ca) := PS.weak (ps_asg ha (pg_sub ho hi set_list hsub) hs hw h1) fun D σ H t => by
  have t : tS κ.G κ.hx κ.W (fun e => seqE e (EM.bind (runE κ.P.T κ.P.rp κ.cl ca e) fun v => EM.bind (runE κ.P.T κ.P.rp κ.cl co e) fun x => EM.bind (runE κ.P.T κ.P.rp κ.cl cb e) fun y => subV x y v) fun _ => SM.pure (.next e)) D σ H := t
  simp only [seqE_bind] at t
  refine tS_bind (R := RepL κ.G) (k := fun v e => seqE e (runE κ.P.T κ.P.rp κ.cl co e) fun x => seqE e (runE κ.P.T κ.P.rp κ.cl cb e) fun y => seqE e (subV x y v) fun _ => SM.pure (.next e)) t fun y Z F as e M H1 va re g ra o => ?_
  refine ⟨Z, F, as, e, M, re, g, o.seq re fun xo F2 as2 H2 vo M2 _ u2 g2 ro o2 => ?_⟩
  refine ⟨Z, F2, as2, e, M2, re.mono u2, g2, o2.seq (re.mono u2) fun xi F3 as3 H3 vi M3 _ u3 g3 ri o3 => ?_⟩
  cases vo with
  | d d => exact o3.elim
  | loc n =>
    obtain ⟨p, hp, rfl⟩ := ro
    have hp := pre_get u3.pre hp
    cases vi with
    | loc m => exact o3.elim
    | d di =>
      cases di with
      | int k =>
        cases Rep.intE ri
        unfold seqE subV at o3
        cases q1 : toD va M3 with
        | none => simp only [q1] at o3; exact o3.elim
        | some r1 =>
          obtain ⟨r1, M4⟩ := r1
          cases r1 with
          | ex x => exact (toD_nx q1).elim
          | ok d =>
            obtain ⟨F4, g4, u4, r4⟩ := toD_ok g3 ((ra.mono u2).mono u3) q1
            simp only [q1] at o3
            cases q : M4[n]? with
            | none => simp only [q] at o3; exact o3.elim
            | some mo =>
              have ok := g4.ok n p mo hp q
              cases mo with
              | lst ys =>
                simp only [q] at o3
                cases q5 : ixN ys.length k with
                | none => simp only [q5] at o3; exact o3.elim
                | some jj =>
                  simp only [q5] at o3
                  obtain ⟨hn, vs, hH, rs⟩ := ok
                  refine ⟨p, vs, k, jj, rfl, rfl, hH, by rw [rs.length]; exact q5, ?_⟩
                  exact o3 σ F4 as3 _ u4 (((re.mono u2).mono u3).mono u4) (g4.write hp hn ⟨hn, _, upd_same, rs.set r4 jj⟩)
              | _ => simp only [q] at o3; exact o3.elim
      | _ => exact o3.elim
theorem lstE_ok {G : GG} {Z F H : Hp} {as : List Addr} {M M' : Mem} {x : V} {v : Vl} {u : Unit} (g : Good G Z F as M H) (r : RepL G F as x v) (e : lstE v M = some (.ok u, M')) : M' = M ∧ ∃ p vs, x = .ref p ∧ H p = some (.lst vs) := by
  unfold lstE at e
  split at e
  · rename_i e1
    cases e
    obtain ⟨h1, p, vs, h2, h3, _⟩ := peek_ok g r e1
    exact ⟨h1, p, vs, h2, h3⟩
  · cases e
theorem lstE_nx {v : Vl} {M M' : Mem} {x : Xc} : lstE v M ≠ some (.ex x, M') := by
  intro e
  unfold lstE at e
  split at e <;> cases e
/-- xs.append(v) -/
theorem js_append (ho : JE κ o co) (ha : JE κ a ca)
    (hfew : ((backTo cpos (starEach [a] κ.X.env)).all (fun x => !x.1) && (backToKw cpos (keywordEach [] κ.X.env)).all (fun x => x.1.isSome)
      && decide ([a].length + ([] : List Keyword).length + (if ([] : List Keyword).isEmpty then 0 else 1) < 30)) = true := by rfl)
    (hbase : attributeBase o "append" κ.X.env (eval o κ.X.env) = eval o κ.X.env := by rfl) (hline : (apos.endLine == cpos.line) = true := by rfl) (hs : starEach [a] κ.X.env = (false, eval a κ.X.env) :: starEach [] κ.X.env := by rfl)
    (hsw : swapsWith (.Call (.Attribute o "append" apos) [a] [] cpos) none pos.line κ.X.env = pure false := by rfl) : JS κ (.Expr (.Call (.Attribute o "append" apos) [a] [] cpos) pos) (.mut .append co (.cons ca .nil)) :=
  PS.weak (ps_expr (pe_bm PySem.F.plainAttrs_list PySem.F.slot_list_append PySem.F.type_list_append mt_append ho (pa_cons ha pa_nil hs) hbase hfew hline hs rfl) hsw) fun D σ H t => by
    have t : tS κ.G κ.hx κ.W (fun e => seqE e (EM.bind (runE κ.P.T κ.P.rp κ.cl co e) fun x => EM.bind (lstE x) fun _ => EM.bind (EM.bind (runE κ.P.T κ.P.rp κ.cl ca e) fun v => EM.bind (EM.pure []) fun vs => EM.pure (v :: vs)) fun vs => mutV .append x vs) fun _ => SM.pure (.next e)) D σ H := t
    simp only [seqE_bind] at t
    refine tS_bind (R := RepL κ.G) (k := fun x e => seqE e (lstE x) fun _ => seqE e (runE κ.P.T κ.P.rp κ.cl ca e) fun v => seqE e (EM.pure []) fun vs => seqE e (EM.pure (v :: vs)) fun vs => seqE e (mutV .append x vs) fun _ => SM.pure (.next e)) t fun xo Z F as e M H1 vo re g ro o => ?_
    obtain ⟨_, M1, e1, o1⟩ := o.got fun _ _ => lstE_nx
    obtain ⟨rfl, p, ws, rfl, hw⟩ := lstE_ok g ro e1
    refine ⟨.inl ⟨rfl, ws, .inl (.inl hw)⟩, Z, F, as, e, M1, re, g, o1.seq re fun xa F2 as2 H2 va M2 _ u2 g2 ra o2 => ?_⟩
    have o2 : OutS κ.G κ.hx κ.W Z F2 as2 D (seqE e (mutV .append vo [va]) (fun _ => SM.pure (.next e)) M2) := o2
    cases vo with
    | d d => exact o2.elim
    | loc n =>
      obtain ⟨p', hp, ep⟩ := ro
      cases ep
      have hp := pre_get u2.pre hp
      unfold seqE mutV at o2
      cases q : M2[n]? with
      | none => simp only [q] at o2; exact o2.elim
      | some mo =>
        cases mo with
        | lst ys0 =>
          simp only [q] at o2
          cases q1 : toD va M2 with
          | none => simp only [q1] at o2; exact o2.elim
          | some r1 =>
            obtain ⟨r1, M4⟩ := r1
            cases r1 with
            | ex x => exact (toD_nx q1).elim
            | ok d =>
              obtain ⟨F4, g4, u4, r4⟩ := toD_ok g2 ra q1
              simp only [q1] at o2
              cases q5 : M4[n]? with
              | none => simp only [q5] at o2; exact o2.elim
              | some mo =>
                have ok := g4.ok n p mo hp q5
                cases mo with
                | lst ys =>
                  simp only [q5] at o2
                  obtain ⟨hn, vs, hH, rs⟩ := ok
                  by_cases hz : ys.length < 16777216
                  · rw [if_pos hz] at o2
                    refine ⟨p, vs, xa, rfl, rfl, hH, by rw [rs.length]; exact hz, ?_⟩
                    exact o2 σ F4 as2 _ u4 ((re.mono u2).mono u4) (g4.write hp hn ⟨hn, _, upd_same, rs.append (.cons r4 .nil)⟩)
                  · rw [if_neg hz] at o2
                    exact o2.elim
                | _ => simp only [q5] at o2; exact o2.elim
        | _ => simp only [q] at o2; exact o2.elim
/-- xs.extend(ys) -/
theorem js_extend (ho : JE κ o co) (ha : JE κ a ca)
    (hfew : ((backTo cpos (starEach [a] κ.X.env)).all (fun x => !x.1) && (backToKw cpos (keywordEach [] κ.X.env)).all (fun x => x.1.isSome)
      && decide ([a].length + ([] : List Keyword).length + (if ([] : List Keyword).isEmpty then 0 else 1) < 30)) = true := by rfl)
    (hbase : attributeBase o "extend" κ.X.env (eval o κ.X.env) = eval o κ.X.env := by rfl) (hline : (apos.endLine == cpos.line) = true := by rfl) (hs : starEach [a] κ.X.env = (false, eval a κ.X.env) :: starEach [] κ.X.env := by rfl)
    (hsw : swapsWith (.Call (.Attribute o "extend" apos) [a] [] cpos) none pos.line κ.X.env = pure false := by rfl) : JS κ (.Expr (.Call (.Attribute o "extend" apos) [a] [] cpos) pos) (.mut .extend co (.cons ca .nil)) :=
  PS.weak (ps_expr (pe_bm PySem.F.plainAttrs_list PySem.F.slot_list_extend PySem.F.type_list_extend mt_extend ho (pa_cons ha pa_nil hs) hbase hfew hline hs rfl) hsw) fun D σ H t => by
    have t : tS κ.G κ.hx κ.W (fun e => seqE e (EM.bind (runE κ.P.T κ.P.rp κ.cl co e) fun x => EM.bind (lstE x) fun _ => EM.bind (EM.bind (runE κ.P.T κ.P.rp κ.cl ca e) fun v => EM.bind (EM.pure []) fun vs => EM.pure (v :: vs)) fun vs => mutV .extend x vs) fun _ => SM.pure (.next e)) D σ H := t
    simp only [seqE_bind] at t
    refine tS_bind (R := RepL κ.G) (k := fun x e => seqE e (lstE x) fun _ => seqE e (runE κ.P.T κ.P.rp κ.cl ca e) fun v => seqE e (EM.pure []) fun vs => seqE e (EM.pure (v :: vs)) fun vs => seqE e (mutV .extend x vs) fun _ => SM.pure (.next e)) t fun xo Z F as e M H1 vo re g ro o => ?_
    obtain ⟨_, M1, e1, o1⟩ := o.got fun _ _ => lstE_nx
    obtain ⟨rfl, p, ws, rfl, hw⟩ := lstE_ok g ro e1
    refine ⟨.inl ⟨rfl, ws, .inl (.inl hw)⟩, Z, F, as, e, M1, re, g, o1.seq re fun xa F2 as2 H2 va M2 _ u2 g2 ra o2 => ?_⟩
    have o2 : OutS κ.G κ.hx κ.W Z F2 as2 D (seqE e (mutV .extend vo [va]) (fun _ => SM.pure (.next e)) M2) := o2
    cases vo with
    | d d => exact o2.elim
    | loc n =>
      obtain ⟨p', hp, ep⟩ := ro
      cases ep
      have hp := pre_get u2.pre hp
      unfold seqE mutV at o2
      cases q : M2[n]? with
      | none => simp only [q] at o2; exact o2.elim
      | some mo =>
        have ok := g2.ok n p mo hp q
        cases mo with
        | lst ys =>
          simp only [q] at o2
          obtain ⟨hn, vs, hH, rs⟩ := ok
          cases q1 : peek va M2 with
          | none => simp only [q1] at o2; exact o2.elim
          | some r1 =>
            obtain ⟨r1, M4⟩ := r1
            cases r1 with
            | ex x => exact (peek_nx q1).elim
            | ok d =>
              obtain ⟨rfl, sh⟩ := peek_ok g2 ra q1
              cases d with
              | lst zs =>
                simp only [q1] at o2
                obtain ⟨pb, ws2, rfl, hb, rz⟩ := sh
                by_cases hz : ys.length + zs.length ≤ 16777216
                · rw [if_pos hz] at o2
                  refine ⟨p, pb, vs, ws2, rfl, rfl, hH, hb, by rw [rs.length, rz.length]; exact hz, ?_⟩
                  exact o2 σ F2 as2 _ Up.refl (re.mono u2) (g2.write hp hn ⟨hn, _, upd_same, rs.append rz⟩)
                · rw [if_neg hz] at o2
                  exact o2.elim
              | _ => simp only [q1] at o2; exact o2.elim
        | _ => simp only [q] at o2; exact o2.elim
/-- for tg in iter: body -/
theorem js_for {tg iter : Expr} {g : CG} {ci : CI} (h : Ok κ) (hi : JI κ tg iter ci) (hg : JG κ tg g) (hb : JSs κ sts csts) (hs : ∀ x, foldedSetIterable iter κ.X.env x = pure x := by intro _; rfl) : JS κ (.For tg iter sts [] pos) (.fors g ci csts) :=
  PS.weak (ps_for h.po h.calm hi hg hb hs) fun D σ H t => by
    refine tS_bind (R := Walk κ.G) (k := fun xs e => forGo g (fun e' => κ.rSs csts e') xs e) t fun J Z F as e M H1 xs re gd wk o => ?_
    let S : Nat → L2.St → Hp → Prop := fun i σ H => ∃ F' as' M' e', Up F as F' as' ∧ EnvR κ.G κ.hx F' as' σ e' ∧ Good κ.G Z F' as' M' H ∧ OutS κ.G κ.hx κ.W Z F' as' D (forGo g (fun e' => κ.rSs csts e') (xs.drop i) e' M')
    refine ⟨fun i m σ H => m = xs.length - i ∧ i ≤ xs.length ∧ S i σ H, ⟨xs.length, by simp, Nat.zero_le _, F, as, M, e, Up.refl, re, gd, o⟩, ?_⟩
    rintro i m σ2 H2 ⟨rfl, hi, F', as', M', e', u1, re1, g1, o1⟩
    by_cases hlt : i < xs.length
    · refine .inr ?_
      have hx : xs[i]? = some xs[i] := List.getElem?_eq_getElem hlt
      refine ⟨wk.go u1.ex g1 hx, S (i + 1), fun σ3 H3 h3 => ⟨_, by omega, rfl, by omega, h3⟩, fun xv H3 y3 => ?_⟩
      obtain ⟨F2, g2, ex2, rx⟩ := wk.yld u1.ex g1 hx y3
      have u2 : Up F' as' F2 as' := ⟨ex2, List.prefix_refl _⟩
      rw [List.drop_eq_getElem_cons hlt] at o1
      unfold forGo at o1
      cases qa : asg g xs[i] e' with
      | none => rw [qa] at o1; exact o1.elim
      | some e1 =>
        rw [qa] at o1
        simp only at o1
        refine ⟨Z, F2, as', e', M', xs[i], e1, re1.mono u2, g2, rx, qa, fun σ3 re3 _ => ⟨Z, F2, as', e1, M', re3, g2, ?_⟩⟩
        cases qb : κ.rSs csts e1 M' with
        | none => rw [qb] at o1; exact o1
        | some r =>
          obtain ⟨r, M2⟩ := r
          rw [qb] at o1
          cases r with
          | next e2 => exact fun σ4 F3 as3 H4 u3 re4 g4 => ⟨F3, as3, M2, e2, (u1.trans u2).trans u3, re4, g4, OutS.up (u2.trans u3) o1⟩
          | cnt e2 => exact fun σ4 F3 as3 H4 u3 re4 g4 => ⟨F3, as3, M2, e2, (u1.trans u2).trans u3, re4, g4, OutS.up (u2.trans u3) o1⟩
          | brk e2 => exact fun σ4 F3 as3 H4 u3 re4 g4 => o1 σ4 F3 as3 H4 (u2.trans u3) re4 g4
          | ret v => exact fun x F3 as3 H4 u3 g4 r4 => o1 x F3 as3 H4 (u2.trans u3) g4 r4
          | ex x e2 => exact fun dd fs σ4 F3 as3 H4 u3 re4 g4 h1 h2 => o1 dd fs σ4 F3 as3 H4 (u2.trans u3) re4 g4 h1 h2
    · have : i = xs.length := by omega
      subst this
      rw [List.drop_length] at o1
      exact .inl ⟨wk.stop u1.ex g1, o1 σ2 F' as' H2 Up.refl re1 g1⟩
/-- name = [..] on one line -/
theorem js_setLc {tg iter elt : Expr} {ifs : List Expr} {scope : Scope} {own : List (Str × Nat)} {ci : CI} {g : CG} {ct : CTs} (h : Ok κ) (hy : κ.X.N[i]? = some y) (hyl : κ.X.env.scope.names.lookup y = some .local)
    (hsw : swapsWith (.ListComp elt [⟨tg, iter, ifs, 0⟩] scope pos) (some (.Name y py)) pos'.line κ.X.env = pure true) (hi : JI κ tg iter ci) (ok : BlkOk κ.X.N κ.X.env.scope scope own) (hsub : g.sub (own.map (·.2)) = true)
    (hg : ∀ (s : Shared) (H : Hp) (C : Addr) (cl : List (Str × Addr)) (fp : List Addr), JG (κ.blk s H scope (compEnvC scope cl C κ.X.env) fp) tg g)
    (ht : ∀ (s : Shared) (H : Hp) (C : Addr) (cl : List (Str × Addr)) (fp : List Addr), JTs (κ.blk s H scope (compEnvC scope cl C κ.X.env) fp) ifs ct)
    (he : ∀ (s : Shared) (H : Hp) (C : Addr) (cl : List (Str × Addr)) (fp : List Addr), JE (κ.blk s H scope (compEnvC scope cl C κ.X.env) fp) elt ce)
    (hs : ∀ x, foldedSetIterable iter κ.X.env x = pure x := by intro _; rfl) : JS κ (.Assign [.Name y py] (.ListComp elt [⟨tg, iter, ifs, 0⟩] scope pos) pos') (.set (.name i) (.lc g ci ct ce (own.map (·.2)))) :=
  PS.weak (ps_setLc (g := tgM κ.G κ.hx g) (tt := tM κ.G κ.hx (fun _ _ _ _ => False) rB (runTs κ.P.T κ.P.rp κ.cl ct)) (te := tM κ.G κ.hx (fun _ _ _ _ => False) (RepL κ.G) (runE κ.P.T κ.P.rp κ.cl ce)) h.calm h.nd hy hyl hsw hi ok hg ht he hs) fun D σ H t => w_lc hsub (w_set t)
end
end TD
set_option Elab.async false
set_option linter.all false
set_option maxRecDepth 100000
set_option maxHeartbeats 4000000
/-! TD, part M: raise, try. -/
namespace TD
open PySem L2
def rX (G : GG) : Hp → List Addr → (Value × Option Addr) → Xc → Prop := fun F _ b x => ∃ dd fs, b = (.ref (G.cl x.cls), some dd) ∧ F dd = some (.xd fs) ∧ RepF G F fs x.fs
def JX (κ : Kx) (e : Expr) (m : Env → EM Xc) : Prop := PMk κ.X e fun σ H Q => tM κ.G κ.hx κ.W (rX κ.G) m σ H fun b H' => Q b.1 b.2 H'
abbrev Kx.tr (κ : Kx) (W : WX) (pn : List (Addr × Obj)) (xe : Value → Shared → Prop) : Kx := { κ with X := κ.X.tr pn xe, W := W }
abbrev Kx.suite (κ : Kx) (i : Nat) (a : Addr) (oe : Obj) (cls : Value) (d : Option Addr) (pn : List (Addr × Obj)) : Kx := { κ with X := κ.X.suite a ((a, oe) :: pn), W := fun _ _ _ _ => False, hx := d.map fun dd => (i, a, cls, dd) }
theorem Ok.tr {κ : Kx} (h : Ok κ) {W : WX} {pn : List (Addr × Obj)} {xe : Value → Shared → Prop} (tk : Takes (κ.X.tr pn xe) W) (po : PassesOwn (model κ.X.prog κ.X.w) κ.X.A κ.X.env xe) : Ok (κ.tr W pn xe) where
  k := h.k
  u := h.u
  gd := h.gd
  fld := h.fld
  calm := h.calm
  room := h.room
  tk := tk
  po := po
  nd := h.nd
  fn := h.fn
  met := h.met
  cls := h.cls
theorem Ok0.suite {κ : Kx} (h : Ok0 κ) (i : Nat) (a : Addr) (oe : Obj) (cls : Value) (d : Option Addr) (pn : List (Addr × Obj)) : Ok0 (κ.suite i a oe cls d pn) where
  k := h.k
  u := h.u
  gd := h.gd
theorem EnvR.drop {G : GG} {hx hx' : Hx} {F : Hp} {as : List Addr} {σ : L2.St} {e : Env} (r : EnvR G hx F as σ e) (i : Nat) : EnvR G hx' F as (σ.set i none) ⟨e.s.set i none, none⟩ := by
  refine ⟨by simp [r.len], fun j v h => ?_, fun x h => by cases h⟩
  have h : (e.s.set i none)[j]? = some (some v) := h
  by_cases q : i = j
  · subst q
    by_cases hl : i < e.s.length
    · rw [List.getElem?_set_self hl] at h; cases h
    · rw [List.getElem?_eq_none (by simpa using hl)] at h; cases h
  · rw [List.getElem?_set_ne q] at h
    rw [List.getElem?_set_ne q]
    exact r.at_ j v h
theorem EnvR.catch {G : GG} {hx : Hx} {F : Hp} {as : List Addr} {σ : L2.St} {e : Env} (r : EnvR G hx F as σ e) {i : Nat} {a dd : Addr} {x : Xc} {fs : List (Str × V)} (hi : i < e.s.length) (h1 : F dd = some (.xd fs)) (h2 : RepF G F fs x.fs) :
    EnvR G (some (i, a, .ref (G.cl x.cls), dd)) F as (σ.set i (some (.ref a))) ⟨e.s.set i none, some x⟩ := by
  have d := r.drop (hx' := none) i
  refine ⟨by simp [r.len], fun j v h => ?_, fun y h => ?_⟩
  · have h : (e.s.set i none)[j]? = some (some v) := h
    have q : i ≠ j := fun q => by
      subst q
      rw [List.getElem?_set_self hi] at h
      cases h
    obtain ⟨z, hz, rz⟩ := d.at_ j v h
    rw [List.getElem?_set_ne q] at hz ⊢
    exact ⟨z, hz, rz⟩
  · cases h
    exact ⟨i, a, dd, fs, rfl, List.getElem?_set_self (by rw [r.len]; exact hi), h1, h2⟩
section
variable {κ : Kx} {a b c e o : Expr} {ca cb cc ce co : CE} {es : List Expr} {cs : CL} {pos p np pos' : Pos} {x n : Str} {i k : Nat} {st b₀ : Stmt} {sts body suite : List Stmt} {cst : CS} {csts cbd ch : CSs}
theorem js_raise (h : Ok κ) (hx : JX κ a fun e => EM.bind (runL κ.P.T κ.P.rp κ.cl cs e) fun vs => EM.bind (toDs vs) fun ds => EM.o (mkX κ.P.XT k ds)) : JS κ (.Raise (some a) none pos) (.raise k cs) := PS.weak (ps_raise h.calm h.tk hx) fun D σ H t =>
  tS_bind (R := rX κ.G) (k := fun x e => SM.pure (.ex x e)) t fun b Z F as e M H1 va re g ra o => by
    obtain ⟨dd, fs, rfl, h1, h2⟩ := ra
    exact o dd fs σ F as H1 Up.refl re g h1 h2
theorem js_tryAs (h : Ok κ) (hs : κ.X.stack = κ.X.env :: κ.X.outer) (hf : κ.X.env.frame = some κ.X.env.locals) (hi : κ.X.N[i]? = some n) (hln : κ.X.env.kindOf n = some .local) (hc : Names κ.X x (.ref (κ.G.cl k)))
    (hex : ∀ j, (κ.P.XT.fs j).isSome = true → PySem.W.exmOne κ.X.K (.ref (κ.G.cl j)) (.ref (κ.G.cl k)) = some (κ.P.T.sub j k))
    (hb : ∀ (W : WX) (pn : List (Addr × Obj)) (xe : Value → Shared → Prop), Ok (κ.tr W pn xe) → JSs (κ.tr W pn xe) body cbd)
    (hsu : ∀ (a : Addr) (oe : Obj) (cls : Value) (d : Option Addr) (pn : List (Addr × Obj)), Zc cls d oe → (∃ vs, oe.data = .fields vs) → JSs (κ.suite i a oe cls d pn) (b₀ :: suite) ch) :
    JS κ (.Try body [.ExceptHandler (some (.Name x np)) (some n) (b₀ :: suite) pos'] [] [] pos) (.tryx cbd (.cons k i ch .nil)) :=
  PS.weak (ps_try_as (tb := fun W => tS κ.G κ.hx W (κ.rSs cbd)) (ts := fun a cls d => tS κ.G (d.map fun dd => (i, a, cls, dd)) (fun _ _ _ _ => False) (κ.rSs ch)) hs hf h.nd hi hln hc h.tk (fun W pn xe tk po => hb W pn xe (h.tr tk po)) hsu) fun D σ H t => by
    obtain ⟨Z, F, as, e, M, re, g, o⟩ := t
    refine ⟨Z, F, as, e, M, re, g, ?_⟩
    have o : OutS κ.G κ.hx κ.W Z F as D (match κ.rSs cbd e M with
      | some (.ex x e1, M1) => runH κ.P.T κ.P.rp κ.P.XT κ.cl (.cons k i ch .nil) x e1 M1
      | r => r) := o
    cases q : κ.rSs cbd e M with
    | none => rw [q] at o; exact o
    | some r =>
      obtain ⟨r, M1⟩ := r
      rw [q] at o
      cases r with
      | next e1 => exact o
      | ret v => exact o
      | brk e1 => exact o
      | cnt e1 => exact o
      | ex x e1 =>
        intro dd fs σ1 F1 as1 H1 u1 re1 g1 h1 h2
        simp only at o
        unfold runH at o
        by_cases hc : ((κ.P.XT.fs x.cls).isSome && decide (i < e1.s.length)) = true
        · rw [if_pos hc] at o
          obtain ⟨hc1, hc2⟩ := Bool.and_eq_true_iff.mp hc
          refine ⟨κ.P.T.sub x.cls k, hex _ hc1, fun hb a ha => ?_, fun hb => ?_⟩
          · rw [if_pos hb] at o
            refine ⟨Z, F1, as1, _, M1, re1.catch (of_decide_eq_true hc2) h1 h2, g1, ?_⟩
            cases q2 : κ.rSs ch ⟨e1.s.set i none, some x⟩ M1 with
            | none => simp only [q2] at o; exact o.elim
            | some r2 =>
              obtain ⟨r2, M2⟩ := r2
              simp only [q2] at o
              cases r2 with
              | next e3 => exact fun σ4 F4 as4 H4 u4 re4 g4 => o _ F4 as4 H4 (u1.trans u4) (re4.drop i) g4
              | brk e3 => exact fun σ4 F4 as4 H4 u4 re4 g4 => o _ F4 as4 H4 (u1.trans u4) (re4.drop i) g4
              | cnt e3 => exact fun σ4 F4 as4 H4 u4 re4 g4 => o _ F4 as4 H4 (u1.trans u4) (re4.drop i) g4
              | ret v => exact fun x F4 as4 H4 u4 g4 r4 => o x F4 as4 H4 (u1.trans u4) g4 r4
              | ex y e3 => exact o.elim
          · rw [if_neg (by rw [hb]; exact Bool.false_ne_true)] at o
            exact o dd fs σ1 F1 as1 H1 u1 re1 g1 h1 h2
        · rw [if_neg hc] at o
          exact o.elim
theorem je_xf {f : Str} {a : Addr} {oe : Obj} {cls : Value} {d : Option Addr} {pn : List (Addr × Obj)} (hxf : ∀ c f, κ.P.T.xfl c f = true → XfC κ.X.K (κ.G.cl c) ∧ PySem.W.findIn κ.X.K (.ref (κ.G.cl c)) f = some none)
    (hz : Zc cls d oe) (hd : ∃ vs, oe.data = .fields vs) (hN : κ.X.N[i]? = some n) (hv : Vis κ.X.env.scope n) (hdb : (n == ("__debug__" : Str)) = false := by decide) (hcd : (n == ("__classdict__" : Str)) = false := by decide)
    (hb : attributeBase (.Name n p) f κ.X.env (eval (.Name n p) κ.X.env) = eval (.Name n p) κ.X.env := by rfl) : JE (κ.suite i a oe cls d pn) (.Attribute (.Name n p) f pos) (.xf f) := by
  refine ⟨fun pins s σ H Q I t => ?_⟩
  obtain ⟨Z, F, as, e, M, re, g, o⟩ := t
  obtain ⟨v, ev, q⟩ := Out.o o
  obtain ⟨dv, ed, rfl⟩ := Option.map_eq_some_iff.mp ev
  obtain ⟨xc, ex, el⟩ := Option.bind_eq_some_iff.mp ed
  split at el
  case isFalse => cases el
  rename_i hfl
  obtain ⟨i', a', dd, fs, e1, e2, e3, e4⟩ := re.exc xc ex
  obtain ⟨dd0, hd0, e1⟩ := Option.map_eq_some_iff.mp e1
  obtain ⟨ei, e1⟩ := Prod.mk.inj e1
  obtain ⟨ea, e1⟩ := Prod.mk.inj e1
  obtain ⟨ecl, edd⟩ := Prod.mk.inj e1
  rw [← ei, ← ea] at e2
  rw [← edd] at e3
  obtain ⟨h1, h2⟩ := hxf _ _ hfl
  obtain ⟨w, hw, rw⟩ := e4.lookup el
  exact (pe_xf h1 h2 hz hd (pe_var (X := κ.X.suite a ((a, oe) :: pn)) hN hv hdb hcd) hb).run pins s σ H Q I ⟨.ref _, e2, rfl, ecl, _, fs, w, hd0, g.sub _ _ e3, hw, q w F as H Up.refl g rw⟩
end
end TD
set_option Elab.async false
set_option linter.all false
set_option maxRecDepth 100000
set_option maxHeartbeats 4000000
/-! TD, part X: own exceptions whose __init__ says super().__init__('..') and stores its values. -/
namespace TDX
open PySem PySem.W PySem.Calls PyProof.Rows PySem.HandSPX
open Builtin Builtin.ObjectAttr
section
variable {prog : Program} {w : World} {M : Model} {A : Around} {E : Value → Shared → Prop} {hp : Heap} {g : Array GenState} {d : Drawn} {t : Nat} {os : OsState}
variable {nm q : Str} {C N : Addr} {bs bm bmB : List Value} {hdct : Bool} {sn : List Str} {sub : List Value} {ab : Bool} {col : Option Bool} {dd : Option Addr} {k0 k1 k2 k3 k5 : Option Value} {B newId i : String}
/-- the bound __init__ of the base, called -/
theorem call_mw (FB : ExcBaseFacts B newId i bmB) {u x t0 : Addr} {rest : List Value} {Q : Value → Shared → Prop}
    (hC : hp.get? C = some (excClassObj nm q C N bs bm hdct sn sub ab col dd k0 k1 k2 k3 k5 newId)) (hx : hp.get? x = some (excO C t0)) (hu : hp.get? u = some (kxs_mw i x)) (hz : rest.length ≤ sizeLine)
    (hq : ∀ h2 t1, (∀ b o, b ≠ x → hp.get? b = some o → h2.get? b = some o) → h2.get? x = some (excO C t1) → Q .none ⟨h2, g, d, t, os⟩) : wpAny (model prog w) A (call (.ref u) rest) Q E ⟨hp, g, d, t, os⟩ := by
  refine wpAny_call (codeAny_of_tree ?_)
  show wpAny (model prog w) A.in1 (callAny (.ref u) ⟨rest, []⟩) _ _ _
  simp only [callAny]
  refine wpAny_bind (wpAny_load hu ?_)
  simp only [kxs_mw, show (Value.type "method-wrapper" == Value.type "method" || Value.type "method-wrapper" == Value.type "builtin_function_or_method" || Value.type "method-wrapper" == Value.type "method-wrapper") = true from by decide, if_true]
  refine KFB.if_so (by decide) ?_
  refine wpAny_bind (check_bound_init FB.toExcCallFacts hC hx rfl ?_)
  refine wpAny_bind (wpAny_pure (wpAny_pure ⟨plainId_quiet FB.init.plain _, codeAny_builtin FB.initEntry ?_⟩))
  refine exc_init_tree (cls := .ref C) (t0 := t0) (dv := none) (c2 := .none) (c3 := .none) (b4 := .bool false) hx hz fun h2 k e2 _ => ?_
  exact hq h2 hp.objs.size k e2
end
section
variable {prog : Program} {w : World} {A : Around} {E : Value → Shared → Prop} {R : Result → Shared → Prop} {hp : Heap} {g : Array GenState} {d : Drawn} {t : Nat} {os : OsState} {K : Frag} {name : Str} {tk : Tok} {v : Value} {x C dx : Addr} {fv : Array Value} {cd : ClassData} {m0 : Str → Option Value} {nl : List Str} {B : String} {bmB : List Value}
theorem taker_none (h : findIn K (.ref C) name = some none) : takerIn K C name = some none := by
  unfold takerIn
  rw [h]
  rfl
/-- the first store: the dict comes -/
theorem sto_new (SF : StoreFacts B bmB "object.__setattr__" "object") (ho : excOver K C bmB = true) (X : K.In hp) (hx : hp.get? x = some { cls := .ref C, data := .fields fv }) (hcd : clsIn K C = some cd) (hh : cd.hasDict = true) (ha : findIn K (.ref C) name = some none)
    (hq : ∀ h2 tk2 dx, (∀ b o, b ≠ x → hp.get? b = some o → h2.get? b = some o) → hp.objs.size ≤ dx → dx ≠ x → h2.get? x = some { cls := .ref C, dict := some dx, data := .fields fv } →
      h2.Ns1 dx (fun y => if y = name then some v else none) → R (.ok (.ret .none)) ⟨h2, g, d, tk2, os⟩) :
    codeAny (model prog w) A (.call (.builtin "object.__setattr__") ⟨[.ref x, .str name tk, v], []⟩) R ⟨hp, g, d, t, os⟩ := by
  have I : InstAt hp x { cls := .ref C, data := .fields fv } C none := ⟨hx, rfl, rfl, trivial⟩
  have nx : x ≠ hp.objs.size := Nat.ne_of_lt (Heap.lt_size hx)
  refine osa_openX SF X I ho (taker_none ha) fun b => ?_
  have hcls : Looks (model prog w) hp (classData C) cd := looks_clsIn X hcd
  obtain ⟨nm, bs, mro, ns, qn, hd, sn, sb, ab, col, del⟩ := cd
  dsimp only at hh
  subst hh
  dsimp only
  unfold storeInOwnDict ownDictForStores
  repeat (first | with_reducible refine store_in_new ?_ ?_ | with_reducible refine wpAny_loadPart_at hx ?_ | with_reducible refine hcls.at ?_ | wp_step)
  · exact ⟨_, #[], _, (Heap.get?_update_ne _ _ _ _ nx.symm).trans (Heap.get?_push_at rfl rfl), rfl, fun e he => absurd he (by simp), fun _ => rfl⟩
  · intro h2 tk2 hn2 hs2
    have hx1 : (hp.push { cls := .type "dict", data := .dict #[] }).get? x = some { cls := .ref C, data := .fields fv } := Heap.get?_push_of_some _ hx
    refine hq h2 tk2 hp.objs.size (fun b o hb hv => ?_) (Nat.le_refl _) nx.symm ?_ hn2
    · exact (hs2.2 b (Nat.ne_of_lt (Heap.lt_size hv))).trans ((Heap.get?_update_ne _ _ _ _ hb).trans (Heap.get?_push_of_some _ hv))
    · exact (hs2.2 x nx).trans (Heap.get?_update_self _ hx1 rfl)
/-- a further store -/
theorem sto_old (SF : StoreFacts B bmB "object.__setattr__" "object") (ho : excOver K C bmB = true) (X : K.In hp) (hx : hp.get? x = some { cls := .ref C, dict := some dx, data := .fields fv }) (hns : hp.Ns1 dx m0) (hw : Within m0 nl) (hz : nl.length ≤ 1000) (hcd : clsIn K C = some cd)
    (hh : cd.hasDict = true) (ha : findIn K (.ref C) name = some none)
    (hq : ∀ h2 tk2, (∀ b o, b ≠ dx → hp.get? b = some o → h2.get? b = some o) → h2.Ns1 dx (fun y => if y = name then some v else m0 y) → R (.ok (.ret .none)) ⟨h2, g, d, tk2, os⟩) :
    codeAny (model prog w) A (.call (.builtin "object.__setattr__") ⟨[.ref x, .str name tk, v], []⟩) R ⟨hp, g, d, t, os⟩ := by
  obtain ⟨oD, esD, epD, hoD, hdD, _⟩ := hns.count hw
  have I : InstAt hp x { cls := .ref C, dict := some dx, data := .fields fv } C (some oD) := ⟨hx, rfl, rfl, hoD⟩
  refine osa_openX SF X I ho (taker_none ha) fun b => ?_
  have hcls : Looks (model prog w) hp (classData C) cd := looks_clsIn X hcd
  obtain ⟨nm, bs, mro, ns, qn, hd, sn, sb, ab, col, del⟩ := cd
  dsimp only at hh
  subst hh
  dsimp only
  unfold storeInOwnDict ownDictForStores
  repeat (first | with_reducible refine ESX.store_in_old hns hw hz ?_ | with_reducible refine wpAny_loadPart_at hx ?_ | with_reducible refine hcls.at ?_ | wp_step)
  intro h2 tk2 hn2 hs2
  exact hq h2 tk2 (fun b o hb hv => (hs2.2 b hb).trans hv) hn2
end
/-- self.f = f, one after the other -/
inductive Asg : List Str → List Stmt → Prop
  | nil : Asg [] []
  | cons {f : Str} {fs : List Str} {sts : List Stmt} {q1 q2 q3 q4 : Pos} : Asg fs sts → Asg (f :: fs) (.Assign [.Attribute (.Name "self" q1) f q2] (.Name f q3) q4 :: sts)
def put : List Str → List Value → (Str → Option Value) → Str → Option Value
  | f :: fs, v :: vs, m => put fs vs fun y => if y = f then some v else m y
  | _, _, m => m
section
variable {prog : Program} {w : World} {A : Around} {E : Value → Shared → Prop} {K : Frag} {C x dx : Addr} {cd : ClassData} {B : String} {bmB : List Value} {fv : Array Value} {env : PySem.Env} {m : Str → Option Value}
theorem go_fields (SF : StoreFacts B bmB "object.__setattr__" "object") (ho : excOver K C bmB = true) (sa : findIn K (.ref C) "__setattr__" = some (some (.builtin "object.__setattr__"))) (hcd : clsIn K C = some cd) (hh : cd.hasDict = true)
    (hk : env.scope.kind = .function) (hself : env.kindOf "self" = some .local) (mself : m "self" = some (.ref x)) (hxd : x ≠ dx) (hld : env.locals ≠ dx) (hKd : K.lookup dx = none) :
    ∀ {fs : List Str} {sts : List Stmt} {vs : List Value} {m0 : Str → Option Value} {nl : List Str} {s : Shared} {Q : Flow → Shared → Prop}, Asg fs sts → fs.length = vs.length → (∀ f ∈ fs, findIn K (.ref C) f = some none ∧ env.kindOf f = some .local ∧ (f == ("__debug__" : Str)) = false) → (∀ p ∈ fs.zip vs, m p.1 = some p.2) →
      nl.length + fs.length ≤ 1000 → Within m0 nl → K.In s.heap → s.heap.Ns env.locals m → s.heap.get? x = some { cls := .ref C, dict := some dx, data := .fields fv } → s.heap.Ns1 dx m0 →
      (∀ h2 tk2, (∀ b o, b ≠ dx → s.heap.get? b = some o → h2.get? b = some o) → h2.Ns1 dx (put fs vs m0) → Q .next { s with heap := h2, toks := tk2 }) → wpAny (model prog w) A (execs sts env) Q E s
  | _, _, [], m0, nl, s, Q, .nil, _, _, _, _, _, _, _, _, hns, hq => wpAny_execs_nil (hq s.heap s.toks (fun _ _ _ e => e) hns)
  | f :: fs, _, v :: vs, m0, nl, s, Q, .cons hr, hl, hf, hm, hz, hw, X, hn, hx, hns, hq => by
    obtain ⟨f1, f2, f3⟩ := hf f List.mem_cons_self
    refine wpAny_execs_cons (plainObj_wpAny_Assign_Attribute (ESX.ldL hn (hm (f, v) (by simp)) (ESX.ldL hn mself ?_ hk hself) hk f2 f3) (by rfl))
    obtain ⟨oD, esD, epD, hoD, hdD, _⟩ := hns.count hw
    refine set_plain X (ox := { cls := .ref C, dict := some dx, data := .fields fv }) (od := some oD) ⟨hx, rfl, rfl, hoD⟩ sa ?_
    obtain ⟨hp, g, d, t, os⟩ := s
    refine sto_old SF ho X hx hns hw (by simp at hz; omega) hcd hh f1 fun h2 tk2 k2 n2 => ?_
    show wpAny (model prog w) A (execs _ env) Q E _
    have X2 : K.In h2 := fun a o e => k2 a o (fun q => by rw [q, hKd] at e; cases e) (X a o e)
    refine go_fields SF ho sa hcd hh hk hself mself hxd hld hKd (nl := f :: nl) (m0 := fun y => if y = f then some v else m0 y) hr (by simpa using hl) (fun f' hf' => hf f' (List.mem_cons_of_mem _ hf')) (fun p hp => hm p (by simp [hp])) (by simp at hz ⊢; omega) (Within.cons f v hw) X2
      (hn.at fun o e => k2 _ o hld e) (k2 _ _ hxd hx) n2 fun h3 tk3 k3 n3 => hq h3 tk3 (fun b o hb e => k3 b o hb (k2 b o hb e)) n3
end

section
variable {prog : Program} {w : World} {A : Around} {c : Code} {E : Value → Shared → Prop} {s : Shared} {env : PySem.Env}
theorem at_method {o : Expr} {name : Str} {apos pos : Pos} {args : List Expr} {Q : Value → Shared → Prop} (hline : (apos.endLine == pos.line) = true) (hform : methodCallForm (args.length + ([] : List Keyword).length) (backTo pos (starEach args env)) (backToKw pos (keywordEach [] env)) = true)
    (h : _root_.PySem.wpAt (model prog w) A c (attributeBase o name env (eval o env)) (fun ov s1 => ∀ pl, wpAny (model prog w) A (getMethod ov name pl) (fun fx s2 => wpAny (model prog w) A (callWith pos fx.1 fx.2 (backTo pos (starEach args env)) []) Q E s2) E s1) E s) :
    _root_.PySem.wpAt (model prog w) A c (eval (.Call (.Attribute o name apos) args [] pos) env) Q E s := by
  have hpos : methodCallPos true o env apos pos = pure pos := by unfold methodCallPos; simp [hline]
  rw [arm_eval_Call]
  refine _root_.PySem.wpAt_bind (_root_.PySem.wpAt_mono h (fun ov s1 h1 => _root_.PySem.wpAt_of_wpAny (wpAny_bind (wpAny_standAt ?_))) fun _ _ z => z)
  unfold methodCall
  rw [hform]
  exact wpAny_bind (wpAny_holding (wpAny_mono (h1 _) (fun fx s2 h2 => wpAny_bind (wpAny_of_eq hpos h2)) fun _ _ z => z))
end
/-- what the written part says of an own exception class at C, its __init__ at fI, its fields -/
structure XIni (prog : Program) (K : Frag) (C fI : Addr) (B newId i : String) (bmB : List Value) (fs : List Str) (kw : Bool) : Prop where
  FB : ExcBaseFacts B newId i bmB
  KF : KxsFacts B i
  SF : StoreFacts B bmB "object.__setattr__" "object"
  ini : excInitIn K C bmB newId = true
  over : excOver K C bmB = true
  sa : findIn K (.ref C) "__setattr__" = some (some (.builtin "object.__setattr__"))
  iC : findIn K (.ref C) "__init__" = some (some (.ref fI))
  tI : typeIn K (.ref fI) = some (.type "function")
  kp : keepIn K (.ref C) = true
  exC : subIn K (.ref C) (.type "BaseException") = some true
  tyC : typeIn K (.ref C) = some (.type "type")
  hd : (clsIn K C).any (·.hasDict) = true
  noF : ∀ f ∈ fs, findIn K (.ref C) f = some none
  hB : subIn K (.ref C) (.type B) = some true
  sup : ks_superIn K C C "__init__" = some (some (.builtin i))
  opq : nsIn K cStatics "thirdparty.any" = some none
  sub : mroIn K C (.ref C) = some true
  ne : fs ≠ []
  few : fs.length ≤ 900
  top : (prog.main.scope.names.lookup ("super" : Str)).isSome = false
  fn : ∃ (oc : Value) (od : Option Addr) (qual : Str) (ps : List Arg) (p0 p1 p2 p3 p4 p5 pself : Pos) (txt : Str) (j : Nat) (sts : List Stmt) (scope : Scope) (doc pm : Value) (an : Option Addr) (cda : Addr) (ct : Value) (cc : Addr) (osl : Array (Option Value)) (ccl cl : Value) (cdd cld : Option Addr) (ccs csl : Array (Option Value)) (vs : Array Value) (file : Str) (tf : Tok),
    K.lookup fI = some ⟨oc, od, .func (ksFn "__init__" qual { posonlyargs := [], args := { arg := "self", annotation := none, pos := pself } :: ps, vararg := none, kwonlyargs := [], kw_defaults := [], kwarg := none, defaults := [] } (.Expr (.Call (.Attribute (.Call (.Name "super" p0) [] [] p1) "__init__" p2) [.Constant (.str txt) j p3] [] p4) p5 :: sts) scope .none .none doc pm an (.ref cda) ct cc), osl⟩ ∧
    codeIn K (.ref cda) qual = true ∧ K.lookup cda = some ⟨ccl, cdd, .fields vs, ccs⟩ ∧ vs[2]? = some (.str file tf) ∧ ((prog.main.file : Str) == file) = true ∧ (p2.endLine == p4.line) = true ∧ K.lookup cc = some ⟨cl, cld, .cell (some (.ref C)), csl⟩ ∧
    Asg fs sts ∧ ps.map (·.arg) = fs ∧ (∀ x ∈ scope.names, x.2 ≠ .cell) ∧ scope.isCoroutine = false ∧ scope.isGenerator = false ∧ scope.kind = .function ∧
    scope.names.lookup ("super" : Str) = some .globalImplicit ∧ scope.names.lookup ("__class__" : Str) = some .free ∧ (∀ f ∈ ("self" : Str) :: fs, scope.names.lookup f = some .local ∧ (f == ("__debug__" : Str)) = false) ∧
    (∀ (s : Shared) (u : Value) (us : List Value), us.length = fs.length → BindsTo s (ksFn "__init__" qual { posonlyargs := [], args := { arg := "self", annotation := none, pos := pself } :: ps, vararg := none, kwonlyargs := [], kw_defaults := [], kwarg := none, defaults := [] } (.Expr (.Call (.Attribute (.Call (.Name "super" p0) [] [] p1) "__init__" p2) [.Constant (.str txt) j p3] [] p4) p5 :: sts) scope .none .none doc pm an (.ref cda) ct cc) ⟨u :: us, []⟩ ((("self" : Str), u) :: fs.zip us)) ∧
    (kw = true → ∀ (s : Shared) (u : Value) (us : List Value), us.length = fs.length → BindsTo s (ksFn "__init__" qual { posonlyargs := [], args := { arg := "self", annotation := none, pos := pself } :: ps, vararg := none, kwonlyargs := [], kw_defaults := [], kwarg := none, defaults := [] } (.Expr (.Call (.Attribute (.Call (.Name "super" p0) [] [] p1) "__init__" p2) [.Constant (.str txt) j p3] [] p4) p5 :: sts) scope .none .none doc pm an (.ref cda) ct cc) ⟨[u], fs.reverse.zip us⟩ ((("self" : Str), u) :: fs.zip us.reverse))
structure IEnd (h h2 : Heap) (x C dx : Addr) (fs : List Str) (vs : List Value) : Prop where
  keep : ∀ b o, b ≠ x → h.get? b = some o → h2.get? b = some o
  obj : ∃ t1 : Addr, h2.get? x = some { cls := .ref C, dict := some dx, data := .fields #[.ref t1, .none, .none, .none, .bool false, .none] }
  dbig : h.objs.size ≤ dx
  dne : dx ≠ x
  ns : h2.Ns1 dx (put fs vs fun _ => none)
section
variable {prog : Program} {w : World} {A : Around} {E : Value → Shared → Prop} {R : Result → Shared → Prop} {s : Shared} {K : Frag} {mg mb : Str → Option Value} {C fI : Addr} {B newId i : String} {bmB : List Value} {fs : List Str} {kw : Bool}
theorem lookup_bind : ∀ {fs : List Str} {us : List Value} {p : Str × Value}, fs.Nodup → p ∈ fs.zip us → (fs.zip us).lookup p.1 = some p.2
  | [], _, _, _, h => by simp at h
  | _ :: _, [], _, _, h => by simp at h
  | f :: fs, u :: us, p, nd, h => by
    rw [List.zip_cons_cons, List.lookup_cons]
    rcases List.mem_cons.mp (by simpa using h) with e | h
    · subst e
      simp
    · have hp : p.1 ∈ fs := (List.of_mem_zip h).1
      have : (p.1 == f) = false := by
        rw [beq_eq_false_iff_ne]
        intro q
        exact (List.nodup_cons.mp nd).1 (q ▸ hp)
      rw [this]
      exact lookup_bind (List.nodup_cons.mp nd).2 h
theorem nodup_fst_lookup {α : Type} : ∀ {l : List (Str × α)} {n : Str} {v : α}, (l.map (·.1)).Nodup → (n, v) ∈ l → l.lookup n = some v
  | [], _, _, _, h => by simp at h
  | (k, u) :: l, n, v, nd, h => by
    rw [List.lookup_cons]
    rw [List.map_cons, List.nodup_cons] at nd
    rcases List.mem_cons.mp h with e | h
    · cases e
      simp
    · have : (n == k) = false := by
        rw [beq_eq_false_iff_ne]
        intro q
        exact nd.1 (List.mem_map.mpr ⟨(n, v), h, q⟩)
      rw [this]
      exact nodup_fst_lookup nd.2 h
theorem binds_rev {α : Type} {l : List (Str × α)} {n : Str} {v : α} (nd : (l.map (·.1)).Nodup) (h : (n, v) ∈ l) : l.reverse.lookup n = some v :=
  nodup_fst_lookup (by rw [List.map_reverse]; exact List.pairwise_reverse.mpr (nd.imp fun h => Ne.symm h)) (List.mem_reverse.mpr h)
theorem zip_fst : ∀ {fs : List Str} {us : List Value}, us.length = fs.length → (fs.zip us).map (·.1) = fs
  | [], _, _ => by simp
  | f :: fs, [], h => by cases h
  | f :: fs, u :: us, h => by
    rw [List.zip_cons_cons, List.map_cons, zip_fst (by simpa using h)]
theorem bind_two {fd : FuncData} {x : Addr} {us : List Value} {ar : Args} (h : (∀ (s : Shared) (u : Value) (us : List Value), us.length = fs.length → BindsTo s fd ⟨u :: us, []⟩ ((("self" : Str), u) :: fs.zip us)) ∧ (kw = true → ∀ (s : Shared) (u : Value) (us : List Value), us.length = fs.length → BindsTo s fd ⟨[u], fs.reverse.zip us⟩ ((("self" : Str), u) :: fs.zip us.reverse)))
    (hlen : us.length = fs.length) (har : ar = ⟨.ref x :: us, []⟩ ∨ (kw = true ∧ ar = ⟨[.ref x], fs.reverse.zip us.reverse⟩)) : BindsTo s fd ar ((("self" : Str), Value.ref x) :: fs.zip us) := by
  rcases har with rfl | ⟨hkw, rfl⟩
  · exact h.1 s (.ref x) us hlen
  · have := h.2 hkw s (.ref x) us.reverse (by rw [List.length_reverse]; exact hlen)
    rw [List.reverse_reverse] at this
    exact this
theorem x_init (T : XIni prog K C fI B newId i bmB fs kw) (nd : (("self" : Str) :: fs).Nodup) {x t0 : Addr} {us : List Value} {ar : Args} (hlen : us.length = fs.length) (har : ar = ⟨.ref x :: us, []⟩ ∨ (kw = true ∧ ar = ⟨[.ref x], fs.reverse.zip us.reverse⟩)) (X : K.In s.heap) (hlim : s.heap.NoLimit) (hG : s.heap.Ns mainGlobals mg) (hmg : mg "super" = none) (hBn : s.heap.Ns builtinsNs mb) (hmb : mb "super" = bootBuiltins "super")
    (hx : s.heap.get? x = some (excO C t0)) (hnx : K.lookup x = none) (hroom : A.depth < recursionLimit)
    (hq : ∀ h2 tk2 dx, IEnd s.heap h2 x C dx fs us → R (.ok (.ret .none)) { s with heap := h2, toks := tk2 }) :
    codeAny (model prog w) A (.call (.ref fI) ar) R s := by
  obtain ⟨oc, od, qual, ps, p0, p1, p2, p3, p4, p5, pself, txt, j, sts, scope, doc, pm, an, cda, ct, cc, osl, ccl, cl, cdd, cld, ccs, csl, vs, file, tf, ho, hcd, hcode, hvs, hfile, hline, hcell, hasg, hps, hnc, hco, hgen, hk, hks, hkc, hkl, hbind⟩ := T.fn
  have hbind := bind_two (s := s) hbind hlen har
  obtain ⟨nm, N, qn, bs, bm, hdct, sn, sub, ab, col, dd, k0, k1, k2, k3, k5, hC, hT⟩ := excInit_of X T.ini
  obtain ⟨cd, hcl, hhd⟩ := any_some T.hd
  have locs : ∀ y ∈ (("self" : Str), Value.ref x) :: fs.zip us, scope.names.lookup y.1 = some .local := fun y hy => by
    rcases List.mem_cons.mp hy with e | hy
    · subst e
      exact (hkl _ List.mem_cons_self).1
    · exact (hkl _ (List.mem_cons_of_mem _ (List.of_mem_zip hy).1)).1
  have ndb : (((("self" : Str), Value.ref x) :: fs.zip us).map (·.1)).Nodup := by
    rw [List.map_cons, zip_fst hlen]
    exact nd
  refine ks_codeAny_call_defAt hroom (X _ _ ho) rfl hlim (codeRec_of X hcd) rfl hbind hnc locs (fun h0 hns hk0 => ?_) hco hgen hk
  obtain ⟨hh, g, d, tk, os⟩ := s
  -- super().__init__('..')
  show _root_.PySem.wpAt (model prog w) (A.deeper (ksEnv qual scope hh.objs.size fI (.ref cda) cc)) (.func _ (ksEnv qual scope hh.objs.size fI (.ref cda) cc)) (execs _ (ksEnv qual scope hh.objs.size fI (.ref cda) cc)) _ _ _
  have X0 : K.In h0 := X.keeps hk0
  have hx0 := hk0 _ _ hx
  have I0 : InstAt h0 x (excO C t0) C none := ⟨hx0, rfl, rfl, trivial⟩
  have mself : (((("self" : Str), Value.ref x) :: fs.zip us).reverse).lookup ("self" : Str) = some (.ref x) := binds_rev ndb List.mem_cons_self
  refine ks_wpAt_execs_cons (ks_wpAt_Expr_any (at_method hline rfl (ks_wpAt_super_base (env := ksEnv qual scope hh.objs.size fI (.ref cda) cc) hks hkc (by decide) rfl (X0 _ _ ho) rfl rfl rfl (X0 _ _ hcode) rfl hvs hfile T.top ?_)) (by simp [interactive, hk]) (by rfl))
  refine ks_loadName_global hk hks (loadGlobal_builtin (env := ksEnv qual scope hh.objs.size fI (.ref cda) cc) (hG.keeps hk0) hmg (hBn.keeps hk0) (hmb.trans (by first | boot_by_name | rfl | kernel_rfl)) ⟨rfl, ?_⟩)
  refine wpAny_loadName_free hk hkc rfl ⟨_, X0 _ _ hcell, rfl⟩ ?_
  refine wpAny_loadName_local hk (hkl _ List.mem_cons_self).1 hns mself ?_
  have hC0 := hk0 _ _ hC
  refine ks_wpAny_isType_cls hC0 rfl ⟨rfl, ?_⟩
  refine ks_wpAny_call_super hC0 rfl hx0 rfl (fun c e => nomatch e) (looks_mroIn X0 T.sub) fun h1 hso k1' => ?_
  have X1 : K.In h1 := X0.keeps k1'
  have hx1 := k1' _ _ hx0
  have I1 : InstAt h1 x (excO C t0) C none := ⟨hx1, rfl, rfl, trivial⟩
  have hI : Looks (model prog w) h1 (isInstance (.ref x) (.type B)) true := I1.type.andThen (looks_subIn X1 T.hB)
  have hsup := T.sup
  unfold ks_superIn at hsup
  rw [hcl] at hsup
  intro pl
  refine kxs_getMethod T.KF hso (looks_opaque X1 T.opq) (l₀ := cd.mro) (fun A Q E s k q => wpAny_bind ((looks_clsIn X1 hcl) A _ E s k (wpAny_pure q))) rfl X1 hsup hI (ks_ne X1 I1 hcl) (by decide) ?_
  -- the call
  have hmw : (h1.push (kxs_mw i x)).get? h1.objs.size = some (kxs_mw i x) := Heap.get?_push_at rfl rfl
  have kp : ∀ b o, h1.get? b = some o → (h1.push (kxs_mw i x)).get? b = some o := fun b o e => Heap.get?_push_of_some _ e
  refine kxs_callWith (i := i) (x := x) rfl (evalArgs_plain ?_)
  refine PyProof.Rows.args_cons (e := .Constant (.str txt) j p3) (rest := []) (Calls.Constant_str (PyProof.Rows.args_nil ⟨hmw, ?_⟩)) rfl
  have hC1 := kp _ _ (k1' _ _ hC0)
  refine call_mw T.FB hC1 (kp _ _ hx1) hmw (by show 1 ≤ sizeLine; decide) fun h2 t1 k2' hx2 => ?_
  -- the fields
  refine _root_.PySem.wpAt_of_wpAny ?_
  have all : ∀ b o, b ≠ x → hh.get? b = some o → h2.get? b = some o := fun b o hb e => k2' b o hb (kp _ _ (k1' _ _ (hk0 b o e)))
  have X2 : K.In h2 := fun a o e => all a o (fun z => by rw [z, hnx] at e; cases e) (X a o e)
  have xL : hh.objs.size ≠ x := Nat.ne_of_gt (Heap.lt_size hx)
  have hns2 : h2.Ns hh.objs.size (fun y => (((("self" : Str), Value.ref x) :: fs.zip us).reverse).lookup y) := hns.at fun o e => k2' _ o xL (kp _ _ (k1' _ _ e))
  have hms : ∀ p ∈ fs.zip us, (((("self" : Str), Value.ref x) :: fs.zip us).reverse).lookup p.1 = some p.2 := fun p hp => binds_rev ndb (List.mem_cons_of_mem _ hp)
  cases fs with
  | nil => exact (T.ne rfl).elim
  | cons f fs =>
    cases us with
    | nil => cases hlen
    | cons u us =>
      cases hasg with
      | cons hasg =>
        refine wpAny_execs_cons (plainObj_wpAny_Assign_Attribute (ESX.ldL hns2 (hms (f, u) (by simp)) (ESX.ldL hns2 mself ?_ hk (hkl _ List.mem_cons_self).1) hk (hkl f (by simp)).1 (hkl f (by simp)).2) (by rfl))
        refine set_plain X2 (ox := excO C t1) (od := none) ⟨hx2, rfl, rfl, trivial⟩ T.sa ?_
        refine sto_new T.SF T.over X2 hx2 hcl hhd (T.noF f (by simp)) fun h3 tk3 dx k3 big3 ne3 hx3 n3 => ?_
        show wpAny (model prog w) _ (execs _ _) _ _ _
        have h2big : hh.objs.size + 1 ≤ h2.objs.size := by
          obtain ⟨o, es, ep, e, _⟩ := hns2
          exact Heap.lt_size e
        have big3 : h2.objs.size ≤ dx := big3
        have dL : hh.objs.size ≠ dx := by omega
        have X3 : K.In h3 := fun a o e => k3 a o (fun z => by rw [z, hnx] at e; cases e) (X2 a o e)
        have hKd : K.lookup dx = none := by
          cases e : K.lookup dx with
          | none => rfl
          | some o =>
            have := Heap.lt_size (X dx o e)
            have : dx < hh.objs.size := this
            omega
        refine go_fields (env := ksEnv qual scope hh.objs.size fI (.ref cda) cc) (nl := [f]) (m0 := fun y => if y = f then some u else none) (vs := us) T.SF T.over T.sa hcl hhd hk (hkl _ List.mem_cons_self).1 mself (Ne.symm ne3) dL hKd hasg (by simp at hlen; omega) (fun f2 hf2 => ⟨T.noF f2 (by simp [hf2]), hkl f2 (by simp [hf2])⟩) (fun p hp => hms p (by simp [hp]))
          (by have := T.few; simp at this ⊢; omega) (Within.cons f u Within.nil) X3 (hns2.at fun o e => k3 _ o xL e) hx3 n3 fun h4 tk4 k4 n4 => ?_
        refine hq h4 tk4 dx ⟨fun b o hb e => k4 b o (fun z => ?_) (k3 b o hb (all b o hb e)), ⟨t1, k4 _ _ (Ne.symm ne3) hx3⟩, by show hh.objs.size ≤ dx; omega, ne3, n4⟩
        have lb : b < hh.objs.size := Heap.lt_size e
        rw [z] at lb
        exact absurd (Nat.lt_of_lt_of_le lb (Nat.le_trans (Nat.le_of_succ_le h2big) big3)) (Nat.lt_irrefl _)
structure XMade (h h2 : Heap) (e C dx : Addr) (fs : List Str) (vs : List Value) : Prop where
  keep : ∀ b o, h.get? b = some o → h2.get? b = some o
  new : h.objs.size ≤ e
  obj : ∃ t1 : Addr, h2.get? e = some { cls := .ref C, dict := some dx, data := .fields #[.ref t1, .none, .none, .none, .bool false, .none] }
  dbig : h.objs.size ≤ dx
  dne : dx ≠ e
  ns : h2.Ns1 dx (put fs vs fun _ => none)
theorem x_made (T : XIni prog K C fI B newId i bmB fs kw) (nd : (("self" : Str) :: fs).Nodup) {us : List Value} (hlen : us.length = fs.length) (X : K.In s.heap) (hlim : s.heap.NoLimit) (hG : s.heap.Ns mainGlobals mg) (hmg : mg "super" = none) (hBn : s.heap.Ns builtinsNs mb) (hmb : mb "super" = bootBuiltins "super")
    (hroom : A.depth + 1 < recursionLimit) (hq : ∀ h2 tk2 e dx, XMade s.heap h2 e C dx fs us → R (.ok (.ret (.ref e))) { s with heap := h2, toks := tk2 }) :
    codeAny (model prog w) A (.call (.ref C) ⟨us, []⟩) R s := by
  obtain ⟨nm, N, qn, bs, bm, hdct, sn, sub, ab, col, dd, k0, k1, k2, k3, k5, hC, hT⟩ := excInit_of X T.ini
  obtain ⟨hp, g, dr, tk, os⟩ := s
  have k : ∀ b o, hp.get? b = some o → ((hp.push (kdv_tup us)).push (excO C hp.objs.size)).get? b = some o := fun b o e => Heap.get?_push_of_some _ (Heap.get?_push_of_some _ e)
  have hget : ((hp.push (kdv_tup us)).push (excO C hp.objs.size)).get? (hp.objs.size + 1) = some (excO C hp.objs.size) := by heap_get
  have hnx : K.lookup (hp.objs.size + 1) = none := by
    cases e : K.lookup (hp.objs.size + 1) with
    | none => rfl
    | some o => exact absurd (Nat.lt_of_succ_lt (Heap.lt_size (X _ _ e))) (Nat.lt_irrefl _)
  have hz : us.length ≤ sizeLine := by
    have := T.few
    rw [hlen]
    exact Nat.le_trans this (by decide)
  refine call_own T.FB hT hC (looks_findIn X T.iC) (fun self => bind_fn X self T.tI) hz ?_
  refine x_init (s := ⟨(hp.push (kdv_tup us)).push (excO C hp.objs.size), g, dr, tk, os⟩) T nd hlen (.inl rfl) (X.keeps k) (hlim.keeps k) (hG.keeps k) hmg (hBn.keeps k) hmb hget hnx hroom fun h2 tk2 dx I => ?_
  have z : hp.objs.size + 1 + 1 ≤ dx := by
    have := I.dbig
    rw [Heap.size_push, Heap.size_push] at this
    exact this
  refine ⟨rfl, hq h2 tk2 (hp.objs.size + 1) dx ⟨fun b o e => I.keep b o (Nat.ne_of_lt (Nat.lt_succ_of_lt (Heap.lt_size e))) (k b o e), Nat.le_succ _, I.obj, Nat.le_trans (Nat.le_trans (Nat.le_succ _) (Nat.le_succ _)) z, I.dne, I.ns⟩⟩
end
end TDX
namespace TD
open PySem L2
theorem put_lookup : ∀ {fs : List Str} {us : List Value} {m : Str → Option Value} {y : Str}, fs.Nodup → TDX.put fs us m y = match (fs.zip us).lookup y with | some v => some v | none => m y
  | [], _, m, y, _ => by simp [TDX.put]
  | f :: fs, [], m, y, _ => by simp [TDX.put]
  | f :: fs, u :: us, m, y, nd => by
    rw [List.nodup_cons] at nd
    unfold TDX.put
    rw [put_lookup nd.2, List.zip_cons_cons, List.lookup_cons]
    by_cases q : y = f
    · subst q
      have h0 : (fs.zip us).lookup y = none := by
        rw [List.lookup_eq_none_iff]
        intro p hp
        have := (List.of_mem_zip hp).1
        simp only [bne_iff_ne, ne_eq]
        intro e
        exact nd.1 (by rw [show y = p.1 by simpa using e]; exact this)
      rw [h0]
      simp
    · have : (y == f) = false := by simpa using q
      rw [this]
      simp only [if_neg q]
theorem relO_zip {y : Str} : ∀ {fs : List Str} {vs : List V} {us : List Value}, Vals vs us → RelO ((fs.zip vs).lookup y) (match (fs.zip us).lookup y with | some v => some v | none => none)
  | [], _, _, _ => by simp [RelO]
  | _ :: _, [], [], .nil => by simp [RelO]
  | f :: fs, v :: vs, u :: us, .cons r t => by
    rw [List.zip_cons_cons, List.zip_cons_cons, List.lookup_cons, List.lookup_cons]
    cases (y == f) with
    | true => exact r
    | false => exact relO_zip t
theorem RepF.zip {G : GG} {F : Hp} : ∀ {fs : List Str} {vs : List V} {ds : List D}, Reps G F vs ds → RepF G F (fs.zip vs) (fs.zip ds)
  | [], _, _, _ => by simp; exact .nil
  | _ :: _, _, _, .nil => .nil
  | _ :: _, _, _, .cons h r => .cons h (RepF.zip r)
section
variable {κ : Kx} {e : Expr} {es : List Expr} {cs : CL} {pos p : Pos} {x : Str} {k : Nat} {fI : Addr} {B newId i : String} {bmB : List Value} {fs : List Str} {kw : Bool}
theorem jx_call (h : Ok κ) (T : TDX.XIni κ.X.prog κ.X.K (κ.G.cl k) fI B newId i bmB fs kw) (nd : (("self" : Str) :: fs).Nodup) (hXT : κ.P.XT.fs k = some fs) (hg : Gl κ.X x) (hm : κ.X.mg x = some (.ref (κ.G.cl k))) (hsup : κ.X.mg "super" = none) (ha : JA κ (e :: es) cs)
    (hdb : (x == ("__debug__" : Str)) = false := by decide) (he : starEach (e :: es) κ.X.env = (false, eval e κ.X.env) :: starEach es κ.X.env := by rfl) (hpl : (backTo pos (starEach es κ.X.env)).any (·.1) = false := by rfl) :
    JX κ (.Call (.Name x p) (e :: es) [] pos) fun e => EM.bind (runL κ.P.T κ.P.rp κ.cl cs e) fun vs => EM.bind (toDs vs) fun ds => EM.o (mkX κ.P.XT k ds) := by
  intro pins s σ H Q I t
  refine wpAny_Call_Name_kw (ld_glob I hg hm ?_ hdb)
  refine PySem.W.callWith_K (h₀ := κ.X.base) I.ok.mod.kin T.kp (thn (ha.run pos pins s σ H _ I (tM_bind (R := RepLs κ.G) (S := rX κ.G) (Q := fun vs H1 => ∃ Z F as ds M, RepLs κ.G F as vs ds ∧ Good κ.G Z F as M H1 ∧ Out κ.G Z F as (rX κ.G) (fun b H' => Q b.1 b.2 H') (fun c d H' => κ.W c d σ H') (EM.bind (toDs ds) (fun ds => EM.o (mkX κ.P.XT k ds)) M)) (k := fun vs e => EM.bind (toDs vs) fun ds => EM.o (mkX κ.P.XT k ds)) t fun vs Z F as e M H1 ds re g rs o => ⟨Z, F, as, ds, M, rs, g, o⟩)) fun us s1 ⟨vs, H1, I1, r1, Z, F, as, vls, M, rs, g1, o⟩ => ⟨I1.kIn, ?_⟩) he hpl
  obtain ⟨ds, M1, e1, o1⟩ := o.got fun _ _ => toDs_nx
  obtain ⟨F1, g2, u1, rd⟩ := toDs_ok g1 rs e1
  obtain ⟨xc, ex, q⟩ := Out.o o1
  unfold mkX at ex
  rw [hXT] at ex
  simp only at ex
  split at ex
  case isFalse => cases ex
  rename_i hl
  cases ex
  have hlen : us.length = fs.length := by rw [hl, ← rd.length, r1.length]
  have hlim := I1.nolimit
  obtain ⟨mb, b1, b2⟩ := I1.mod.blt
  have hG := I1.mod.glob.keeps I1.bk
  have hB := b1.keeps I1.bk
  have hK := I1.kIn
  obtain ⟨hp, g, dr, tk, os⟩ := s1
  show wpAny (model κ.X.prog κ.X.w) κ.X.A (call (.ref (κ.G.cl k)) us) _ _ _
  refine wpAny_call (TDX.x_made T nd hlen hK hlim hG hsup hB (b2 _ (by decide)) (by have := h.room.dp; omega) fun h2 tk2 e d Md => ?_)
  show MkP κ.X pins σ Q (.ref e) ⟨h2, g, dr, tk2, os⟩
  obtain ⟨t1, hoe⟩ := Md.obj
  obtain ⟨G', g1', g2'⟩ := restrict h2 fun b => decide (b ≠ e)
  have gk : ∀ b, b ≠ e → G'.get? b = h2.get? b := fun b hb => g1' b (decide_eq_true hb)
  have ge : G'.get? e = none := g2' e (by simp)
  have old : ∀ b o, hp.get? b = some o → G'.get? b = some o := fun b o z => (gk b (Nat.ne_of_lt (Nat.lt_of_lt_of_le (Heap.lt_size z) Md.new))).trans (Md.keep b o z)
  have ob : ObjOk κ.X.prog κ.X.w (upd H1 d (.xd (fs.zip vs))) G' d (.xd (fs.zip vs)) :=
    ⟨_, Md.ns.at (fun o z => (gk d Md.dne).trans z), fun f => by rw [put_lookup (List.nodup_cons.mp nd).2]; exact relO_zip r1⟩
  have J : Inv κ.X pins σ (upd H1 d (.xd (fs.zip vs))) ⟨G', g, dr, tk2, os⟩ := I1.laid (t' := tk2) old Md.dbig ob
  have hd1 : H1 d = none := I1.hok.fresh Md.dbig
  obtain ⟨g3, u3⟩ := g2.lay (o := .xd (fs.zip vs)) hd1
  refine ⟨e, _, _, ⟨G', g, dr, tk2, os⟩, _, .ref (κ.G.cl k), some d, rfl, J, fun b o z => ?_, ge, hoe, ⟨rfl, rfl⟩, rfl, rfl, ?_, rfl, I1.bare, raises_own T.exC T.tyC, q (_, _) _ _ _ (u1.trans u3) g3 ⟨d, _, rfl, upd_same, (RepF.zip rd).mono u3.ex⟩⟩
  · by_cases hb : b = e
    · have z' : G'.get? b = some o := z
      rw [hb, ge] at z'
      cases z'
    · exact (gk b hb).symm.trans z
  · rw [upd_ne (Ne.symm Md.dne)]
    exact I1.hok.fresh Md.new
end
end TD
set_option Elab.async false
set_option linter.all false
set_option maxRecDepth 100000
set_option maxHeartbeats 4000000
/-! TD, part E1: own exceptions made by keywords. -/
namespace TDX
open PySem PySem.W PySem.Calls PyProof.Rows PySem.HandSPX
open Builtin Builtin.ObjectAttr
section
variable {prog : Program} {w : World} {M : Model} {A : Around} {E : Value → Shared → Prop} {R : Result → Shared → Prop} {h : Heap} {g : Array GenState} {d : Drawn} {t : Nat} {os : OsState}
variable {nm q : Str} {C N : Addr} {bs bm bmB : List Value} {hdct : Bool} {sn : List Str} {sub : List Value} {ab : Bool} {col : Option Bool} {dd : Option Addr} {k0 k1 k2 k3 k5 : Option Value} {B newId initId : String} {kws : List (Str × Value)}
theorem check_newK (F : ExcBaseFacts B newId initId bmB) (hT : ∀ X : String, bm.contains (.type X) = bmB.contains (.type X)) {Q : Unit → Shared → Prop}
    (hC : h.get? C = some (excClassObj nm q C N bs bm hdct sn sub ab col dd k0 k1 k2 k3 k5 newId)) (hq : Q () ⟨h, g, d, t, os⟩) : wpAny M A (checkBuiltinCall newId ⟨[.ref C], kws⟩) Q E ⟨h, g, d, t, os⟩ := by
  have hcont : (Value.ref C :: bm).contains (.type B) = true := by rw [List.contains_cons, hT, F.hasB, Bool.or_true]
  have hstar := F.noStar
  simp only [checkBuiltinCall, F.newKind, F.newSplit, F.newRow]
  repeat (first | refine wpAny_loadPart_at hC ?_ | (refine wpAny_isSubtype_exc hC ?_; rw [hcont]) | refine wpAny_staticBase_exc hC ?_ | refine wpAny_madeBy_exc hC ?_ | simp only [bne_self_eq_false, Bool.false_eq_true, if_false] | wp_step)
  exact hq
theorem newK (F : ExcBaseFacts B newId initId bmB) (hT : ∀ X : String, bm.contains (.type X) = bmB.contains (.type X))
    (hC : h.get? C = some (excClassObj nm q C N bs bm hdct sn sub ab col dd k0 k1 k2 k3 k5 newId))
    (hq : R (.ok (.ret (.ref (h.objs.size + 1)))) ⟨(h.push { cls := .type "tuple", data := .seq ([] : List Value).toArray }).push
      { cls := .ref C, data := .fields #[.ref h.objs.size, .none, .none, .none, .bool false, .none] }, g, d, t, os⟩) :
    codeAny (model prog w) A (.builtin newId ⟨[.ref C], kws⟩) R ⟨h, g, d, t, os⟩ := by
  have hends := F.ends
  have hcB : (Value.ref C :: bm).contains (.type B) = true := by rw [List.contains_cons, hT, F.hasB, Bool.or_true]
  have hcA : (Value.ref C :: bm).contains (.type "AttributeError") = false := by rw [List.contains_cons, hT, F.noAttr]; rfl
  have hcN : (Value.ref C :: bm).contains (.type "NameError") = false := by rw [List.contains_cons, hT, F.noName]; rfl
  refine codeAny_builtinAt F.entry ?_
  unfold Builtin.«BaseException.__new__»
  refine _root_.PySem.wpAt_bind ?_
  show _root_.PySem.wpAt _ _ _ (stack >>= _) _ _ _
  refine _root_.PySem.wpAt_bind (_root_.PySem.wpAt_stack fun p below => _root_.PySem.wpAt_of_wpAny ?_)
  wp_walk
  refine _root_.PySem.wpAt_of_wpAny ?_
  rw [F.owner]
  repeat (first | with_reducible refine wpAny_madeHere_exc F.canon hC ?_ | with_reducible refine wpAny_loadPart_at hC ?_ | (with_reducible refine wpAny_isSubtype_exc hC ?_; first | rw [hcB] | rw [hcA] | rw [hcN]) | wp_step)
  show R _ _
  rw [Heap.size_push]
  exact hq
theorem type_callK (F : ExcBaseFacts B newId initId bmB) (hT : ∀ X : String, bm.contains (.type X) = bmB.contains (.type X)) {fI : Addr} {Q : Fin → Shared → Prop}
    (hC : h.get? C = some (excClassObj nm q C N bs bm hdct sn sub ab col dd k0 k1 k2 k3 k5 newId))
    (hi : W.Looks (model prog w) h (typeLookup (.ref C) "__init__") (some (.ref fI))) (hb : ∀ self, W.Looks (model prog w) h (bindSpecial (.ref fI) self) (.ref fI, [self]))
    (hq : codeAny (model prog w) A (.call (.ref fI) ⟨[.ref (h.objs.size + 1)], kws⟩)
      (fun r s' => match r with | .ok (.ret v) => v = .none ∧ Q (.done (.ret (.ref (h.objs.size + 1)))) s' | .ok _ => False | .error e => E e s')
      ⟨(h.push (W.kdv_tup [])).push (excO C h.objs.size), g, d, t, os⟩) :
    wpAny (model prog w) A (Builtin.«type.__call__» ⟨[.ref C], kws⟩) Q E ⟨h, g, d, t, os⟩ := by
  repeat (first | with_reducible refine wpAny_loadPart_at hC ?_ | with_reducible refine wpAny_madeBy_exc hC ?_ | wp_step)
  refine codeAny_call_builtin_code (Code.quiet_builtin _ F.quiet) (check_newK F hT hC ?_)
  refine newK F hT hC ?_
  show wpAny _ _ _ _ _ _
  have k : ∀ b o, h.get? b = some o → ((h.push (W.kdv_tup [])).push (excO C h.objs.size)).get? b = some o := fun b o e => Heap.get?_push_of_some _ (Heap.get?_push_of_some _ e)
  have hC₁ := k _ _ hC
  have hget : ((h.push (W.kdv_tup [])).push (excO C h.objs.size)).get? (h.objs.size + 1) = some (excO C h.objs.size) := by heap_get
  have hcC : (Value.ref C :: bm).contains (.ref C) = true := by simp
  have i1 := hi.keeps k
  have b1 := (hb (.ref (h.objs.size + 1))).keeps k
  unfold isInstance
  repeat (first | with_reducible refine wpAny_loadPart_at hget ?_ | (with_reducible refine wpAny_isSubtype_exc hC₁ ?_; rw [hcC]) | wp_step)
  show wpAny _ _ (typeLookup (.ref C) _) _ _ _
  refine i1.at ?_
  refine wpAny_holding (wpAny_bind (b1.at ?_))
  refine wpAny_bind (wpAny_call (codeAny_mono hq fun r s' z => ?_))
  rcases r with e | (v | _ | _ | _) <;> first | exact z | exact z.elim | skip
  obtain ⟨rfl, z⟩ := z
  first
    | exact wpAny_pure (wpAny_pure z)
    | (wp_walk; exact z)
theorem check_tcK {Q : Unit → Shared → Prop} (hC : h.get? C = some (excClassObj nm q C N bs bm hdct sn sub ab col dd k0 k1 k2 k3 k5 newId))
    (hq : Q () ⟨h, g, d, t, os⟩) : wpAny M A (checkBuiltinCall "type.__call__" ⟨[.ref C], kws⟩) Q E ⟨h, g, d, t, os⟩ := by
  have f3 := tc_sub
  have hT : (⟨h, g, d, t, os⟩ : Shared).TypeIs (.ref C) "type" := ⟨_, hC, rfl⟩
  simp only [checkBuiltinCall, tc_kind, tc_split]
  repeat (any_goals (first | assumption | with_reducible refine wpAny_loadPart_at hC ?_ | with_reducible refine wpAny_onRaise ?_ | with_reducible refine wpAny_map ?_ | wp_step))
theorem call_ownK (F : ExcBaseFacts B newId initId bmB) (hT : ∀ X : String, bm.contains (.type X) = bmB.contains (.type X)) {fI : Addr}
    (hC : h.get? C = some (excClassObj nm q C N bs bm hdct sn sub ab col dd k0 k1 k2 k3 k5 newId))
    (hi : W.Looks (model prog w) h (typeLookup (.ref C) "__init__") (some (.ref fI))) (hb : ∀ self, W.Looks (model prog w) h (bindSpecial (.ref fI) self) (.ref fI, [self]))
    (hq : codeAny (model prog w) (A.under (.builtin "type.__call__" ⟨[.ref C], kws⟩)) (.call (.ref fI) ⟨[.ref (h.objs.size + 1)], kws⟩) (W.InitBack (h.objs.size + 1) R)
      ⟨(h.push (W.kdv_tup [])).push (excO C h.objs.size), g, d, t, os⟩) :
    codeAny (model prog w) A (.call (.ref C) ⟨[], kws⟩) R ⟨h, g, d, t, os⟩ := by
  have f1 := tc_lookup
  have f2 := tc_bind (.ref C)
  have hTy : (⟨h, g, d, t, os⟩ : Shared).TypeIs (.ref C) "type" := ⟨_, hC, rfl⟩
  refine codeAny_of_tree ?_
  show wpAny _ _ (callAny (.ref C) _) _ _ _
  repeat (any_goals (first | assumption | with_reducible refine wpAny_loadPart_at hC ?_ | wp_step))
  refine ⟨rfl, ?_⟩
  refine codeAny_call_builtin_at (Code.quiet_builtin _ (by decide +kernel)) entry_typeCall (check_tcK hC (type_callK F hT hC hi hb ?_))
  refine codeAny_mono hq fun r s' z => ?_
  rcases r with e | (v | _ | _ | _) <;> exact z
end
section
variable {prog : Program} {w : World} {A : Around} {R : Result → Shared → Prop} {s : Shared} {K : Frag} {mg mb : Str → Option Value} {C fI : Addr} {B newId i : String} {bmB : List Value} {fs : List Str}
theorem x_madeK (T : XIni prog K C fI B newId i bmB fs true) (nd : (("self" : Str) :: fs).Nodup) {us : List Value} (hlen : us.length = fs.length) (X : K.In s.heap) (hlim : s.heap.NoLimit) (hG : s.heap.Ns mainGlobals mg) (hmg : mg "super" = none) (hBn : s.heap.Ns builtinsNs mb) (hmb : mb "super" = bootBuiltins "super")
    (hroom : A.depth + 1 < recursionLimit) (hq : ∀ h2 tk2 e dx, XMade s.heap h2 e C dx fs us → R (.ok (.ret (.ref e))) { s with heap := h2, toks := tk2 }) :
    codeAny (model prog w) A (.call (.ref C) ⟨[], fs.reverse.zip us.reverse⟩) R s := by
  obtain ⟨nm, N, qn, bs, bm, hdct, sn, sub, ab, col, dd, k0, k1, k2, k3, k5, hC, hT⟩ := excInit_of X T.ini
  obtain ⟨hp, g, dr, tk, os⟩ := s
  have k : ∀ b o, hp.get? b = some o → ((hp.push (kdv_tup [])).push (excO C hp.objs.size)).get? b = some o := fun b o e => Heap.get?_push_of_some _ (Heap.get?_push_of_some _ e)
  have hget : ((hp.push (kdv_tup [])).push (excO C hp.objs.size)).get? (hp.objs.size + 1) = some (excO C hp.objs.size) := by heap_get
  have hnx : K.lookup (hp.objs.size + 1) = none := by
    cases e : K.lookup (hp.objs.size + 1) with
    | none => rfl
    | some o => exact absurd (Nat.lt_of_succ_lt (Heap.lt_size (X _ _ e))) (Nat.lt_irrefl _)
  refine call_ownK T.FB hT hC (looks_findIn X T.iC) (fun self => bind_fn X self T.tI) ?_
  refine x_init (s := ⟨(hp.push (kdv_tup [])).push (excO C hp.objs.size), g, dr, tk, os⟩) T nd hlen (.inr ⟨rfl, rfl⟩) (X.keeps k) (hlim.keeps k) (hG.keeps k) hmg (hBn.keeps k) hmb hget hnx hroom fun h2 tk2 dx I => ?_
  have z : hp.objs.size + 1 + 1 ≤ dx := by
    have := I.dbig
    rw [Heap.size_push, Heap.size_push] at this
    exact this
  refine ⟨rfl, hq h2 tk2 (hp.objs.size + 1) dx ⟨fun b o e => I.keep b o (Nat.ne_of_lt (Nat.lt_succ_of_lt (Heap.lt_size e))) (k b o e), Nat.le_succ _, I.obj, Nat.le_trans (Nat.le_trans (Nat.le_succ _) (Nat.le_succ _)) z, I.dne, I.ns⟩⟩
end
end TDX
set_option Elab.async false
set_option linter.all false
set_option maxRecDepth 100000
set_option maxHeartbeats 4000000
/-! TD, part E2: own exceptions as values. -/
namespace TD
open PySem L2
theorem excH_ok {P : Program} {w : World} {H : Hp} {h : Heap} {a C dd t1 : Addr} (e : h.get? a = some { cls := .ref C, dict := some dd, data := .fields #[.ref t1, .none, .none, .none, .bool false, .none] }) : ObjOk P w H h a (excH a C dd) :=
  ⟨⟨t1, e⟩, ⟨_, e⟩, fun _ _ ⟨t, q⟩ k => ⟨t, k _ q⟩⟩
section
variable {κ : Kx} {e : Expr} {es : List Expr} {cs : CL} {pos p : Pos} {x : Str} {k : Nat} {fI : Addr} {B newId i : String} {bmB : List Value} {fs : List Str} {kw : Bool}
/-- a new exception object is laid -/
theorem exc_laid {pins : List (Addr × Obj)} {σ : L2.St} {H1 : Hp} {hp h2 : Heap} {g : Array GenState} {dr : Drawn} {tk tk2 : Nat} {os : OsState} {Q : VK} {e d : Addr} {Z F : Hp} {as : List Addr} {M : Mem} {us : List Value} {vs : List V} {ds : List D}
    (nd : fs.Nodup) (I1 : Inv κ.X pins σ H1 ⟨hp, g, dr, tk, os⟩) (Md : TDX.XMade hp h2 e (κ.G.cl k) d fs us) (r1 : Vals vs us) (g1 : Good κ.G Z F as M H1) (rd : Reps κ.G F vs ds)
    (q : ∀ y F' as' H', Up F as F' as' → Good κ.G Z F' as' M H' → RepL κ.G F' as' y (.d (.exc k (fs.zip ds))) → Q y H') : EP κ.X pins σ Q (.ref e) ⟨h2, g, dr, tk2, os⟩ := by
  obtain ⟨t1, hoe⟩ := Md.obj
  obtain ⟨G', g1', g2'⟩ := restrict h2 fun b => decide (b ≠ e)
  have gk : ∀ b, b ≠ e → G'.get? b = h2.get? b := fun b hb => g1' b (decide_eq_true hb)
  have ge : G'.get? e = none := g2' e (by simp)
  have old : ∀ b o, hp.get? b = some o → G'.get? b = some o := fun b o z => (gk b (Nat.ne_of_lt (Nat.lt_of_lt_of_le (Heap.lt_size z) Md.new))).trans (Md.keep b o z)
  have ob : ObjOk κ.X.prog κ.X.w (upd H1 d (.xd (fs.zip vs))) G' d (.xd (fs.zip vs)) :=
    ⟨_, Md.ns.at (fun o z => (gk d Md.dne).trans z), fun f => by rw [put_lookup nd]; exact relO_zip r1⟩
  have J : Inv κ.X pins σ (upd H1 d (.xd (fs.zip vs))) ⟨G', g, dr, tk2, os⟩ := I1.laid (t' := tk2) old Md.dbig ob
  have hd1 : H1 d = none := I1.hok.fresh Md.dbig
  have he1 : H1 e = none := I1.hok.fresh Md.new
  have he2 : (upd H1 d (.xd (fs.zip vs))) e = none := by rw [upd_ne (Ne.symm Md.dne)]; exact he1
  have J2 : Inv κ.X pins σ (upd (upd H1 d (.xd (fs.zip vs))) e (excH e (κ.G.cl k) d)) ⟨h2, g, dr, tk2, os⟩ := J.laidN (t' := tk2) (fun b o z => by
      by_cases hb : b = e
      · have z' : G'.get? b = some o := z
        rw [hb, ge] at z'
        cases z'
      · exact (gk b hb).symm.trans z) ge he2 (excH_ok hoe)
  obtain ⟨g3, u3⟩ := g1.lay (o := .xd (fs.zip vs)) hd1
  obtain ⟨g4, u4⟩ := g3.lay (o := excH e (κ.G.cl k) d) he2
  refine ⟨.ref e, _, J2, rfl, q _ _ _ _ (u3.trans u4) g4 ?_⟩
  exact Rep.exc (dd := d) (fs' := fs.zip vs) upd_same (by rw [upd_ne Md.dne]; exact upd_same) ((RepF.zip rd).mono (u3.trans u4).ex)
theorem je_mkx (h : Ok κ) (T : TDX.XIni κ.X.prog κ.X.K (κ.G.cl k) fI B newId i bmB fs kw) (nd : (("self" : Str) :: fs).Nodup) (hg : Gl κ.X x) (hm : κ.X.mg x = some (.ref (κ.G.cl k))) (hsup : κ.X.mg "super" = none) (ha : JA κ (e :: es) cs)
    (hdb : (x == ("__debug__" : Str)) = false := by decide) (he : starEach (e :: es) κ.X.env = (false, eval e κ.X.env) :: starEach es κ.X.env := by rfl) (hpl : (backTo pos (starEach es κ.X.env)).any (·.1) = false := by rfl) :
    JE κ (.Call (.Name x p) (e :: es) [] pos) (.mkx k fs false cs) := by
  refine ⟨fun pins s σ H Q I t => ?_⟩
  refine wpAny_Call_Name_kw (ld_glob I hg hm ?_ hdb)
  refine PySem.W.callWith_K (h₀ := κ.X.base) I.ok.mod.kin T.kp (thn (ha.run pos pins s σ H _ I (tM_bind (R := RepLs κ.G) (S := RepL κ.G) (Q := fun vs H1 => ∃ Z F as ds M, RepLs κ.G F as vs ds ∧ Good κ.G Z F as M H1 ∧ Out κ.G Z F as (RepL κ.G) Q (fun c d H' => κ.W c d σ H') (EM.bind (toDs ds) (fun ds => EM.o (if fs.length = ds.length then some (.d (.exc k (fs.zip (if false then ds.reverse else ds)))) else none)) M)) (k := fun vs e => EM.bind (toDs vs) fun ds => EM.o (if fs.length = ds.length then some (.d (.exc k (fs.zip (if false then ds.reverse else ds)))) else none)) t fun vs Z F as e M H1 ds re g rs o => ⟨Z, F, as, ds, M, rs, g, o⟩)) fun us s1 ⟨vs, H1, I1, r1, Z, F, as, vls, M, rs, g1, o⟩ => ⟨I1.kIn, ?_⟩) he hpl
  obtain ⟨ds, M1, e1, o1⟩ := o.got fun _ _ => toDs_nx
  obtain ⟨F1, g2, u1, rd⟩ := toDs_ok g1 rs e1
  obtain ⟨v, ev, q⟩ := Out.o o1
  split at ev
  case isFalse => cases ev
  rename_i hl
  cases ev
  have hlen : us.length = fs.length := by rw [hl, ← rd.length, r1.length]
  have hlim := I1.nolimit
  obtain ⟨mb, b1, b2⟩ := I1.mod.blt
  have hG := I1.mod.glob.keeps I1.bk
  have hB := b1.keeps I1.bk
  have hK := I1.kIn
  obtain ⟨hp, g, dr, tk, os⟩ := s1
  show wpAny (model κ.X.prog κ.X.w) κ.X.A (call (.ref (κ.G.cl k)) us) _ _ _
  refine wpAny_call (TDX.x_made T nd hlen hK hlim hG hsup hB (b2 _ (by decide)) (by have := h.room.dp; omega) fun h2 tk2 e d Md => ?_)
  exact exc_laid (List.nodup_cons.mp nd).2 I1 Md r1 g2 rd fun y F' as' H' u gg rr => q y F' as' H' (u1.trans u) gg rr
def JK (κ : Kx) (kws : List Keyword) (cs : CL) : Prop := PK κ.X kws (tM κ.G κ.hx κ.W (RepLs κ.G) (runL κ.P.T κ.P.rp κ.cl cs))
theorem PK.weak {X : Cx} {kws : List Keyword} {t t' : TA} (h : PK X kws t) (f : ∀ σ H Q, t' σ H Q → t σ H Q) : PK X kws t' := ⟨fun pos pins s σ H Q I q => h.run pos pins s σ H Q I (f σ H Q q)⟩
theorem jk_nil : JK κ [] .nil := PK.weak pk_nil fun σ H Q t => by
  obtain ⟨Z, F, as, e, M, re, g, o⟩ := t
  exact o [] F as H Up.refl g .nil
theorem jk_cons {kws : List Keyword} {ce : CE} {nm : Option Str} {kpos : Pos} (ha : JE κ e ce) (hr : JK κ kws cs) : JK κ (⟨nm, e, kpos⟩ :: kws) (.cons ce cs) := PK.weak (pk_cons ha hr) fun σ H Q t =>
  tM_bind (R := RepL κ.G) (S := RepLs κ.G) (k := fun v e => EM.bind (runL κ.P.T κ.P.rp κ.cl cs e) fun vs => EM.pure (v :: vs)) t fun x Z F as e M H1 va re g ra o =>
    ⟨Z, F, as, e, M, re, g, o.bind fun xs F2 as2 H2 vs M2 _ u2 g2 rs o2 => o2 (x :: xs) F2 as2 H2 Up.refl g2 (.cons (ra.mono u2) rs)⟩
theorem je_mkxK (h : Ok κ) {kws : List Keyword} (T : TDX.XIni κ.X.prog κ.X.K (κ.G.cl k) fI B newId i bmB fs true) (nd : (("self" : Str) :: fs).Nodup) (hg : Gl κ.X x) (hm : κ.X.mg x = some (.ref (κ.G.cl k))) (hsup : κ.X.mg "super" = none) (ha : JK κ kws cs)
    (hall : (backToKw pos (keywordEach kws κ.X.env)).all (·.1.isSome) = true := by rfl) (hks : (backToKw pos (keywordEach kws κ.X.env)).filterMap (·.1) = fs.reverse := by rfl)
    (hdb : (x == ("__debug__" : Str)) = false := by decide) (hpl : ((backTo pos (starEach [] κ.X.env)).any (·.1) || (backToKw pos (keywordEach kws κ.X.env)).any (·.1.isNone)) = false := by rfl) :
    JE κ (.Call (.Name x p) [] kws pos) (.mkx k fs true cs) := by
  refine ⟨fun pins s σ H Q I t => ?_⟩
  refine wpAny_Call_Name_kw (ld_glob I hg hm ?_ hdb)
  refine PySem.W.callWith_KW0 (h₀ := κ.X.base) I.ok.mod.kin T.kp hall (thn (ha.run pos pins s σ H _ I (tM_bind (R := RepLs κ.G) (S := RepL κ.G) (Q := fun vs H1 => ∃ Z F as ds M, RepLs κ.G F as vs ds ∧ Good κ.G Z F as M H1 ∧ Out κ.G Z F as (RepL κ.G) Q (fun c d H' => κ.W c d σ H') (EM.bind (toDs ds) (fun ds => EM.o (if fs.length = ds.length then some (.d (.exc k (fs.zip (if true then ds.reverse else ds)))) else none)) M)) (k := fun vs e => EM.bind (toDs vs) fun ds => EM.o (if fs.length = ds.length then some (.d (.exc k (fs.zip (if true then ds.reverse else ds)))) else none)) t fun vs Z F as e M H1 ds re g rs o => ⟨Z, F, as, ds, M, rs, g, o⟩)) fun us s1 ⟨vs, H1, I1, r1, Z, F, as, vls, M, rs, g1, o⟩ => ⟨I1.kIn, ?_⟩) hpl
  rw [hks]
  obtain ⟨ds, M1, e1, o1⟩ := o.got fun _ _ => toDs_nx
  obtain ⟨F1, g2, u1, rd⟩ := toDs_ok g1 rs e1
  obtain ⟨v, ev, q⟩ := Out.o o1
  split at ev
  case isFalse => cases ev
  rename_i hl
  cases ev
  have hlen : us.reverse.length = fs.length := by rw [List.length_reverse, hl, ← rd.length, r1.length]
  have hlim := I1.nolimit
  obtain ⟨mb, b1, b2⟩ := I1.mod.blt
  have hG := I1.mod.glob.keeps I1.bk
  have hB := b1.keeps I1.bk
  have hK := I1.kIn
  obtain ⟨hp, g, dr, tk, os⟩ := s1
  show wpAny (model κ.X.prog κ.X.w) κ.X.A (call (.ref (κ.G.cl k)) [] (fs.reverse.zip us)) _ _ _
  have hc := TDX.x_madeK (w := κ.X.w) (A := κ.X.A) (us := us.reverse) (s := ⟨hp, g, dr, tk, os⟩) (R := fun r s' => match r with | .ok (.ret v) => EP κ.X pins σ Q v s' | .ok _ => False | .error e => κ.X.xe e s') T nd hlen hK hlim hG hsup hB (b2 _ (by decide)) (by have := h.room.dp; omega) fun h2 tk2 e d Md => exc_laid (List.nodup_cons.mp nd).2 I1 Md (Vals.reverse r1) g2 (Reps.reverse rd) fun y F' as' H' u gg rr => q y F' as' H' (u1.trans u) gg rr
  rw [List.reverse_reverse] at hc
  exact wpAny_call (codeAny_mono hc fun r s' z => by
    rcases r with e | (v | _ | _ | _) <;> first | exact z | exact z.elim)
theorem je_dict0 : JE κ (.Dict [] [] pos) (.con (.dic [])) :=
  PE.weak pe_dnewK fun σ H Q t => by
    obtain ⟨Z, F, as, e, M, re, g, o⟩ := t
    intro p hp
    obtain ⟨g4, u4⟩ := g.lay (o := .dK []) hp
    exact o _ _ _ _ u4 g4 (show Rep κ.G _ _ _ from .dic (upd_same ..) .nil)
/-! fields, isinstance -/
theorem je_xfld {a : Expr} {ca : CE} {f : Str} (hxf : ∀ c f, κ.P.T.xfl c f = true → XfC κ.X.K (κ.G.cl c) ∧ PySem.W.findIn κ.X.K (.ref (κ.G.cl c)) f = some none) (ha : JE κ a ca) (hb : attributeBase a f κ.X.env (eval a κ.X.env) = eval a κ.X.env := by rfl) : JE κ (.Attribute a f pos) (.xfld ca f) := by
  refine ⟨fun pins s σ H Q I t => ?_⟩
  refine attr_of hb (thn (ha.run pins s σ H _ I (tM_bind (R := RepL κ.G) (S := RepL κ.G) (Q := fun x H1 => ∃ Z F as va M, RepL κ.G F as x va ∧ Good κ.G Z F as M H1 ∧ Out κ.G Z F as (RepL κ.G) Q (fun c d H' => κ.W c d σ H') (xfldV κ.P.T f va M)) (k := fun x e => xfldV κ.P.T f x) t fun x Z F as e M H1 va re g ra o => ⟨Z, F, as, va, M, ra, g, o⟩)) fun u s1 ⟨x, H1, I1, rx, Z, F, as, va, M, ra, g, o⟩ => ?_)
  unfold xfldV at o
  split at o
  case h_2 => exact o.elim
  rename_i c fs
  obtain ⟨v, ev, q⟩ := Out.o o
  split at ev
  case isFalse => cases ev
  rename_i hfl
  obtain ⟨dv, el, rfl⟩ := Option.map_eq_some_iff.mp ev
  cases ra with
  | exc h1 h2 h3 =>
    rename_i a dd fs'
    obtain rfl : u = Value.ref a := rx
    obtain ⟨T, hno⟩ := hxf _ _ hfl
    obtain ⟨w, hw, rw⟩ := h3.lookup el
    obtain ⟨⟨t1, hoe⟩, _, _⟩ := I1.hok a _ (g.sub _ _ h1)
    have hx : ObjOk κ.X.prog κ.X.w H1 s1.heap dd (.xd fs') := I1.hok dd _ (g.sub _ _ h2)
    obtain ⟨mA, hns, hr⟩ := hx
    obtain ⟨od, ho, hl⟩ := lookIn_ns hns
    obtain ⟨u, hu, ru⟩ := RelO.some_of (v := w) (o := mA f) (by rw [← hw]; exact hr f)
    have J : PySem.W.InstAt s1.heap a _ (κ.G.cl c) (some od) := ⟨hoe, rfl, by unfold PySem.W.notCls; rfl, ho⟩
    exact HandSPX.exc_get I1.kIn J T.ga T.gg T.exC (PySem.W.findObj_own T.hdC hno rfl (by rw [hl, hu])) (handed_of ru) ⟨w, H1, I1.tok _, ru, q _ F as H1 Up.refl g rw⟩
/-- what the written part says of an exception's class for isinstance -/
structure XisC (K : PySem.W.Frag) (C : Addr) : Prop where
  hcl : (PySem.W.clsIn K C).isSome = true
  hga : PySem.W.findIn K (.ref C) "__getattribute__" = some (some (.builtin "BaseException.__getattribute__"))
  hgt : PySem.W.findIn K (.ref C) "__getattr__" = some none
  hsub : PySem.W.subIn K (.ref C) (.type "BaseException") = some true
  ha : PySem.W.findIn K (.ref C) "__class__" = some (some (.builtin "object.__class__"))
  hn : PySem.W.specialIn K (.builtin "object.__class__") "__get__" = some (some (.builtin "getset_descriptor.__get__"))
  htk : PySem.W.takesIn K (.builtin "object.__class__") = some true
  hm : PySem.W.mroIn K C (.type "object") = some true
/-- isinstance(a, T), a an exception -/
theorem je_isx {a b : Expr} {ca : CE} {tab : List (Nat × Bool)} {cv : V} {cu : Value} (hc : ClsV cv cu) (ht : ∀ c r, tab.lookup c = some r → XisC κ.X.K (κ.G.cl c) ∧ PySem.W.kitOne κ.X.K (.ref (κ.G.cl c)) cu = some r)
    (ha : JE κ a ca) (hb : PE κ.X b (tC cv)) (hg : Gl κ.X "isinstance") (hm : κ.X.mg "isinstance" = none)
    (he : starEach (a :: [b]) κ.X.env = (false, eval a κ.X.env) :: starEach [b] κ.X.env := by rfl) (he2 : starEach (b :: []) κ.X.env = (false, eval b κ.X.env) :: starEach [] κ.X.env := by rfl) (hpl : (backTo pos (starEach [b] κ.X.env)).any (·.1) = false := by rfl) :
    JE κ (.Call (.Name "isinstance" p) [a, b] [] pos) (.isx ca tab) :=
  PE.weak (pe_callB (id := "isinstance") (r := fun xs H Q => ∃ x, xs = [x, cv] ∧ ∃ Z F as va M, RepL κ.G F as x va ∧ Good κ.G Z F as M H ∧ ∃ E, Out κ.G Z F as (RepL κ.G) Q E (isxV tab va M)) (by
      intro pins s σ H xs us Q I r h
      obtain ⟨x, rfl, Z, F, as, va, M, ra, g, E, o⟩ := h
      obtain ⟨u1, u2, rfl, r1, r2⟩ := vals2 r
      have e2 := hc.eq r2
      subst e2
      unfold isxV at o
      split at o
      case h_2 => exact o.elim
      rename_i c fs
      obtain ⟨v, ev, q⟩ := Out.o o
      obtain ⟨bb, el, rfl⟩ := Option.map_eq_some_iff.mp ev
      cases ra with
      | exc h1 h2 h3 =>
        rename_i a dd fs'
        obtain rfl : u1 = Value.ref a := r1
        obtain ⟨T, e⟩ := ht _ _ el
        obtain ⟨⟨t1, hoe⟩, _, _⟩ := I.hok a _ (g.sub _ _ h1)
        obtain ⟨mA, hns, hr⟩ := (show ObjOk κ.X.prog κ.X.w H s.heap dd (.xd fs') from I.hok dd _ (g.sub _ _ h2))
        obtain ⟨od, ho, hl⟩ := lookIn_ns hns
        have J : PySem.W.InstAt s.heap a _ (κ.G.cl c) (some od) := ⟨hoe, rfl, by unfold PySem.W.notCls; rfl, ho⟩
        exact PySem.W.kia_one (PySem.W.kitx_exc T.hcl T.hga T.hgt T.hsub T.ha T.hn T.htk T.hm) I.kIn J e (fun z => nomatch z) fun tk => ⟨.bl bb, H, I.tok tk, rfl, q _ F as H Up.refl g (.bl bb)⟩) hg hm (by decide +kernel) (pa_cons ha (pa_cons hb pa_nil he2) he) (he := he) (hpl := hpl)) fun σ H Q q => tM_bind (k := fun x e => isxV tab x) q fun x Z F as e M H1 va re g ra o => ⟨x, rfl, Z, F, as, va, M, ra, g, _, o⟩
end
end TD
set_option Elab.async false
set_option linter.all false
set_option maxRecDepth 100000
set_option maxHeartbeats 4000000
/-! TD, part O: a def keeps what its code computes. -/
namespace TD
open PySem L2
section
variable {G : GG} {Z F F' H H' : Hp} {as as' : List Addr} {M M' : Mem} {E : XK} {Q : VK}
theorem take_set {b n : Nat} {x : MO} (h : b ≤ n) : (M.set n x).take b = M.take b := by
  refine List.ext_getElem? fun i => ?_
  rw [List.getElem?_take, List.getElem?_take]
  split
  · rw [List.getElem?_set_ne (by omega)]
  · rfl
theorem freeze_take {b n : Nat} {d : D} (h : b ≤ n) (e : freeze n M = some (.ok d, M')) : M'.take b = M.take b := by
  unfold freeze at e
  split at e
  · cases e; exact take_set h
  · cases e; exact take_set h
  · cases e; rfl
  · split at e
    · cases e; exact take_set h
    · cases e
  · cases e
/-- one live object is kept out of what was made -/
theorem Good.keep1 {b n : Nat} {a : Addr} {mo : MO} (g : Good G Z F as M H) (hb : b ≤ n) (h : okCut b (M.take b) = true) (ha : as[n]? = some a) (hm : M[n]? = some mo) (hk : okCut b [mo] = true) : Good G Z F (as.take b ++ [a]) (M.take b ++ [mo]) H := by
  have gc := g.cut h
  have hbl : b ≤ as.length := Nat.le_of_lt (Nat.lt_of_le_of_lt hb (List.getElem?_eq_some_iff.mp ha).1)
  have hl : (as.take b).length = b := by rw [List.length_take]; omega
  have hlM : (M.take b).length = b := by rw [List.length_take, ← g.len]; omega
  have na : a ∉ as.take b := fun hin => by
    obtain ⟨i, hi⟩ := List.getElem?_of_mem hin
    have hib : i < b := by
      have := (List.getElem?_eq_some_iff.mp hi).1
      rw [hl] at this
      exact this
    rw [List.getElem?_take, if_pos hib] at hi
    have : i = n := (List.getElem?_inj (List.getElem?_eq_some_iff.mp hi).1 g.nd).mp (hi.trans ha.symm)
    omega
  have pre : as.take b <+: as.take b ++ [a] := List.prefix_append _ _
  refine ⟨g.sub, by simp [hl, hlM], ?_, fun i c m1 e1 e2 => ?_, g.zh, g.zf, fun c o hz hin => ?_⟩
  · rw [List.nodup_append]
    refine ⟨gc.nd, by simp, fun x hx y hy => ?_⟩
    rw [List.mem_singleton] at hy
    subst hy
    intro e
    subst e
    exact na hx
  · by_cases hib : i < b
    · rw [List.getElem?_append_left (by rw [hl]; exact hib)] at e1
      rw [List.getElem?_append_left (by rw [hlM]; exact hib)] at e2
      have := gc.ok i c m1 e1 e2
      cases m1 with
      | ins k fs => obtain ⟨f, dx, vs, h1, r⟩ := this; exact ⟨f, dx, vs, h1, r.mono ⟨Evl.Ex.refl _, pre⟩⟩
      | lst _ => exact this
      | dic _ => exact this
      | frz _ => exact this
      | scr _ => exact this
    · have hi : i = b := by
        have := (List.getElem?_eq_some_iff.mp e1).1
        rw [List.length_append, hl] at this
        simp at this
        omega
      subst hi
      rw [List.getElem?_append_right (by rw [hl]; exact Nat.le_refl _), hl] at e1
      rw [List.getElem?_append_right (by rw [hlM]; exact Nat.le_refl _), hlM] at e2
      simp at e1 e2
      subst e1
      subst e2
      have := g.ok n a mo ha hm
      cases mo with
      | ins k fs =>
        obtain ⟨f, dx, vs, h1, r⟩ := this
        have hfs : (fs.all fun f => noLoc i f.2) = true := by
          unfold okCut at hk
          exact (Bool.and_eq_true_iff.mp hk).1
        exact ⟨f, dx, vs, h1, (r.cut hfs).mono ⟨Evl.Ex.refl _, pre⟩⟩
      | lst _ => exact this
      | dic _ => exact this
      | frz _ => exact this
      | scr _ => exact this
  · rcases List.mem_append.mp hin with hin | hin
    · exact gc.za c o hz hin
    · rw [List.mem_singleton] at hin
      subst hin
      exact g.za c o hz (List.mem_of_getElem? ha)
theorem fin_ok {b mode : Nat} {v : Vl} {x : V} (hb : as.length = b) (o : Out G Z F as (RepL G) Q E (fin b mode v M)) (u : Up F as F' as') (g : Good G Z F' as' M H) (r : RepL G F' as' x v) : Q x H := by
  have hpre : as'.take b = as := pre_take u.pre hb
  unfold fin at o
  by_cases h2 : mode = 2
  · rw [if_pos h2] at o
    exact o x F' as' H u g r
  · rw [if_neg h2] at o
    by_cases hc : okCut b (M.take b) = true
    · rw [if_pos hc] at o
      have gc := g.cut hc
      rw [hpre] at gc
      have uc : Up F as F' as := ⟨u.ex, List.prefix_refl _⟩
      cases v with
      | d y => exact o x F' as H uc gc r
      | loc n =>
        obtain ⟨a, ha, rfl⟩ := r
        simp only at o
        by_cases hn : n < b
        · rw [if_pos hn] at o
          refine o _ F' as H uc gc ⟨a, ?_, rfl⟩
          rw [← hpre]
          exact take_get hn ha
        · rw [if_neg hn] at o
          by_cases h1 : mode = 1
          · rw [if_pos h1] at o
            cases q : M[n]? with
            | none => rw [q] at o; exact o.elim
            | some mo =>
              rw [q] at o
              simp only at o
              by_cases hk : okCut b [mo] = true
              · rw [if_pos hk] at o
                have gk := g.keep1 (by omega) hc ha q hk
                rw [hpre] at gk
                refine o _ F' (as ++ [a]) H ⟨u.ex, List.prefix_append _ _⟩ gk ⟨a, ?_, rfl⟩
                rw [← hb, List.getElem?_append_right (Nat.le_refl _)]
                simp
              · rw [if_neg hk] at o
                exact o.elim
          · rw [if_neg h1] at o
            cases q : freeze n M with
            | none => rw [q] at o; exact o.elim
            | some p =>
              obtain ⟨p, M2⟩ := p
              rw [q] at o
              cases p with
              | ex y => exact o.elim
              | ok d =>
                simp only at o
                obtain ⟨F2, g2, u2, r2⟩ := freeze_ok g ha q
                have ht := freeze_take (b := b) (by omega) q
                have gc2 := g2.cut (b := b) (by rw [ht]; exact hc)
                rw [hpre] at gc2
                exact o _ F2 as H ⟨u.ex.trans u2.ex, List.prefix_refl _⟩ gc2 r2
    · rw [if_neg hc] at o
      exact o.elim
end
/-- where a def's body stands -/
abbrev kxOf (P : Program) (w : World) (K : PySem.W.Frag) (mg : Str → Option Value) (base : Heap) (N : List Str) (qual : Str) (scope : Scope) (f : Addr) (cdv : Value) (A : Around) (outer : List PySem.Env) (s : Shared) (H : Hp) (E : XK) (G : GG) (Pg : Prg) (n : Nat) : Kx :=
  { X := cxOf (L2.CX P w) P w K mg base N qual scope f cdv A outer s H E, W := fun c d _ H' => E c d H', G := G, P := Pg, n := n, hx := none }
/-- what is fixed for the whole law -/
structure Law0 (P : Program) (w : World) (K : PySem.W.Frag) (mg : Str → Option Value) (base : Heap) (G : GG) (Pg : Prg) : Prop where
  k : K = G.K
  fld : ∀ c f, Pg.T.fld c f = true → Cls K (G.cl c) ∧ NoAttr K (G.cl c) f
  met : ∀ c m f, Pg.T.met c m = some f → Cls K (G.cl c) ∧ Meth K (G.cl c) m (G.fa f)
  cls : ∀ c C, Pg.cd c = some C → Mk K (G.cl c) (G.fa C.init)
section
variable {P : Program} {w : World} {K : PySem.W.Frag} {mg : Str → Option Value} {base : Heap} {G : GG} {Pg : Prg} {k f : Nat} {name qual : Str} {params : Arguments} {body : List Stmt} {scope : Scope} {dV kV doc pm cdv ct oc : Value} {an od : Option Addr} {osl : Array (Option Value)} {N ps : List Str} {Fd : Fn}
theorem ok_of {A : Around} {outer : List PySem.Env} {s : Shared} {H : Hp} {E : XK} (L : Law0 P w K mg base G Pg) (S : FnScope N ps scope) (hr : Room k (A.deeper (PyProof.Rows.envOfC qual scope s.heap.objs.size (G.fa f) cdv))) (hg : A.guards = some []) (ih : ∀ j, j ≤ k → ∀ f, FnG P w K mg base j (G.fa f) (spF G Pg j f)) :
    Ok (kxOf P w K mg base N qual scope (G.fa f) cdv A outer s H E G Pg k) where
  k := L.k
  u := hr.units
  gd := hg
  fld := L.fld
  calm := rfl
  room := hr
  tk := takes_of rfl rfl rfl rfl
  po := passes_of rfl
  nd := S.nd
  fn := ih
  met := L.met
  cls := L.cls
theorem envR_start {F : Hp} {as : List Addr} {vs : List V} {ws : List Vl} (r : RepLs G F as vs ws) {ns : Nat} (hN : N.length = vs.length + ns) : EnvR G none F as (L2.start N vs) ⟨ws.map some ++ List.replicate ns none, none⟩ := by
  have hl := r.length
  refine ⟨by simp [L2.start, hl, hN], fun i v h => ?_, fun x h => by cases h⟩
  have h : (ws.map some ++ List.replicate ns none)[i]? = some (some v) := h
  by_cases hi : i < ws.length
  · rw [List.getElem?_append_left (by simpa using hi), List.getElem?_map] at h
    obtain ⟨v', hv, ev⟩ := Option.map_eq_some_iff.mp h
    cases ev
    have : ∀ {vs : List V} {ws : List Vl} {i : Nat} {v : Vl}, RepLs G F as vs ws → ws[i]? = some v → ∃ x, vs[i]? = some x ∧ RepL G F as x v := by
      intro vs ws i v r
      induction r generalizing i with
      | nil => intro e; simp at e
      | cons h t ih =>
        intro e
        cases i with
        | zero => simp at e; subst e; exact ⟨_, rfl, h⟩
        | succ i => exact ih (by simpa using e)
    obtain ⟨x, hx, rx⟩ := this r hv
    refine ⟨x, ?_, rx⟩
    unfold L2.start
    rw [List.getElem?_append_left (by rw [List.length_map, hl]; exact hi), List.getElem?_map, hx]
    rfl
  · rw [List.getElem?_append_right (by simpa using hi)] at h
    rw [List.getElem?_replicate] at h
    split at h <;> cases h
theorem body_ok {A : Around} {outer : List PySem.Env} {s : Shared} {H : Hp} {vs : List V} {Q : VK} {E : XK} {Z F0 : Hp} {as0 : List Addr} {F : Hp} {ws : List Vl} {M0 : Mem} {b : Nat} (u0 : Up F0 as0 F as0) (hb : as0.length = b) (r : RepLs G F as0 vs ws) (g : Good G Z F as0 M0 H) (hN : N.length = vs.length + Fd.ns)
    (hbody : JSs (kxOf P w K mg base N qual scope (G.fa f) cdv A outer s H E G Pg k) body Fd.body)
    (o : Out G Z F0 as0 (RepL G) Q E (endF b Fd.mode (runSs Pg.T Pg.rp Pg.XT (callN Pg k) Fd.body ⟨ws.map some ++ List.replicate Fd.ns none, none⟩ M0))) :
    ∃ t, PSs (cxOf (L2.CX P w) P w K mg base N qual scope (G.fa f) cdv A outer s H E) body t ∧ t { nx := fun _ H' => Q .non H', rt := Q } (L2.start N vs) H := by
  refine ⟨_, hbody, Z, F, as0, _, M0, envR_start r hN, g, ?_⟩
  have o := Out.up u0 o
  show OutS G none (fun c d _ H' => E c d H') Z F as0 _ (runSs Pg.T Pg.rp Pg.XT (callN Pg k) Fd.body ⟨ws.map some ++ List.replicate Fd.ns none, none⟩ M0)
  cases q : runSs Pg.T Pg.rp Pg.XT (callN Pg k) Fd.body ⟨ws.map some ++ List.replicate Fd.ns none, none⟩ M0 with
  | none => rw [q] at o; exact o
  | some p =>
    obtain ⟨p, M1⟩ := p
    rw [q] at o
    cases p with
    | next e => exact fun σ F' as' H' u re g1 => fin_ok (v := .d .non) hb o u g1 .non
    | ret v => exact fun x F' as' H' u g1 r1 => fin_ok hb o u g1 r1
    | brk e => exact o.elim
    | cnt e => exact o.elim
    | ex x e =>
      intro dd fs σ F' as' H' u re g1 h1 h2
      unfold endF at o
      by_cases hc : okCut b (M1.take b) = true
      · simp only [hc, if_true] at o
        have gc := g1.cut hc
        rw [pre_take u.pre hb] at gc
        exact o dd fs F' as0 H' ⟨u.ex, List.prefix_refl _⟩ gc h1 h2
      · simp only [hc] at o
        exact o.elim
/-- def f(a, ..) -/
theorem fnG_plain (L : Law0 P w K mg base G Pg) (hP : Pg.fn f = some Fd) (lk : K.lookup (G.fa f) = some ⟨oc, od, .func (PySem.W.fnOf name qual params body scope dV kV doc pm an cdv ct), osl⟩) (hcd : PySem.W.codeIn K cdv qual = true) (S : FnScope N ps scope)
    (hb : ∀ us : List Value, us.length = ps.length → bindArgs (PySem.W.fnOf name qual params body scope dV kV doc pm an cdv ct) ⟨us, []⟩ = pure (ps.zip us)) (hst : Fd.star = false) (hnp : ps.length = Fd.np) (hN : N.length = ps.length + Fd.ns)
    (ih : ∀ j, j ≤ k → ∀ f, FnG P w K mg base j (G.fa f) (spF G Pg j f))
    (hbody : ∀ (A : Around) (outer : List PySem.Env) (s : Shared) (H : Hp) (E : XK), Ok (kxOf P w K mg base N qual scope (G.fa f) cdv A outer s H E G Pg k) → JSs (kxOf P w K mg base N qual scope (G.fa f) cdv A outer s H E G Pg k) body Fd.body) :
    FnG P w K mg base (k + 1) (G.fa f) (spF G Pg (k + 1) f) := by
  intro A outer s H us vs Q E hr hg e0 r hsp
  obtain ⟨Z, F, as, ds, M, rs, g, o⟩ := hsp
  unfold callN at o
  rw [hP] at o
  simp only at o
  unfold bindF at o
  rw [hst] at o
  simp only [Bool.false_eq_true, if_false] at o
  by_cases hl : ds.length = Fd.np
  · rw [if_pos hl] at o
    have hlv : vs.length = ps.length := by rw [rs.length, hl, hnp]
    refine StX.run_bnd lk hcd S hr e0 (G := fun xs H2 => xs = vs ∧ H2 = H) (fun A' Ex Q' h => ?_) fun s2 H2 xs ⟨ex, eH⟩ hr' => ?_
    · rw [hb us (by rw [← r.length, hlv])]
      exact wpAny_pure (h s H vs us e0 Un.refl rfl (fun _ _ z => z) r hlv ⟨rfl, rfl⟩)
    · subst ex eH
      exact body_ok Up.refl g.len rs g (by rw [hN, hlv]) (hbody A outer s2 H2 E (ok_of L S hr' hg ih)) o
  · rw [if_neg hl] at o
    exact o.elim
end
end TD
set_option Elab.async false
set_option linter.all false
set_option maxRecDepth 100000
set_option maxHeartbeats 4000000
/-! TD, part P: own + ; defs with a star parameter; the induction. -/
namespace TD
open PySem L2
section
open PySem.W PySem.Calls PyProof.Rows
variable {prog : Program} {w : World} {A : Around} {E : Value → Shared → Prop} {s : Shared} {K : Frag} {x C f : Addr} {ox : Obj} {od : Option Obj} {b tb : Value} {Q : Value → Shared → Prop} {rc : Option Value}
/-- x + b by x's __add__ -/
theorem own_add (X : K.In s.heap) (I : InstAt s.heap x ox C od) (Lb : Looks (model prog w) s.heap (typeOf b) tb) (hc : selfFirst K C = true) (hs : findIn K (.ref C) "__add__" = some (some (.ref f))) (hf : isFn K (.ref f) = true) (hr : findIn K (.ref C) "__radd__" = some rc) (hp : rc = none ∨ ∃ g : Addr, rc = some (.ref g))
    (hT : tb = .ref C ∨ ∃ T fo ro, tb = .type T ∧ findIn K (.type T) "__add__" = some fo ∧ findIn K (.type T) "__radd__" = some ro ∧ subIn K (.type T) (.ref C) = some false)
    (h : wpAny (model prog w) A (call (.ref f) [.ref x, b]) (PySem.W.CmpBack Q) E s) : wpAny (model prog w) A (binaryOp .Add (.ref x) b) Q E s := by
  obtain ⟨cd, rest, hcd, hm⟩ := ksp_first hc
  have one := ksp_try X I hs hf h
  obtain ⟨hh, g, d, tt, os⟩ := s
  have L1 : Looks (model prog w) hh (typeOf (.ref x)) (.ref C) := I.type
  have L2 : Looks (model prog w) hh (typeOf b) tb := Lb
  have L3 : Looks (model prog w) hh (fillsNumberSlot (.ref C) "add") true := fills_K X hcd hm hs
  have L6 : Looks (model prog w) hh (numberSlotInPython (.ref C) "add") true := ksp_inPy X hs hr hp
  simp only [binaryOp, show Operator.info .Add = ("+", "add") from rfl]
  refine wpAny_holding (wpAny_bind ?_)
  unfold binaryOp1
  refine wpAny_bind (L1.at (wpAny_bind (L2.at (wpAny_bind (L3.at ?_)))))
  rcases hT with rfl | ⟨T, fo, ro, rfl, h1, h2, hsub⟩
  · simp only [beq_self_eq_true, if_true]
    ksp_lk
    refine wpAny_mono one (fun r s' hr' => ?_) fun _ _ e => e
    obtain ⟨v, rfl, hq⟩ := hr'
    ksp_lk
    exact hq
  · have L4 : Looks (model prog w) hh (fillsNumberSlot (.type T) "add") ((fo.isSome && !isSeqSlot fo) || (ro.isSome && !isSeqSlot ro)) := ksp_fillsT X h1 h2
    have L5 : Looks (model prog w) hh (isSubtype (.type T) (.ref C)) false := looks_subIn X hsub
    have L7 : Looks (model prog w) hh (numberSlotInPython (.type T) "add") false := Looks.of_pure rfl
    have L8 : Looks (model prog w) hh (typeLookup (.type T) (dunderR "add")) ro := looks_findIn X h2
    generalize ((fo.isSome && !isSeqSlot fo) || (ro.isSome && !isSeqSlot ro)) = right at L4
    have hne : (Value.ref C == Value.type T) = false := Bool.eq_false_iff.mpr fun q => by cases beq_iff_eq.mp q
    simp only [hne, Bool.false_eq_true, if_false]
    cases right with
    | false =>
      ksp_lk
      refine wpAny_mono one (fun r s' hr' => ?_) fun _ _ e => e
      obtain ⟨v, rfl, hq⟩ := hr'
      ksp_lk
      exact hq
    | true =>
      ksp_lk
      refine wpAny_mono one (fun r s' hr' => ?_) fun _ _ e => e
      obtain ⟨v, rfl, hq⟩ := hr'
      ksp_lk
      exact hq
/-- a + x by x's __radd__, a a tuple -/
theorem own_radd {fo ro : Option Value} (X : K.In s.heap) (I : InstAt s.heap x ox C od) (La : Looks (model prog w) s.heap (typeOf b) (.type "tuple")) (hc : selfFirst K C = true) (hs0 : findIn K (.ref C) "__add__" = some (some (.ref f))) {f2 : Addr} (hs : findIn K (.ref C) "__radd__" = some (some (.ref f2))) (hf : isFn K (.ref f2) = true)
    (h1 : findIn K (.type "tuple") "__add__" = some fo) (h2 : findIn K (.type "tuple") "__radd__" = some ro) (hno : ((fo.isSome && !isSeqSlot fo) || (ro.isSome && !isSeqSlot ro)) = false)
    (h : wpAny (model prog w) A (call (.ref f2) [.ref x, b]) (PySem.W.CmpBack Q) E s) : wpAny (model prog w) A (binaryOp .Add b (.ref x)) Q E s := by
  obtain ⟨cd, rest, hcd, hm⟩ := ksp_first hc
  have one := ksp_try X I hs hf h
  obtain ⟨hh, g, d, tt, os⟩ := s
  have L1 : Looks (model prog w) hh (typeOf (.ref x)) (.ref C) := I.type
  have L2 : Looks (model prog w) hh (typeOf b) (.type "tuple") := La
  have L3 : Looks (model prog w) hh (fillsNumberSlot (.ref C) "add") true := fills_K X hcd hm hs0
  have L4 : Looks (model prog w) hh (fillsNumberSlot (.type "tuple") "add") ((fo.isSome && !isSeqSlot fo) || (ro.isSome && !isSeqSlot ro)) := ksp_fillsT X h1 h2
  rw [hno] at L4
  have hne : (Value.type "tuple" == Value.ref C) = false := Bool.eq_false_iff.mpr fun q => by cases beq_iff_eq.mp q
  simp only [binaryOp, show Operator.info .Add = ("+", "add") from rfl]
  refine wpAny_holding (wpAny_bind ?_)
  unfold binaryOp1
  refine wpAny_bind (L2.at (wpAny_bind (L1.at (wpAny_bind (L4.at ?_)))))
  simp only [hne, Bool.false_eq_true, if_false]
  ksp_lk
  refine wpAny_mono one (fun r s' hr' => ?_) fun _ _ e => e
  obtain ⟨v, rfl, hq⟩ := hr'
  ksp_lk
  exact hq
end
/-- what is known of the classes with an own + -/
structure OkB (κ : Kx) : Prop where
  add : ∀ c f, κ.P.T.met c "__add__" = some f → PySem.W.selfFirst κ.X.K (κ.G.cl c) = true ∧ (∃ rc, PySem.W.findIn κ.X.K (.ref (κ.G.cl c)) "__radd__" = some rc ∧ (rc = none ∨ ∃ g : Addr, rc = some (.ref g))) ∧
    ∀ d, (∀ c fs, d ≠ .obj c fs) → ∃ T fo ro, tyD κ.G d = .type T ∧ PySem.W.findIn κ.X.K (.type T) "__add__" = some fo ∧ PySem.W.findIn κ.X.K (.type T) "__radd__" = some ro ∧ PySem.W.subIn κ.X.K (.type T) (.ref (κ.G.cl c)) = some false
  radd : ∀ c f, κ.P.T.met c "__radd__" = some f → PySem.W.selfFirst κ.X.K (κ.G.cl c) = true ∧ (∃ g : Addr, PySem.W.findIn κ.X.K (.ref (κ.G.cl c)) "__add__" = some (some (.ref g))) ∧
    ∃ fo ro, PySem.W.findIn κ.X.K (.type "tuple") "__add__" = some fo ∧ PySem.W.findIn κ.X.K (.type "tuple") "__radd__" = some ro ∧ ((fo.isSome && !isSeqSlot fo) || (ro.isSome && !isSeqSlot ro)) = false
theorem cmpBack_of {X : Cx} {pins : List (Addr × Obj)} {σ : L2.St} {Q : VK} {u : Value} {s : Shared} (h : EP X pins σ Q u s) : PySem.W.CmpBack (EP X pins σ Q) u s := by
  have h' := h
  obtain ⟨v, H, I, r, q⟩ := h
  unfold PySem.W.CmpBack
  split
  · cases v <;> first | (obtain ⟨_, r⟩ := r; cases r) | cases r
  · exact h'
section
variable {κ : Kx} {a b : Expr} {ca cb : CE} {pos : Pos}
theorem met_ok2 {m : Str} {Z F H1 : Hp} {as : List Addr} {M : Mem} {y : V} {v : Vl} {g : Nat} (h : Ok κ) (gd : Good κ.G Z F as M H1) (r : RepL κ.G F as y v) (e : metOf κ.P.T m v M = some g) :
    ∃ c a dx fs, y = .ref a ∧ H1 a = some (.ins (κ.G.cl c) dx fs) ∧ κ.P.T.met c m = some g ∧ Cls κ.X.K (κ.G.cl c) ∧ Meth κ.X.K (κ.G.cl c) m (κ.G.fa g) ∧ ∀ d, shape v M = some d → ∃ fs, d = .obj c fs := by
  unfold metOf at e
  split at e
  · rename_i c hl
    obtain ⟨a, dx, fs, rfl, h1, h2, _⟩ := look_ok gd r hl
    refine ⟨c, a, dx, fs, rfl, h1, e, (h.met c m g e).1, (h.met c m g e).2, fun d hd => ?_⟩
    unfold look at hl
    unfold shape at hd
    simp only [noX] at hd
    cases v with
    | d z =>
      cases z with
      | obj k f9 => obtain ⟨rfl, _⟩ := Prod.mk.inj (Option.some.inj hl); cases hd; exact ⟨_, rfl⟩
      | _ => cases hl
    | loc n =>
      simp only at hl hd
      cases q : M[n]? with
      | none => rw [q] at hl; cases hl
      | some mo =>
        rw [q] at hl hd
        cases mo with
        | ins k f9 => obtain ⟨rfl, _⟩ := Prod.mk.inj (Option.some.inj hl); cases hd; exact ⟨_, rfl⟩
        | frz z =>
          cases z with
          | obj k f9 => obtain ⟨rfl, _⟩ := Prod.mk.inj (Option.some.inj hl); cases hd; exact ⟨_, rfl⟩
          | _ => cases hl
        | _ => cases hl
  · cases e
/-- a + b, one of them an object with an own + -/
theorem je_obin (h : Ok κ) (hi : OkI κ) (hB : OkB κ) (ha : JE κ a ca) (hb : JE κ b cb) : JE κ (.BinOp a .Add b pos) (.obin ca cb) := by
  refine ⟨fun pins s σ H Q I t => ?_⟩
  refine wpAny_BinOp (bin ha hb I (R := fun x y H2 => ∃ Z F as va vb M, Good κ.G Z F as M H2 ∧ RepL κ.G F as x va ∧ RepL κ.G F as y vb ∧ Out κ.G Z F as (RepL κ.G) Q (fun c d H' => κ.W c d σ H') (obinV κ.P.T κ.cl va vb M)) (tM_bind (R := RepL κ.G) (S := RepL κ.G) (k := fun x e => EM.bind (runE κ.P.T κ.P.rp κ.cl cb e) fun y => obinV κ.P.T κ.cl x y) t fun x Z F as e M H1 va re g ra o => ⟨Z, F, as, e, M, re, g, o.bind fun y F2 as2 H2 vb M2 _ u2 g2 rb o2 => ⟨Z, F2, as2, va, vb, M2, g2, ra.mono u2, rb, o2⟩⟩) fun v u s2 x y H2 I2 rx ry q => ?_)
  obtain ⟨Z, F, as, va, vb, M, g, ra, rb, o⟩ := q
  unfold obinV at o
  cases q1 : metOf κ.P.T "__add__" va M with
  | some f =>
    rw [q1] at o
    simp only at o
    obtain ⟨c, p, dx, fs, rfl, hp, hm, hcl, hme, hsh⟩ := met_ok2 h g ra q1
    obtain ⟨b1, ⟨rc, b2, b3⟩, b4⟩ := hB.add c f hm
    obtain rfl : v = Value.ref p := rx
    obtain ⟨mA, O, _⟩ := ins_get I2.hok hp
    obtain ⟨od, J, _⟩ := O.look
    have go : (κ.P.T.isb c c = true) → (∀ d, shape vb M = some d → (∃ fs, d = .obj c fs) ∨ ∀ c fs, d ≠ .obj c fs) → (∃ d, shape vb M = some d) → Out κ.G Z F as (RepL κ.G) Q (fun c d H' => κ.W c d σ H') (callN κ.P κ.n (.fn f) [va, vb] M) → wpAny (model κ.X.prog κ.X.w) κ.X.A (binaryOp .Add (.ref p) u) (EP κ.X pins σ Q) κ.X.xe s2 := by
      intro hcc hall ⟨d, hd⟩ o
      have ht : TyX κ.X.K H2 y (tyD κ.G d) := shape_ok h.toOk1.toOk0 hi g rb hd fun c' fs' e => by
        rcases hall d hd with ⟨fs2, e2⟩ | hno
        · rw [e2] at e
          cases e
          exact hcc
        · exact (hno c' fs' e).elim
      obtain ⟨Pp, kx, hP, _⟩ := kit_of I2 ry ht
      refine own_add (tb := tyD κ.G d) I2.kIn J (kx.ty _ _ I2.kIn hP) b1 hme.at_ hme.fn b2 b3 ?_ (thn (run_at h (Nat.le_refl _) I2 (us := [.ref p, u]) (vs := [.ref p, y]) (.cons rfl (.cons ry .nil)) ⟨Z, F, as, [va, vb], M, .cons ra (.cons rb .nil), g, o⟩) fun w s3 hw => cmpBack_of hw)
      rcases hall d hd with ⟨fs2, e2⟩ | hno
      · exact .inl (by rw [e2]; rfl)
      · exact .inr (b4 d hno)
    cases q2 : shape vb M with
    | none => simp only [q2] at o; exact o.elim
    | some d =>
      rw [q2] at o
      cases q3 : shape va M with
      | none => rw [q3] at o; cases d <;> exact o.elim
      | some d3 =>
        obtain ⟨fs3, rfl⟩ := hsh d3 q3
        rw [q3] at o
        cases d with
        | obj c2 fs2 =>
          simp only at o
          split at o
          · rename_i hc
            obtain ⟨hc1, hc2⟩ := Bool.and_eq_true_iff.mp hc
            have hc1 := of_decide_eq_true hc1
            subst hc1
            exact go hc2 (fun d hd => by rw [q2] at hd; cases hd; exact .inl ⟨_, rfl⟩) ⟨_, q2⟩ o
          · exact o.elim
        | _ =>
          simp only at o
          split at o
          · rename_i hc
            exact go hc (fun d hd => by rw [q2] at hd; cases hd; exact .inr fun _ _ e => by cases e) ⟨_, q2⟩ o
          · exact o.elim
  | none =>
    rw [q1] at o
    simp only at o
    cases q2 : metOf κ.P.T "__radd__" vb M with
    | none => rw [q2] at o; exact o.elim
    | some f =>
      rw [q2] at o
      cases va with
      | loc n => exact o.elim
      | d da =>
        cases da with
        | tup xs =>
          simp only at o
          obtain ⟨c, p, dx, fs, rfl, hp, hm, hcl, hme, _⟩ := met_ok2 h g rb q2
          obtain ⟨b1, ⟨g0, b2⟩, fo, ro, b3, b4, b5⟩ := hB.radd c f hm
          obtain rfl : u = Value.ref p := ry
          obtain ⟨mA, O, _⟩ := ins_get I2.hok hp
          obtain ⟨od, J, _⟩ := O.look
          have ht : TyX κ.X.K H2 x (tyD κ.G (.tup xs)) := ShW.ty h.k g.sub (Sh.of g.sub ra).wide (fun _ _ e => by cases e) (fun _ _ e => by cases e)
          obtain ⟨Pp, kx, hP, _⟩ := kit_of I2 rx ht
          exact own_radd I2.kIn J (kx.ty _ _ I2.kIn hP) b1 b2 hme.at_ hme.fn b3 b4 b5 (thn (run_at h (Nat.le_refl _) I2 (us := [.ref p, v]) (vs := [.ref p, x]) (.cons rfl (.cons rx .nil)) ⟨Z, F, as, [vb, .d (.tup xs)], M, .cons rb (.cons ra .nil), g, o⟩) fun w s3 hw => cmpBack_of hw)
        | _ => exact o.elim
end
/-! ### star parameters -/
theorem RepLs.take {G : GG} {F : Hp} {as : List Addr} : ∀ {vs : List V} {ds : List Vl} (n : Nat), RepLs G F as vs ds → RepLs G F as (vs.take n) (ds.take n)
  | _, _, 0, _ => by simp; exact .nil
  | _, _, _ + 1, .nil => .nil
  | _, _, n + 1, .cons h r => .cons h (RepLs.take n r)
theorem RepLs.drop {G : GG} {F : Hp} {as : List Addr} : ∀ {vs : List V} {ds : List Vl} (n : Nat), RepLs G F as vs ds → RepLs G F as (vs.drop n) (ds.drop n)
  | _, _, 0, r => r
  | _, _, _ + 1, .nil => .nil
  | _, _, n + 1, .cons _ r => RepLs.drop n r
section
variable {P : Program} {w : World} {K : PySem.W.Frag} {mg : Str → Option Value} {base : Heap} {G : GG} {Pg : Prg} {k f : Nat} {name qual pv : Str} {params : Arguments} {body : List Stmt} {scope : Scope} {dV kV doc pm cdv ct oc : Value} {an od : Option Addr} {osl : Array (Option Value)} {N ps : List Str} {Fd : Fn}
/-- def f(a, .., *v) -/
theorem fnG_star (L : Law0 P w K mg base G Pg) (hP : Pg.fn f = some Fd) (lk : K.lookup (G.fa f) = some ⟨oc, od, .func (PySem.W.fnOf name qual params body scope dV kV doc pm an cdv ct), osl⟩) (hcd : PySem.W.codeIn K cdv qual = true) (S : FnScope N (ps ++ [pv]) scope)
    (hb : ∀ us rest : List Value, us.length = ps.length → bindArgs (PySem.W.fnOf name qual params body scope dV kV doc pm an cdv ct) ⟨us ++ rest, []⟩ = (newTuple rest >>= fun t => pure (ps.zip us ++ [(pv, t)]))) (hst : Fd.star = true) (hnp : ps.length = Fd.np) (hN : N.length = ps.length + 1 + Fd.ns)
    (ih : ∀ j, j ≤ k → ∀ f, FnG P w K mg base j (G.fa f) (spF G Pg j f))
    (hbody : ∀ (A : Around) (outer : List PySem.Env) (s : Shared) (H : Hp) (E : XK), Ok (kxOf P w K mg base N qual scope (G.fa f) cdv A outer s H E G Pg k) → JSs (kxOf P w K mg base N qual scope (G.fa f) cdv A outer s H E G Pg k) body Fd.body) :
    FnG P w K mg base (k + 1) (G.fa f) (spF G Pg (k + 1) f) := by
  intro A outer s H us vs Q E hr hg e0 r hsp
  obtain ⟨Z, F, as, ds, M, rs, g, o⟩ := hsp
  unfold callN at o
  rw [hP] at o
  simp only at o
  unfold bindF at o
  rw [hst] at o
  simp only [if_true] at o
  by_cases hl : Fd.np ≤ ds.length
  · rw [if_pos hl] at o
    unfold EM.bind at o
    cases q : toDs (ds.drop Fd.np) M with
    | none => rw [q] at o; exact o.elim
    | some p =>
      obtain ⟨p, M0⟩ := p
      rw [q] at o
      cases p with
      | ex x => exact o.elim
      | ok es =>
        simp only at o
        by_cases hz : szOk es.length = true
        · rw [if_pos hz] at o
          have o : Out G Z F as (RepL G) Q E (endF M.length Fd.mode (runSs Pg.T Pg.rp Pg.XT (callN Pg k) Fd.body ⟨(ds.take Fd.np ++ [Vl.d (.tup es)]).map some ++ List.replicate Fd.ns none, none⟩ M0)) := o
          have hlv : (vs.take Fd.np).length = ps.length := by rw [List.length_take, rs.length, hnp]; omega
          obtain ⟨F1, g1, u1, r1⟩ := toDs_ok g (rs.drop Fd.np) q
          have rv : Vals (vs.take Fd.np ++ vs.drop Fd.np) us := by rw [List.take_append_drop]; exact r
          obtain ⟨us1, us2, eu, rv1, rv2⟩ := StX.vals_split rv
          subst eu
          have hn : H s.heap.objs.size = none := e0.hok.fresh (Nat.le_refl _)
          have hl1 : us1.length = ps.length := by rw [← rv1.length]; exact hlv
          have hzs : (vs.drop Fd.np).length ≤ sizeLine := by rw [r1.length]; exact szOk_le hz
          have hl2 : us2.length ≤ sizeLine := by rw [← rv2.length]; exact hzs
          refine StX.run_bnd lk hcd S hr e0 (G := fun xs H2 => ∃ p, H p = none ∧ xs = vs.take Fd.np ++ [V.ref p] ∧ H2 = upd H p (.tup (vs.drop Fd.np))) (fun A' Ex Q' hq => ?_) fun s2 H2 xs ⟨p, hp, ex, eH⟩ hr' => ?_
          · rw [hb us1 us2 hl1]
            refine wpAny_bind (wpAny_newTuple (wpAny_pure ?_) hl2)
            have new : ObjOk P w (upd H s.heap.objs.size (.tup (vs.drop Fd.np))) (s.heap.push ({ cls := .type "tuple", data := .seq us2.toArray } : Obj)) s.heap.objs.size (.tup (vs.drop Fd.np)) := ⟨hzs, us2, rv2, ⟨_, Heap.get?_push_size _ rfl, rfl, _, rfl⟩⟩
            have un := StX.un_laid (fs := frs outer) (s := s) (o := ({ cls := .type "tuple", data := .seq us2.toArray } : Obj)) (u := .tup (vs.drop Fd.np)) hn
            have zz := hq _ _ (vs.take Fd.np ++ [V.ref s.heap.objs.size]) (us1 ++ [Value.ref s.heap.objs.size]) (StX.env0_laid e0 new) un rfl (fun e s' => StX.cxUp outer s H _ _ E e s' un (fun b o q => Heap.get?_push_of_some _ q) rfl) (rv1.append (.cons rfl .nil))
              (by rw [List.length_append, List.length_append, hlv] <;> rfl) ⟨_, hn, rfl, rfl⟩
            rw [List.zip_append hl1.symm] at zz
            exact zz
          · subst ex eH
            obtain ⟨g2, u2⟩ := g1.lay (o := .tup (vs.drop Fd.np)) hp
            have rw1 : RepLs G (upd F1 p (.tup (vs.drop Fd.np))) as (vs.take Fd.np ++ [V.ref p]) (ds.take Fd.np ++ [.d (.tup es)]) := ((rs.take Fd.np).mono (u1.trans u2)).append (.cons (Rep.tup (.inl (.inl upd_same)) (r1.mono u2.ex)) .nil)
            exact body_ok (u1.trans u2) g.len rw1 g2 (by rw [hN, List.length_append, hlv]; rfl) (hbody A outer s2 _ E (ok_of L S hr' hg ih)) o
        · rw [if_neg hz] at o
          exact o.elim
  · rw [if_neg hl] at o
    exact o.elim
/-- all defs, at every depth -/
theorem fnG_all (step : ∀ k, (∀ j, j ≤ k → ∀ f, FnG P w K mg base j (G.fa f) (spF G Pg j f)) → ∀ f, Pg.fn f ≠ none → FnG P w K mg base (k + 1) (G.fa f) (spF G Pg (k + 1) f)) : ∀ n f, FnG P w K mg base n (G.fa f) (spF G Pg n f) := by
  intro n
  induction n using Nat.strongRecOn with
  | _ n ih =>
    intro f
    cases n with
    | zero =>
      intro A outer s H us vs Q E hr hg e0 r hsp
      obtain ⟨Z, F, as, ds, M, rs, g, o⟩ := hsp
      exact o.elim
    | succ k =>
      cases q : Pg.fn f with
      | none =>
        intro A outer s H us vs Q E hr hg e0 r hsp
        obtain ⟨Z, F, as, ds, M, rs, g, o⟩ := hsp
        unfold callN at o
        rw [q] at o
        exact o.elim
      | some Fd => exact step k (fun j hj f => ih j (Nat.lt_succ_of_le hj) f) f (by rw [q]; exact fun z => by cases z)
end
end TD
set_option Elab.async false
set_option linter.all false
set_option maxRecDepth 100000
set_option maxHeartbeats 4000000
/-! TD, part Q: the law's end; constants of the module. -/
namespace TD
open PySem PySem.Spec L2
theorem reps_ints {G : GG} {F : Hp} : ∀ (ns : List Int), Reps G F (ns.map V.int) (ns.map D.int)
  | [] => .nil
  | n :: ns => .cons (.int n) (reps_ints ns)
theorem noL_of {K : PySem.W.Frag} (h : (K.all fun p => !(p.2.cls == .type "list")) = true) {a : Addr} {o : Obj} (e : K.lookup a = some o) : o.cls ≠ .type "list" := by
  have : ∀ {K : PySem.W.Frag}, (K.all fun p => !(p.2.cls == .type "list")) = true → K.lookup a = some o → o.cls ≠ .type "list" := by
    intro K
    induction K with
    | nil => intro _ e; simp at e
    | cons p K ih =>
      intro h e
      rw [List.all_cons] at h
      obtain ⟨h1, h2⟩ := Bool.and_eq_true_iff.mp h
      obtain ⟨k, v⟩ := p
      rw [List.lookup_cons] at e
      cases q : (a == k) with
      | true =>
        rw [q] at e
        cases e
        intro z
        simp [z] at h1
      | false =>
        rw [q] at e
        exact ih h2 e
  exact this h e
/-- the law's def, called with the script at the heap behind the top -/
theorem law_go {P : Program} {w : World} {K : PySem.W.Frag} {mg mb : Str → Option Value} {n f : Nat} {G : GG} {Pg : Prg} {a : Addr} {st : Shared} {us : List Value} {ns : List Int} {Me : Mem}
    (X : K.In st.heap) (hG : st.heap.Ns mainGlobals mg) (hB : st.heap.Ns builtinsNs mb) (hbb : ∀ x : Str, x ≠ "__name__" → mb x = bootBuiltins x) (lim : st.heap.NoLimit) (gn : st.gens = #[])
    (hs : st.heap.get? a = some { cls := .type "list", data := .seq us.toArray }) (hi : PyProof.Rows.IntsAre us ns) (hl : ns.length ≤ sizeLine) (hr : Room n callerA) (noL : (K.all fun p => !(p.2.cls == .type "list")) = true)
    (Fn : ∀ base : Heap, K.In base → base.Ns mainGlobals mg → FnG P w K mg base n (G.fa f) (spF G Pg n f))
    (run : callN Pg n (.fn f) [.loc 0] [.scr (ns.map D.int)] = some (.ok (.d (.bl true)), Me)) :
    codeAny (model P w) callerA (.call (.ref (G.fa f)) ⟨[.ref a], []⟩) (fun r s2 => r = .ok (.ret (.bool true)) ∧ OldK st.heap s2.heap ∧ s2.os = st.os ∧ PyProof.Rows.AllBare s2.gens) st := by
  have ka : K.lookup a = none := by
    cases e : K.lookup a with
    | none => rfl
    | some o =>
      have := X a o e
      rw [hs] at this
      cases this
      exact (noL_of noL e rfl).elim
  have vr := vals_ints hi
  let H : Hp := fun b => if b = a then some (.frz { cls := .type "list", data := .seq us.toArray } (.lst (ns.map V.int))) else none
  have Ha : H a = some (.frz { cls := .type "list", data := .seq us.toArray } (.lst (ns.map V.int))) := if_pos rfl
  have Hn : ∀ b, b ≠ a → H b = none := fun b hb => if_neg hb
  have hok : HOk P w H st.heap := fun b u z => by
    by_cases hb : b = a
    · subst hb
      rw [Ha] at z
      cases z
      exact ⟨hs, by rw [List.length_map]; exact hl, us, _, vr, hs⟩
    · rw [Hn b hb] at z
      cases z
  have keep : ∀ {b : Addr} {o : Obj}, st.heap.get? b = some o → b ≠ a → (hidT st.heap H).get? b = some o := fun e hb => hidT_get e (Hn _ hb)
  have nsK : ∀ {b : Addr} {m : Str → Option Value}, st.heap.Ns b m → (hidT st.heap H).Ns b m := fun {b m} ⟨o, es, ep, e, d, r⟩ => ⟨o, es, ep, keep e (fun z => by
    subst z
    rw [hs] at e
    cases e
    cases d), d, r⟩
  have XK : K.In (hidT st.heap H) := fun b o e => keep (X b o e) fun z => by
    rw [z, ka] at e
    cases e
  have md : Mod K mg (hidT st.heap H) := ⟨XK, nsK hG, ⟨mb, nsK hB, hbb⟩, let ⟨mc, h1, h2⟩ := lim; ⟨mc, nsK h1, h2⟩⟩
  have e0 : Env0 P w K mg (hidT st.heap H) callerA [] st H := ⟨rfl, md, fun b o e => of_hidT e, Nat.le_of_eq (hidT_size _ _), trivial, fun b hb => absurd (show b ∈ ([] : List Addr) from hb) (by simp), hok, .of_eq gn⟩
  have gd : Good G (fun _ => none) (fun _ => none) [a] [.scr (ns.map D.int)] H := by
    refine ⟨fun b o z => (by cases z), rfl, by simp, fun i b mo e1 e2 => ?_, fun b o z => (by cases z), fun b o z => (by cases z), fun b o z => (by cases z)⟩
    cases i with
    | zero =>
      simp at e1 e2
      subst e1
      subst e2
      exact ⟨rfl, _, _, Ha, reps_ints ns⟩
    | succ i => simp at e1
  have sp : spF G Pg n f [.ref a] H (fun v _ => v = .bl true) (fun _ _ _ => False) := by
    refine ⟨_, _, [a], [.loc 0], _, .cons ⟨a, rfl, rfl⟩ .nil, gd, ?_⟩
    rw [run]
    exact fun v F' as' H' u g r => Rep.blE r
  refine codeAny_mono (Fn _ XK (nsK hG) callerA [] st H [.ref a] [.ref a] _ _ hr rfl e0 (.cons rfl .nil) sp) fun r s2 z => ?_
  cases r with
  | error e =>
    obtain ⟨_, _, _, _, _, _, _, _, _, _, _, _, z⟩ := z
    exact z.elim
  | ok fl =>
    cases fl with
    | next => exact False.elim z
    | brk => exact False.elim z
    | cont => exact False.elim z
    | ret u =>
      obtain ⟨v, H2, os, bare, un, hok2, rv, q⟩ := z
      have q : v = .bl true := q
      subst q
      obtain rfl : u = Value.bool true := rv
      refine ⟨rfl, OldK.of_keep fun b o e => ?_, os, bare⟩
      by_cases hb : b = a
      · have z2 := un.frzs b _ _ (by rw [hb]; exact Ha)
        obtain ⟨e2, _⟩ := hok2 b _ z2
        rw [hb, hs] at e
        cases e
        exact e2
      · exact un.keep b o e (Hn b hb) (by intro z; exact absurd (show b ∈ ([] : List Addr) from z) (by simp)) (by simp)
/-- the goal that k_head leaves -/
theorem law_end {l : PySem.W.OpenLaw} {m n f : Nat} {q : Program} {loose : List Str} {XP : (Str → Option Value) → Heap → Prop} {YP : World → Heap → Prop} {d : DefRec} {K : Params → PySem.W.Frag} {Pg : Prg}
    (hm : l.most = some m) (hm2 : m ≤ sizeLine) (hdf : d.params.defaults = []) (hr : Room n callerA) (hY : ∀ (w : World) (h : Heap), YP w h → (K w.params).In h)
    (noL : ∀ w : World, ((K w.params).all fun p => !(p.2.cls == .type "list")) = true)
    (Fn : ∀ (w : World) (mg : Str → Option Value) (fa : Addr) (h : Heap), (K w.params).In h → h.Ns mainGlobals mg → mg d.name = some (.ref fa) → ∃ G : GG, G.fa f = fa ∧ ∀ base : Heap, (K w.params).In base → base.Ns mainGlobals mg → FnG l.prog w (K w.params) mg base n (G.fa f) (spF G Pg n f))
    (run : ∀ ns : List Int, ns.length ≤ m → ∃ Me, callN Pg n (.fn f) [.loc 0] [.scr (ns.map D.int)] = some (.ok (.d (.bl true)), Me)) :
    PySem.W.WalkO q loose XP YP l.row.toRowW d [] (fun f vs => PySem.call f vs) := by
  refine Att.attach_call hm hdf fun w s0 s1 mg mb fa o pm cd doc a vs ns G Y ho hd hcd hmg hobj hints hlen hg => ?_
  have KX := hY w _ Y
  obtain ⟨GG, rfl, hF⟩ := Fn w mg fa _ KX G.T.g hmg
  obtain ⟨Me, hrun⟩ := run ns hlen
  exact law_go KX G.T.g G.T.b G.T.builtins G.T.nolimit hg hobj hints (Nat.le_trans hlen hm2) hr (noL w) hF hrun
end TD
set_option Elab.async false
set_option linter.all false
set_option maxRecDepth 100000
set_option maxHeartbeats 8000000
/-! the law's defs as code; each def's body does what its code computes (printed by gen.py) -/
namespace LW
open PySem L2 TD
def top (i : Nat) : Stmt := PySem.Challenge.pw_takendown_k01_error_classes.main.body.getD i (.Pass ⟨0, 0, 0, 0⟩)
def tab_DownError : List (Nat × Bool) := [(14, true), (7, true), (12, true), (5, true), (10, true), (2, false), (9, true), (1, true), (8, true), (13, true), (11, false), (6, true), (15, false), (16, false), (3, false)]
def tab_Exception : List (Nat × Bool) := [(14, true), (7, true), (12, true), (5, true), (10, true), (2, true), (9, true), (1, true), (8, true), (13, true), (11, true), (6, true), (15, true), (16, true), (3, true)]
def tab_InvalidCommand : List (Nat × Bool) := [(14, true), (7, false), (12, false), (5, false), (10, false), (2, false), (9, false), (1, false), (8, false), (13, false), (11, false), (6, false), (15, false), (16, false), (3, false)]
def tab_InvalidDevice : List (Nat × Bool) := [(14, false), (7, true), (12, false), (5, false), (10, false), (2, false), (9, false), (1, false), (8, false), (13, false), (11, false), (6, false), (15, false), (16, false), (3, false)]
def tab_InvalidEdit : List (Nat × Bool) := [(14, false), (7, false), (12, true), (5, false), (10, false), (2, false), (9, false), (1, false), (8, false), (13, false), (11, false), (6, false), (15, false), (16, false), (3, false)]
def tab_InvalidItem : List (Nat × Bool) := [(14, false), (7, false), (12, false), (5, true), (10, false), (2, false), (9, false), (1, false), (8, false), (13, false), (11, false), (6, false), (15, false), (16, false), (3, false)]
def tab_InvalidMove : List (Nat × Bool) := [(14, false), (7, false), (12, false), (5, false), (10, true), (2, false), (9, false), (1, false), (8, false), (13, false), (11, false), (6, false), (15, false), (16, false), (3, false)]
def tab_InvalidNumber : List (Nat × Bool) := [(14, false), (7, false), (12, false), (5, false), (10, false), (2, true), (9, false), (1, false), (8, false), (13, false), (11, false), (6, false), (15, false), (16, false), (3, false)]
def tab_InvalidState : List (Nat × Bool) := [(14, false), (7, false), (12, false), (5, false), (10, false), (2, false), (9, true), (1, false), (8, false), (13, false), (11, false), (6, false), (15, false), (16, false), (3, false)]
def tab_InvalidStep : List (Nat × Bool) := [(14, false), (7, false), (12, false), (5, false), (10, false), (2, false), (9, false), (1, true), (8, false), (13, false), (11, false), (6, false), (15, false), (16, false), (3, false)]
def tab_InvalidStock : List (Nat × Bool) := [(14, false), (7, false), (12, false), (5, false), (10, false), (2, false), (9, false), (1, false), (8, true), (13, false), (11, false), (6, false), (15, false), (16, false), (3, false)]
def tab_InvalidText : List (Nat × Bool) := [(14, false), (7, false), (12, false), (5, false), (10, false), (2, false), (9, false), (1, false), (8, false), (13, true), (11, false), (6, false), (15, false), (16, false), (3, false)]
def tab_KeyError : List (Nat × Bool) := [(14, false), (7, false), (12, false), (5, false), (10, false), (2, false), (9, false), (1, false), (8, false), (13, false), (11, false), (6, false), (15, false), (16, false), (3, false)]
def tab_LimitExceeded : List (Nat × Bool) := [(14, false), (7, false), (12, false), (5, false), (10, false), (2, false), (9, false), (1, false), (8, false), (13, false), (11, true), (6, false), (15, false), (16, false), (3, false)]
def tab_LookupError : List (Nat × Bool) := [(14, false), (7, false), (12, false), (5, false), (10, false), (2, false), (9, false), (1, false), (8, false), (13, false), (11, false), (6, false), (15, false), (16, false), (3, true)]
def tab_NotACrowd : List (Nat × Bool) := [(14, false), (7, false), (12, false), (5, false), (10, false), (2, false), (9, false), (1, false), (8, false), (13, false), (11, false), (6, true), (15, false), (16, false), (3, false)]
def tab_NotRight : List (Nat × Bool) := [(14, false), (7, false), (12, false), (5, false), (10, false), (2, false), (9, false), (1, false), (8, false), (13, false), (11, false), (6, false), (15, true), (16, false), (3, false)]
def tab_NothingToUndo : List (Nat × Bool) := [(14, false), (7, false), (12, false), (5, false), (10, false), (2, false), (9, false), (1, false), (8, false), (13, false), (11, false), (6, false), (15, false), (16, true), (3, false)]
def tab_OverflowError : List (Nat × Bool) := [(14, false), (7, false), (12, false), (5, false), (10, false), (2, false), (9, false), (1, false), (8, false), (13, false), (11, true), (6, false), (15, false), (16, false), (3, false)]
def tab_RuntimeError : List (Nat × Bool) := [(14, false), (7, false), (12, false), (5, false), (10, false), (2, false), (9, false), (1, false), (8, false), (13, false), (11, false), (6, false), (15, true), (16, true), (3, false)]
def tab_UnknownName : List (Nat × Bool) := [(14, false), (7, false), (12, false), (5, false), (10, false), (2, false), (9, false), (1, false), (8, false), (13, false), (11, false), (6, false), (15, false), (16, false), (3, true)]
def tab_ValueError : List (Nat × Bool) := [(14, false), (7, false), (12, false), (5, false), (10, false), (2, true), (9, false), (1, false), (8, false), (13, false), (11, false), (6, false), (15, false), (16, false), (3, false)]
abbrev s__law_numbers : Stmt := top 18
def N__law_numbers : List Str := ["_law_cell", "_law_salt", "_law_sizes", "_law_whole", "_law_left", "_law_result", "_law_k", "_law_one"]
def l__law_numbers_1 : CSs := (.cons (.ife (.and (.tst (.cmp .GtE (.var 3) (.bin .Pow (.con (.int 10)) (.con (.int 18))))) (.tst (.cmp .Gt (.var 4) (.con (.int 0))))) (.cons (.mut .append (.var 5) (.cons (.bin .Mod (.var 4) (.ix (.var 2) (.var 6))) .nil)) (.cons (.set (.name 4) (.bin .FloorDiv (.var 4) (.ix (.var 2) (.var 6)))) .nil)) (.cons (.set (.name 7) (.bin .Mod (.bin .Pow (.bin .Add (.bin .Add (.bin .Mod (.var 3) (.con (.int 2147483629))) (.bin .Mult (.con (.int 7919)) (.var 1))) (.con (.int 1))) (.con (.int 3))) (.con (.int 2147483647)))) (.cons (.set (.name 7) (.bin .Mod (.bin .Mult (.bin .Add (.var 7) (.bin .Mult (.con (.int 104729)) (.bin .Add (.var 6) (.con (.int 1))))) (.bin .Add (.var 6) (.con (.int 3)))) (.con (.int 2147483629)))) (.cons (.set (.name 7) (.bin .Mod (.bin .Mult (.bin .Mod (.bin .Pow (.var 7) (.con (.int 5))) (.con (.int 2147483647))) (.con (.int 48271))) (.con (.int 2147483629)))) (.cons (.mut .append (.var 5) (.cons (.bin .Mod (.bin .FloorDiv (.var 7) (.con (.int 16))) (.ix (.var 2) (.var 6))) .nil)) .nil))))) .nil)
def c__law_numbers : CSs := (.cons (.set (.name 3) (.blt .max2 (.cons (.var 0) (.cons (.bin .Sub (.neg (.con (.int 1))) (.var 0)) .nil)))) (.cons (.set (.name 4) (.var 3)) (.cons (.set (.name 5) (.new .nil)) (.cons (.fors (.name 6) (.rng (.blt .len (.cons (.var 2) .nil))) l__law_numbers_1) (.cons (.ret (.var 5)) .nil)))))
abbrev s__law_made : Stmt := top 19
def N__law_made : List Str := ["_law_one", "_law_two", "_law_some"]
def c__law_made : CSs := (.cons (.set (.name 2) (.lst (.cons (.mkx 5 ["place"] false (.cons (.var 0) .nil)) (.cons (.mkx 6 ["name", "place"] false (.cons (.var 0) (.cons (.var 1) .nil))) (.cons (.mkx 7 ["part", "name"] false (.cons (.var 0) (.cons (.var 1) .nil))) (.cons (.mkx 1 ["index"] false (.cons (.var 0) .nil)) (.cons (.mkx 9 ["value"] false (.cons (.var 0) .nil)) .nil))))))) (.cons (.set (.name 2) (.bin .Add (.var 2) (.lst (.cons (.mkx 10 ["move"] false (.cons (.var 0) .nil)) (.cons (.mkx 8 ["value"] false (.cons (.var 0) .nil)) (.cons (.mkx 12 ["edit"] false (.cons (.var 0) .nil)) (.cons (.mkx 13 ["line"] false (.cons (.var 0) .nil)) (.cons (.mkx 14 ["word"] false (.cons (.var 0) .nil)) .nil)))))))) (.cons (.set (.name 2) (.bin .Add (.var 2) (.lst (.cons (.mkx 2 ["value"] false (.cons (.var 0) .nil)) (.cons (.mkx 11 ["limit"] false (.cons (.var 0) .nil)) (.cons (.mkx 3 ["name"] false (.cons (.var 0) .nil)) (.cons (.mkx 15 ["word", "paper"] false (.cons (.var 0) (.cons (.var 1) .nil))) .nil))))))) (.cons (.ret (.bin .Add (.var 2) (.lst (.cons (.mkx 16 ["name"] false (.cons (.var 0) .nil)) .nil)))) .nil))))
abbrev s__law_named : Stmt := top 20
def N__law_named : List Str := ["_law_one", "_law_two", "_law_some"]
def c__law_named : CSs := (.cons (.set (.name 2) (.lst (.cons (.mkx 5 ["place"] true (.cons (.var 0) .nil)) (.cons (.mkx 6 ["name", "place"] true (.cons (.var 1) (.cons (.var 0) .nil))) (.cons (.mkx 7 ["part", "name"] true (.cons (.var 1) (.cons (.var 0) .nil))) .nil))))) (.cons (.set (.name 2) (.bin .Add (.var 2) (.lst (.cons (.mkx 1 ["index"] true (.cons (.var 0) .nil)) (.cons (.mkx 9 ["value"] true (.cons (.var 0) .nil)) (.cons (.mkx 10 ["move"] true (.cons (.var 0) .nil)) (.cons (.mkx 8 ["value"] true (.cons (.var 0) .nil)) .nil))))))) (.cons (.set (.name 2) (.bin .Add (.var 2) (.lst (.cons (.mkx 12 ["edit"] true (.cons (.var 0) .nil)) (.cons (.mkx 13 ["line"] true (.cons (.var 0) .nil)) (.cons (.mkx 14 ["word"] true (.cons (.var 0) .nil)) (.cons (.mkx 2 ["value"] true (.cons (.var 0) .nil)) .nil))))))) (.cons (.set (.name 2) (.bin .Add (.var 2) (.lst (.cons (.mkx 11 ["limit"] true (.cons (.var 0) .nil)) (.cons (.mkx 3 ["name"] true (.cons (.var 0) .nil)) (.cons (.mkx 15 ["word", "paper"] true (.cons (.var 1) (.cons (.var 0) .nil))) .nil)))))) (.cons (.ret (.bin .Add (.var 2) (.lst (.cons (.mkx 16 ["name"] true (.cons (.var 0) .nil)) .nil)))) .nil)))))
abbrev s__law_fields : Stmt := top 21
def N__law_fields : List Str := ["_law_some", "_law_found"]
def c__law_fields : CSs := (.cons (.set (.name 1) (.lst (.cons (.lst (.cons (.xfld (.ix (.var 0) (.con (.int 0))) "place") .nil)) (.cons (.lst (.cons (.xfld (.ix (.var 0) (.con (.int 1))) "name") (.cons (.xfld (.ix (.var 0) (.con (.int 1))) "place") .nil))) (.cons (.lst (.cons (.xfld (.ix (.var 0) (.con (.int 2))) "part") (.cons (.xfld (.ix (.var 0) (.con (.int 2))) "name") .nil))) (.cons (.lst (.cons (.xfld (.ix (.var 0) (.con (.int 3))) "index") .nil)) .nil)))))) (.cons (.set (.name 1) (.bin .Add (.var 1) (.lst (.cons (.lst (.cons (.xfld (.ix (.var 0) (.con (.int 4))) "value") .nil)) (.cons (.lst (.cons (.xfld (.ix (.var 0) (.con (.int 5))) "move") .nil)) (.cons (.lst (.cons (.xfld (.ix (.var 0) (.con (.int 6))) "value") .nil)) (.cons (.lst (.cons (.xfld (.ix (.var 0) (.con (.int 7))) "edit") .nil)) (.cons (.lst (.cons (.xfld (.ix (.var 0) (.con (.int 8))) "line") .nil)) (.cons (.lst (.cons (.xfld (.ix (.var 0) (.con (.int 9))) "word") .nil)) .nil))))))))) (.cons (.set (.name 1) (.bin .Add (.var 1) (.lst (.cons (.lst (.cons (.xfld (.ix (.var 0) (.con (.int 10))) "value") .nil)) (.cons (.lst (.cons (.xfld (.ix (.var 0) (.con (.int 11))) "limit") .nil)) (.cons (.lst (.cons (.xfld (.ix (.var 0) (.con (.int 12))) "name") .nil)) (.cons (.lst (.cons (.xfld (.ix (.var 0) (.con (.int 13))) "word") (.cons (.xfld (.ix (.var 0) (.con (.int 13))) "paper") .nil))) .nil))))))) (.cons (.ret (.bin .Add (.var 1) (.lst (.cons (.lst (.cons (.xfld (.ix (.var 0) (.con (.int 14))) "name") .nil)) .nil)))) .nil))))
abbrev s__law_kinds : Stmt := top 22
def N__law_kinds : List Str := ["_law_e", "_law_some"]
def c__law_kinds : CSs := (.cons (.set (.name 1) (.lst (.cons (.isx (.var 0) tab_InvalidItem) (.cons (.isx (.var 0) tab_NotACrowd) (.cons (.isx (.var 0) tab_InvalidDevice) .nil))))) (.cons (.set (.name 1) (.bin .Add (.var 1) (.lst (.cons (.isx (.var 0) tab_InvalidStep) (.cons (.isx (.var 0) tab_InvalidState) (.cons (.isx (.var 0) tab_InvalidMove) .nil)))))) (.cons (.set (.name 1) (.bin .Add (.var 1) (.lst (.cons (.isx (.var 0) tab_InvalidStock) (.cons (.isx (.var 0) tab_InvalidEdit) (.cons (.isx (.var 0) tab_InvalidText) .nil)))))) (.cons (.set (.name 1) (.bin .Add (.var 1) (.lst (.cons (.isx (.var 0) tab_InvalidCommand) (.cons (.isx (.var 0) tab_InvalidNumber) (.cons (.isx (.var 0) tab_LimitExceeded) .nil)))))) (.cons (.ret (.bin .Add (.var 1) (.lst (.cons (.isx (.var 0) tab_UnknownName) (.cons (.isx (.var 0) tab_NotRight) (.cons (.isx (.var 0) tab_NothingToUndo) .nil)))))) .nil)))))
abbrev s__law_bases : Stmt := top 23
def N__law_bases : List Str := ["_law_e", "_law_some"]
def c__law_bases : CSs := (.cons (.set (.name 1) (.lst (.cons (.isx (.var 0) tab_DownError) (.cons (.isx (.var 0) tab_ValueError) (.cons (.isx (.var 0) tab_OverflowError) .nil))))) (.cons (.ret (.bin .Add (.var 1) (.lst (.cons (.isx (.var 0) tab_LookupError) (.cons (.isx (.var 0) tab_RuntimeError) (.cons (.isx (.var 0) tab_KeyError) .nil)))))) .nil))
abbrev s_law : Stmt := top 24
def N_law : List Str := ["_law_script", "_law_k", "_law_cell", "_law_way", "_law_great", "_law_other", "_law_one", "_law_two", "_law_due", "_law_some", "_law_at", "_law_e", "_law_other_at"]
def l_law_1 : CSs := (.cons (.ife (.tst (.cmp .NotEq (.call (.fn 35) (.cons (.var 11) .nil)) (.lc (.name 12) (.rng (.con (.int 15))) .nil (.cmp .Eq (.var 12) (.var 10)) [12]))) (.cons (.ret (.con (.bl false))) .nil) .nil) (.cons (.ife (.tst (.cmp .NotEq (.call (.fn 36) (.cons (.var 11) .nil)) (.lst (.cons (.cmp .Lt (.var 10) (.con (.int 10))) (.cons (.cmp .Eq (.var 10) (.con (.int 10))) (.cons (.cmp .Eq (.var 10) (.con (.int 11))) (.cons (.cmp .Eq (.var 10) (.con (.int 12))) (.cons (.cmp .In (.var 10) (.lst (.cons (.con (.int 13)) (.cons (.con (.int 14)) .nil)))) (.cons (.con (.bl false)) .nil))))))))) (.cons (.ret (.con (.bl false))) .nil) .nil) .nil))
def l_law_2 : CSs := (.cons (.ife (.tst (.cmp .NotEq (.blt .repr (.cons (.call (.fn 34) (.cons (.var 9) .nil)) .nil)) (.blt .repr (.cons (.var 8) .nil)))) (.cons (.ret (.con (.bl false))) .nil) .nil) (.cons (.fors (.tup (.cons (.name 10) (.cons (.name 11) .nil))) (.enm (.var 9)) l_law_1) .nil))
def l_law_3 : CSs := (.cons (.set (.tup (.cons (.name 3) (.cons (.name 4) (.cons (.name 5) .nil)))) (.call (.fn 25) (.cons (.var 2) (.cons (.bin .Add (.con (.int 100)) (.var 1)) (.cons (.lst (.cons (.con (.int 8)) (.cons (.bin .Pow (.con (.int 10)) (.con (.int 30))) (.cons (.bin .Pow (.con (.int 10)) (.con (.int 20))) .nil)))) .nil))))) (.cons (.set (.name 6) (.ix (.lst (.cons (.con .non) (.cons (.con (.bl true)) (.cons (.con (.str "")) (.cons (.con (.str "x")) (.cons (.tup (.cons (.var 4) (.cons (.con (.str "a")) .nil))) (.cons (.neg (.var 4)) (.cons (.lst (.cons (.con (.int 1)) .nil)) (.cons (.var 4) .nil))))))))) (.var 3))) (.cons (.set (.name 7) (.ix (.lst (.cons (.var 5) (.cons (.tup (.cons (.var 5) .nil)) (.cons (.con (.str "y")) (.cons (.con .non) (.cons (.con (.bl false)) (.cons (.bin .Sub (.neg (.con (.int 1))) (.var 5)) (.cons (.lst .nil) (.cons (.con (.dic [])) .nil))))))))) (.bin .Mod (.blt .int (.cons (.var 4) .nil)) (.con (.int 8))))) (.cons (.set (.name 8) (.bin .Add (.bin .Add (.lst (.cons (.lst (.cons (.var 6) .nil)) (.cons (.lst (.cons (.var 6) (.cons (.var 7) .nil))) (.cons (.lst (.cons (.var 6) (.cons (.var 7) .nil))) .nil)))) (.bin .Mult (.lst (.cons (.lst (.cons (.var 6) .nil)) .nil)) (.con (.int 10)))) (.lst (.cons (.lst (.cons (.var 6) (.cons (.var 7) .nil))) (.cons (.lst (.cons (.var 6) .nil)) .nil))))) (.cons (.fors (.name 9) (.seq (.lst (.cons (.call (.fn 32) (.cons (.var 6) (.cons (.var 7) .nil))) (.cons (.call (.fn 33) (.cons (.var 6) (.cons (.var 7) .nil))) .nil)))) l_law_2) .nil)))))
def c_law : CSs := (.cons (.fors (.tup (.cons (.name 1) (.cons (.name 2) .nil))) (.enm (.bin .Add (.sl (.var 0) .none (.some (.con (.int 6)))) (.bin .Mult (.lst (.cons (.con (.int 7)) .nil)) (.blt .int (.cons (.cmp .Eq (.var 0) (.lst .nil)) .nil))))) l_law_3) (.cons (.ret (.and (.isx (.mkx 1 ["index"] false (.cons (.con (.int 0)) .nil)) tab_Exception) (.isx (.mkx 15 ["word", "paper"] false (.cons (.con .non) (.cons (.con .non) .nil))) tab_Exception))) .nil))
def fnT : Nat → Option Fn
  | 25 => some ⟨3, 5, c__law_numbers, 0, false⟩
  | 32 => some ⟨2, 1, c__law_made, 0, false⟩
  | 33 => some ⟨2, 1, c__law_named, 0, false⟩
  | 34 => some ⟨1, 1, c__law_fields, 0, false⟩
  | 35 => some ⟨1, 1, c__law_kinds, 0, false⟩
  | 36 => some ⟨1, 1, c__law_bases, 0, false⟩
  | 30 => some ⟨1, 12, c_law, 0, false⟩
  | _ => none
def isbT : Nat → Nat → Bool
  | _, _ => false
def subT : Nat → Nat → Bool
  | 0, 0 => true
  | 5, 0 => true
  | 5, 5 => true
  | 6, 0 => true
  | 6, 6 => true
  | 7, 0 => true
  | 7, 7 => true
  | 1, 0 => true
  | 1, 1 => true
  | 9, 0 => true
  | 9, 9 => true
  | 10, 0 => true
  | 10, 10 => true
  | 8, 0 => true
  | 8, 8 => true
  | 12, 0 => true
  | 12, 12 => true
  | 13, 0 => true
  | 13, 13 => true
  | 14, 0 => true
  | 14, 14 => true
  | 2, 2 => true
  | 11, 11 => true
  | 3, 3 => true
  | 15, 15 => true
  | 16, 16 => true
  | _, _ => false
def metL : List (Nat × Str × Nat) := []
def metT (c : Nat) (m : Str) : Option Nat := (metL.find? fun t => decide (t.1 = c) && decide (t.2.1 = m)).map (·.2.2)
def fldT (c : Nat) (m : Str) : Bool :=
  false
def xflT (c : Nat) (m : Str) : Bool :=
  (decide (c = 14) && decide (m = "word")) || (decide (c = 7) && decide (m = "part")) || (decide (c = 7) && decide (m = "name")) || (decide (c = 12) && decide (m = "edit")) || (decide (c = 5) && decide (m = "place")) || (decide (c = 10) && decide (m = "move")) || (decide (c = 2) && decide (m = "value")) || (decide (c = 9) && decide (m = "value")) || (decide (c = 1) && decide (m = "index")) || (decide (c = 8) && decide (m = "value")) || (decide (c = 13) && decide (m = "line")) || (decide (c = 11) && decide (m = "limit")) || (decide (c = 6) && decide (m = "name")) || (decide (c = 6) && decide (m = "place")) || (decide (c = 15) && decide (m = "word")) || (decide (c = 15) && decide (m = "paper")) || (decide (c = 16) && decide (m = "name")) || (decide (c = 3) && decide (m = "name"))
def xtT : Nat → Option (List Str)
  | 14 => some ["word"]
  | 7 => some ["part", "name"]
  | 12 => some ["edit"]
  | 5 => some ["place"]
  | 10 => some ["move"]
  | 2 => some ["value"]
  | 9 => some ["value"]
  | 1 => some ["index"]
  | 8 => some ["value"]
  | 13 => some ["line"]
  | 11 => some ["limit"]
  | 6 => some ["name", "place"]
  | 15 => some ["word", "paper"]
  | 16 => some ["name"]
  | 3 => some ["name"]
  | _ => none
def cdT : Nat → Option Cd
  | _ => none
def prg : Prg := ⟨⟨subT, isbT, metT, fldT, xflT⟩, ⟨xtT⟩, rpD, fnT, cdT⟩
/-- what the top has written -/
structure Txt (P : Program) (w : World) (K : PySem.W.Frag) (mg : Str → Option Value) (G : GG) : Prop where
  k : K = G.K
  fld : ∀ c f, fldT c f = true → Cls K (G.cl c) ∧ NoAttr K (G.cl c) f
  met : ∀ c m f, metT c m = some f → Cls K (G.cl c) ∧ Meth K (G.cl c) m (G.fa f)
  cls : ∀ c C, cdT c = some C → Mk K (G.cl c) (G.fa C.init)
  m_Exception : mg "Exception" = none
  m_KeyError : mg "KeyError" = none
  m_LookupError : mg "LookupError" = none
  m_OverflowError : mg "OverflowError" = none
  m_RuntimeError : mg "RuntimeError" = none
  m_ValueError : mg "ValueError" = none
  m_enumerate : mg "enumerate" = none
  m_int : mg "int" = none
  m_isinstance : mg "isinstance" = none
  m_len : mg "len" = none
  m_max : mg "max" = none
  m_range : mg "range" = none
  m_repr : mg "repr" = none
  m_super : mg "super" = none
  g_DownError : mg "DownError" = some (.ref (G.cl 0))
  g_InvalidCommand : mg "InvalidCommand" = some (.ref (G.cl 14))
  g_InvalidDevice : mg "InvalidDevice" = some (.ref (G.cl 7))
  g_InvalidEdit : mg "InvalidEdit" = some (.ref (G.cl 12))
  g_InvalidItem : mg "InvalidItem" = some (.ref (G.cl 5))
  g_InvalidMove : mg "InvalidMove" = some (.ref (G.cl 10))
  g_InvalidNumber : mg "InvalidNumber" = some (.ref (G.cl 2))
  g_InvalidState : mg "InvalidState" = some (.ref (G.cl 9))
  g_InvalidStep : mg "InvalidStep" = some (.ref (G.cl 1))
  g_InvalidStock : mg "InvalidStock" = some (.ref (G.cl 8))
  g_InvalidText : mg "InvalidText" = some (.ref (G.cl 13))
  g_LimitExceeded : mg "LimitExceeded" = some (.ref (G.cl 11))
  g_NotACrowd : mg "NotACrowd" = some (.ref (G.cl 6))
  g_NotRight : mg "NotRight" = some (.ref (G.cl 15))
  g_NothingToUndo : mg "NothingToUndo" = some (.ref (G.cl 16))
  g_UnknownName : mg "UnknownName" = some (.ref (G.cl 3))
  g__law_bases : mg "_law_bases" = some (.ref (G.fa 36))
  k__law_bases : PySem.W.keepIn K (.ref (G.fa 36)) = true
  g__law_fields : mg "_law_fields" = some (.ref (G.fa 34))
  k__law_fields : PySem.W.keepIn K (.ref (G.fa 34)) = true
  g__law_kinds : mg "_law_kinds" = some (.ref (G.fa 35))
  k__law_kinds : PySem.W.keepIn K (.ref (G.fa 35)) = true
  g__law_made : mg "_law_made" = some (.ref (G.fa 32))
  k__law_made : PySem.W.keepIn K (.ref (G.fa 32)) = true
  g__law_named : mg "_law_named" = some (.ref (G.fa 33))
  k__law_named : PySem.W.keepIn K (.ref (G.fa 33)) = true
  g__law_numbers : mg "_law_numbers" = some (.ref (G.fa 25))
  k__law_numbers : PySem.W.keepIn K (.ref (G.fa 25)) = true
  isiO : ∀ c a dx fs (H : Hp), H a = some (.ins (G.cl c) dx fs) → isbT c c = true → TyX K H (.ref a) (.ref (G.cl c))
  isiK : ∀ (t : Ty) (d : D), (∀ c fs, d = .obj c fs → isbT c c = true) → (∀ c, t = .cls c → isbT c c = true) → PySem.W.kitOne K (tyD G d) (tyU G t) = some (isiD isbT t d)
  eqN : ∀ c f, metT c "__eq__" = some f → ∀ d, (∀ c fs, d ≠ .obj c fs) → PySem.W.notFirst K (G.cl c) (tyD G d) = true
  giN : ∀ c f, metT c "__getitem__" = some f → PySem.W.fnIn K (G.fa f) = true
  addL : ∀ c f, metT c "__add__" = some f → PySem.W.selfFirst K (G.cl c) = true ∧ (∃ rc, PySem.W.findIn K (.ref (G.cl c)) "__radd__" = some rc ∧ (rc = none ∨ ∃ g : Addr, rc = some (.ref g))) ∧
    ∀ d, (∀ c fs, d ≠ .obj c fs) → ∃ T fo ro, tyD G d = .type T ∧ PySem.W.findIn K (.type T) "__add__" = some fo ∧ PySem.W.findIn K (.type T) "__radd__" = some ro ∧ PySem.W.subIn K (.type T) (.ref (G.cl c)) = some false
  addR : ∀ c f, metT c "__radd__" = some f → PySem.W.selfFirst K (G.cl c) = true ∧ (∃ g : Addr, PySem.W.findIn K (.ref (G.cl c)) "__add__" = some (some (.ref g))) ∧
    ∃ fo ro, PySem.W.findIn K (.type "tuple") "__add__" = some fo ∧ PySem.W.findIn K (.type "tuple") "__radd__" = some ro ∧ ((fo.isSome && !isSeqSlot fo) || (ro.isSome && !isSeqSlot ro)) = false
  x_InvalidCommand : ∃ fI, TDX.XIni P K (G.cl 14) fI "Exception" "Exception.__new__" "Exception.__init__" [.type "Exception", .type "BaseException", .type "object"] ["word"] true
  e_InvalidCommand : ∀ j, (xtT j).isSome = true → PySem.W.exmOne K (.ref (G.cl j)) (.ref (G.cl 14)) = some (subT j 14)
  x_InvalidDevice : ∃ fI, TDX.XIni P K (G.cl 7) fI "Exception" "Exception.__new__" "Exception.__init__" [.type "Exception", .type "BaseException", .type "object"] ["part", "name"] true
  e_InvalidDevice : ∀ j, (xtT j).isSome = true → PySem.W.exmOne K (.ref (G.cl j)) (.ref (G.cl 7)) = some (subT j 7)
  x_InvalidEdit : ∃ fI, TDX.XIni P K (G.cl 12) fI "Exception" "Exception.__new__" "Exception.__init__" [.type "Exception", .type "BaseException", .type "object"] ["edit"] true
  e_InvalidEdit : ∀ j, (xtT j).isSome = true → PySem.W.exmOne K (.ref (G.cl j)) (.ref (G.cl 12)) = some (subT j 12)
  x_InvalidItem : ∃ fI, TDX.XIni P K (G.cl 5) fI "Exception" "Exception.__new__" "Exception.__init__" [.type "Exception", .type "BaseException", .type "object"] ["place"] true
  e_InvalidItem : ∀ j, (xtT j).isSome = true → PySem.W.exmOne K (.ref (G.cl j)) (.ref (G.cl 5)) = some (subT j 5)
  x_InvalidMove : ∃ fI, TDX.XIni P K (G.cl 10) fI "Exception" "Exception.__new__" "Exception.__init__" [.type "Exception", .type "BaseException", .type "object"] ["move"] true
  e_InvalidMove : ∀ j, (xtT j).isSome = true → PySem.W.exmOne K (.ref (G.cl j)) (.ref (G.cl 10)) = some (subT j 10)
  x_InvalidNumber : ∃ fI, TDX.XIni P K (G.cl 2) fI "ValueError" "ValueError.__new__" "ValueError.__init__" [.type "ValueError", .type "Exception", .type "BaseException", .type "object"] ["value"] true
  e_InvalidNumber : ∀ j, (xtT j).isSome = true → PySem.W.exmOne K (.ref (G.cl j)) (.ref (G.cl 2)) = some (subT j 2)
  x_InvalidState : ∃ fI, TDX.XIni P K (G.cl 9) fI "Exception" "Exception.__new__" "Exception.__init__" [.type "Exception", .type "BaseException", .type "object"] ["value"] true
  e_InvalidState : ∀ j, (xtT j).isSome = true → PySem.W.exmOne K (.ref (G.cl j)) (.ref (G.cl 9)) = some (subT j 9)
  x_InvalidStep : ∃ fI, TDX.XIni P K (G.cl 1) fI "Exception" "Exception.__new__" "Exception.__init__" [.type "Exception", .type "BaseException", .type "object"] ["index"] true
  e_InvalidStep : ∀ j, (xtT j).isSome = true → PySem.W.exmOne K (.ref (G.cl j)) (.ref (G.cl 1)) = some (subT j 1)
  x_InvalidStock : ∃ fI, TDX.XIni P K (G.cl 8) fI "Exception" "Exception.__new__" "Exception.__init__" [.type "Exception", .type "BaseException", .type "object"] ["value"] true
  e_InvalidStock : ∀ j, (xtT j).isSome = true → PySem.W.exmOne K (.ref (G.cl j)) (.ref (G.cl 8)) = some (subT j 8)
  x_InvalidText : ∃ fI, TDX.XIni P K (G.cl 13) fI "Exception" "Exception.__new__" "Exception.__init__" [.type "Exception", .type "BaseException", .type "object"] ["line"] true
  e_InvalidText : ∀ j, (xtT j).isSome = true → PySem.W.exmOne K (.ref (G.cl j)) (.ref (G.cl 13)) = some (subT j 13)
  x_LimitExceeded : ∃ fI, TDX.XIni P K (G.cl 11) fI "OverflowError" "OverflowError.__new__" "OverflowError.__init__" [.type "OverflowError", .type "ArithmeticError", .type "Exception", .type "BaseException", .type "object"] ["limit"] true
  e_LimitExceeded : ∀ j, (xtT j).isSome = true → PySem.W.exmOne K (.ref (G.cl j)) (.ref (G.cl 11)) = some (subT j 11)
  x_NotACrowd : ∃ fI, TDX.XIni P K (G.cl 6) fI "Exception" "Exception.__new__" "Exception.__init__" [.type "Exception", .type "BaseException", .type "object"] ["name", "place"] true
  e_NotACrowd : ∀ j, (xtT j).isSome = true → PySem.W.exmOne K (.ref (G.cl j)) (.ref (G.cl 6)) = some (subT j 6)
  x_NotRight : ∃ fI, TDX.XIni P K (G.cl 15) fI "RuntimeError" "RuntimeError.__new__" "RuntimeError.__init__" [.type "RuntimeError", .type "Exception", .type "BaseException", .type "object"] ["word", "paper"] true
  e_NotRight : ∀ j, (xtT j).isSome = true → PySem.W.exmOne K (.ref (G.cl j)) (.ref (G.cl 15)) = some (subT j 15)
  x_NothingToUndo : ∃ fI, TDX.XIni P K (G.cl 16) fI "RuntimeError" "RuntimeError.__new__" "RuntimeError.__init__" [.type "RuntimeError", .type "Exception", .type "BaseException", .type "object"] ["name"] true
  e_NothingToUndo : ∀ j, (xtT j).isSome = true → PySem.W.exmOne K (.ref (G.cl j)) (.ref (G.cl 16)) = some (subT j 16)
  x_UnknownName : ∃ fI, TDX.XIni P K (G.cl 3) fI "LookupError" "LookupError.__new__" "LookupError.__init__" [.type "LookupError", .type "Exception", .type "BaseException", .type "object"] ["name"] true
  e_UnknownName : ∀ j, (xtT j).isSome = true → PySem.W.exmOne K (.ref (G.cl j)) (.ref (G.cl 3)) = some (subT j 3)
  kx_DownError : ∀ c r, tab_DownError.lookup c = some r → XisC K (G.cl c) ∧ PySem.W.kitOne K (.ref (G.cl c)) (.ref (G.cl 0)) = some r
  kx_Exception : ∀ c r, tab_Exception.lookup c = some r → XisC K (G.cl c) ∧ PySem.W.kitOne K (.ref (G.cl c)) (.type "Exception") = some r
  kx_InvalidCommand : ∀ c r, tab_InvalidCommand.lookup c = some r → XisC K (G.cl c) ∧ PySem.W.kitOne K (.ref (G.cl c)) (.ref (G.cl 14)) = some r
  kx_InvalidDevice : ∀ c r, tab_InvalidDevice.lookup c = some r → XisC K (G.cl c) ∧ PySem.W.kitOne K (.ref (G.cl c)) (.ref (G.cl 7)) = some r
  kx_InvalidEdit : ∀ c r, tab_InvalidEdit.lookup c = some r → XisC K (G.cl c) ∧ PySem.W.kitOne K (.ref (G.cl c)) (.ref (G.cl 12)) = some r
  kx_InvalidItem : ∀ c r, tab_InvalidItem.lookup c = some r → XisC K (G.cl c) ∧ PySem.W.kitOne K (.ref (G.cl c)) (.ref (G.cl 5)) = some r
  kx_InvalidMove : ∀ c r, tab_InvalidMove.lookup c = some r → XisC K (G.cl c) ∧ PySem.W.kitOne K (.ref (G.cl c)) (.ref (G.cl 10)) = some r
  kx_InvalidNumber : ∀ c r, tab_InvalidNumber.lookup c = some r → XisC K (G.cl c) ∧ PySem.W.kitOne K (.ref (G.cl c)) (.ref (G.cl 2)) = some r
  kx_InvalidState : ∀ c r, tab_InvalidState.lookup c = some r → XisC K (G.cl c) ∧ PySem.W.kitOne K (.ref (G.cl c)) (.ref (G.cl 9)) = some r
  kx_InvalidStep : ∀ c r, tab_InvalidStep.lookup c = some r → XisC K (G.cl c) ∧ PySem.W.kitOne K (.ref (G.cl c)) (.ref (G.cl 1)) = some r
  kx_InvalidStock : ∀ c r, tab_InvalidStock.lookup c = some r → XisC K (G.cl c) ∧ PySem.W.kitOne K (.ref (G.cl c)) (.ref (G.cl 8)) = some r
  kx_InvalidText : ∀ c r, tab_InvalidText.lookup c = some r → XisC K (G.cl c) ∧ PySem.W.kitOne K (.ref (G.cl c)) (.ref (G.cl 13)) = some r
  kx_KeyError : ∀ c r, tab_KeyError.lookup c = some r → XisC K (G.cl c) ∧ PySem.W.kitOne K (.ref (G.cl c)) (.type "KeyError") = some r
  kx_LimitExceeded : ∀ c r, tab_LimitExceeded.lookup c = some r → XisC K (G.cl c) ∧ PySem.W.kitOne K (.ref (G.cl c)) (.ref (G.cl 11)) = some r
  kx_LookupError : ∀ c r, tab_LookupError.lookup c = some r → XisC K (G.cl c) ∧ PySem.W.kitOne K (.ref (G.cl c)) (.type "LookupError") = some r
  kx_NotACrowd : ∀ c r, tab_NotACrowd.lookup c = some r → XisC K (G.cl c) ∧ PySem.W.kitOne K (.ref (G.cl c)) (.ref (G.cl 6)) = some r
  kx_NotRight : ∀ c r, tab_NotRight.lookup c = some r → XisC K (G.cl c) ∧ PySem.W.kitOne K (.ref (G.cl c)) (.ref (G.cl 15)) = some r
  kx_NothingToUndo : ∀ c r, tab_NothingToUndo.lookup c = some r → XisC K (G.cl c) ∧ PySem.W.kitOne K (.ref (G.cl c)) (.ref (G.cl 16)) = some r
  kx_OverflowError : ∀ c r, tab_OverflowError.lookup c = some r → XisC K (G.cl c) ∧ PySem.W.kitOne K (.ref (G.cl c)) (.type "OverflowError") = some r
  kx_RuntimeError : ∀ c r, tab_RuntimeError.lookup c = some r → XisC K (G.cl c) ∧ PySem.W.kitOne K (.ref (G.cl c)) (.type "RuntimeError") = some r
  kx_UnknownName : ∀ c r, tab_UnknownName.lookup c = some r → XisC K (G.cl c) ∧ PySem.W.kitOne K (.ref (G.cl c)) (.ref (G.cl 3)) = some r
  kx_ValueError : ∀ c r, tab_ValueError.lookup c = some r → XisC K (G.cl c) ∧ PySem.W.kitOne K (.ref (G.cl c)) (.type "ValueError") = some r
  xf : ∀ c f, xflT c f = true → XfC K (G.cl c) ∧ PySem.W.findIn K (.ref (G.cl c)) f = some none
section
variable {P : Program} {w : World} {K : PySem.W.Frag} {mg : Str → Option Value} {base : Heap} {G : GG} {k : Nat} {cdv : Value}
theorem d__law_numbers (T : Txt P w K mg G) (A : Around) (outer : List PySem.Env) (s : Shared) (H : Hp) (E : XK) (h : Ok (kxOf P w K mg base N__law_numbers "_law_numbers" (defScope s__law_numbers) (G.fa 25) cdv A outer s H E G prg k)) : JSs (kxOf P w K mg base N__law_numbers "_law_numbers" (defScope s__law_numbers) (G.fa 25) cdv A outer s H E G prg k) (defBody s__law_numbers) c__law_numbers := by
  exact (jss_cons (js_set (i := 3) h.nd (by rfl) (by first | exact .inl rfl | exact .inr rfl) (.inl rfl) (je_bltB (call_max_ok h.calm) (by rfl) T.m_max (by decide +kernel) (ja_cons (je_var (i := 0) (by rfl) (by first | exact .inl rfl | exact .inr (.inl rfl) | exact .inr (.inr rfl))) (ja_cons (je_bin h.toOk1.toOk0 (je_neg h.toOk1.toOk0 je_int) (je_var (i := 0) (by rfl) (by first | exact .inl rfl | exact .inr (.inl rfl) | exact .inr (.inr rfl)))) ja_nil))))
    (jss_cons (js_set (i := 4) h.nd (by rfl) (by first | exact .inl rfl | exact .inr rfl) (.inl rfl) (je_var (i := 3) (by rfl) (by first | exact .inl rfl | exact .inr (.inl rfl) | exact .inr (.inr rfl))))
    (jss_cons (js_set (i := 5) h.nd (by rfl) (by first | exact .inl rfl | exact .inr rfl) (.inl rfl) (je_new ja_nil))
    (jss_cons (js_for h (ji_rng (by rfl) T.m_range (je_bltB (call_len_ok h.toOk1.toOk0) (by rfl) T.m_len (by decide +kernel) (ja_cons (je_var (i := 2) (by rfl) (by first | exact .inl rfl | exact .inr (.inl rfl) | exact .inr (.inr rfl))) ja_nil))) (jg_name h.nd (by rfl) (by first | exact .inl rfl | exact .inr rfl) (by first | exact .inl rfl | exact .inr rfl)) (jss_cons (js_if (jt_w (jw_and (jt_cmp h.toOk1.toOk0 (je_var (i := 3) (by rfl) (by first | exact .inl rfl | exact .inr (.inl rfl) | exact .inr (.inr rfl))) (je_bin h.toOk1.toOk0 je_int je_int)) (jw_and1 (jt_cmp h.toOk1.toOk0 (je_var (i := 4) (by rfl) (by first | exact .inl rfl | exact .inr (.inl rfl) | exact .inr (.inr rfl))) je_int)))) (jss_cons (js_append (je_var (i := 5) (by rfl) (by first | exact .inl rfl | exact .inr (.inl rfl) | exact .inr (.inr rfl))) (je_bin h.toOk1.toOk0 (je_var (i := 4) (by rfl) (by first | exact .inl rfl | exact .inr (.inl rfl) | exact .inr (.inr rfl))) (je_ix h.toOk1.toOk0 (je_var (i := 2) (by rfl) (by first | exact .inl rfl | exact .inr (.inl rfl) | exact .inr (.inr rfl))) (je_var (i := 6) (by rfl) (by first | exact .inl rfl | exact .inr (.inl rfl) | exact .inr (.inr rfl))))))
    (jss_cons (js_set (i := 4) h.nd (by rfl) (by first | exact .inl rfl | exact .inr rfl) (.inl rfl) (je_bin h.toOk1.toOk0 (je_var (i := 4) (by rfl) (by first | exact .inl rfl | exact .inr (.inl rfl) | exact .inr (.inr rfl))) (je_ix h.toOk1.toOk0 (je_var (i := 2) (by rfl) (by first | exact .inl rfl | exact .inr (.inl rfl) | exact .inr (.inr rfl))) (je_var (i := 6) (by rfl) (by first | exact .inl rfl | exact .inr (.inl rfl) | exact .inr (.inr rfl))))))
    jss_nil)) (jss_cons (js_set (i := 7) h.nd (by rfl) (by first | exact .inl rfl | exact .inr rfl) (.inl rfl) (je_bin h.toOk1.toOk0 (je_bin h.toOk1.toOk0 (je_bin h.toOk1.toOk0 (je_bin h.toOk1.toOk0 (je_bin h.toOk1.toOk0 (je_var (i := 3) (by rfl) (by first | exact .inl rfl | exact .inr (.inl rfl) | exact .inr (.inr rfl))) je_int) (je_bin h.toOk1.toOk0 je_int (je_var (i := 1) (by rfl) (by first | exact .inl rfl | exact .inr (.inl rfl) | exact .inr (.inr rfl))))) je_int) je_int) je_int))
    (jss_cons (js_set (i := 7) h.nd (by rfl) (by first | exact .inl rfl | exact .inr rfl) (.inl rfl) (je_bin h.toOk1.toOk0 (je_bin h.toOk1.toOk0 (je_bin h.toOk1.toOk0 (je_var (i := 7) (by rfl) (by first | exact .inl rfl | exact .inr (.inl rfl) | exact .inr (.inr rfl))) (je_bin h.toOk1.toOk0 je_int (je_bin h.toOk1.toOk0 (je_var (i := 6) (by rfl) (by first | exact .inl rfl | exact .inr (.inl rfl) | exact .inr (.inr rfl))) je_int))) (je_bin h.toOk1.toOk0 (je_var (i := 6) (by rfl) (by first | exact .inl rfl | exact .inr (.inl rfl) | exact .inr (.inr rfl))) je_int)) je_int))
    (jss_cons (js_set (i := 7) h.nd (by rfl) (by first | exact .inl rfl | exact .inr rfl) (.inl rfl) (je_bin h.toOk1.toOk0 (je_bin h.toOk1.toOk0 (je_bin h.toOk1.toOk0 (je_bin h.toOk1.toOk0 (je_var (i := 7) (by rfl) (by first | exact .inl rfl | exact .inr (.inl rfl) | exact .inr (.inr rfl))) je_int) je_int) je_int) je_int))
    (jss_cons (js_append (je_var (i := 5) (by rfl) (by first | exact .inl rfl | exact .inr (.inl rfl) | exact .inr (.inr rfl))) (je_bin h.toOk1.toOk0 (je_bin h.toOk1.toOk0 (je_var (i := 7) (by rfl) (by first | exact .inl rfl | exact .inr (.inl rfl) | exact .inr (.inr rfl))) je_int) (je_ix h.toOk1.toOk0 (je_var (i := 2) (by rfl) (by first | exact .inl rfl | exact .inr (.inl rfl) | exact .inr (.inr rfl))) (je_var (i := 6) (by rfl) (by first | exact .inl rfl | exact .inr (.inl rfl) | exact .inr (.inr rfl))))))
    jss_nil)))))
    jss_nil))
    (jss_cons (js_ret (je_var (i := 5) (by rfl) (by first | exact .inl rfl | exact .inr (.inl rfl) | exact .inr (.inr rfl))))
    jss_nil)))))
theorem d__law_made (T : Txt P w K mg G) (A : Around) (outer : List PySem.Env) (s : Shared) (H : Hp) (E : XK) (h : Ok (kxOf P w K mg base N__law_made "_law_made" (defScope s__law_made) (G.fa 32) cdv A outer s H E G prg k)) : JSs (kxOf P w K mg base N__law_made "_law_made" (defScope s__law_made) (G.fa 32) cdv A outer s H E G prg k) (defBody s__law_made) c__law_made := by
  obtain ⟨fI_InvalidCommand, x_InvalidCommand⟩ := T.x_InvalidCommand
  obtain ⟨fI_InvalidDevice, x_InvalidDevice⟩ := T.x_InvalidDevice
  obtain ⟨fI_InvalidEdit, x_InvalidEdit⟩ := T.x_InvalidEdit
  obtain ⟨fI_InvalidItem, x_InvalidItem⟩ := T.x_InvalidItem
  obtain ⟨fI_InvalidMove, x_InvalidMove⟩ := T.x_InvalidMove
  obtain ⟨fI_InvalidNumber, x_InvalidNumber⟩ := T.x_InvalidNumber
  obtain ⟨fI_InvalidState, x_InvalidState⟩ := T.x_InvalidState
  obtain ⟨fI_InvalidStep, x_InvalidStep⟩ := T.x_InvalidStep
  obtain ⟨fI_InvalidStock, x_InvalidStock⟩ := T.x_InvalidStock
  obtain ⟨fI_InvalidText, x_InvalidText⟩ := T.x_InvalidText
  obtain ⟨fI_LimitExceeded, x_LimitExceeded⟩ := T.x_LimitExceeded
  obtain ⟨fI_NotACrowd, x_NotACrowd⟩ := T.x_NotACrowd
  obtain ⟨fI_NotRight, x_NotRight⟩ := T.x_NotRight
  obtain ⟨fI_NothingToUndo, x_NothingToUndo⟩ := T.x_NothingToUndo
  obtain ⟨fI_UnknownName, x_UnknownName⟩ := T.x_UnknownName
  exact (jss_cons (js_set (i := 2) h.nd (by rfl) (by first | exact .inl rfl | exact .inr rfl) (.inl rfl) (je_lst (ja_cons (je_mkx h x_InvalidItem (by decide +kernel) (by rfl) T.g_InvalidItem T.m_super (ja_cons (je_var (i := 0) (by rfl) (by first | exact .inl rfl | exact .inr (.inl rfl) | exact .inr (.inr rfl))) ja_nil)) (ja_cons (je_mkx h x_NotACrowd (by decide +kernel) (by rfl) T.g_NotACrowd T.m_super (ja_cons (je_var (i := 0) (by rfl) (by first | exact .inl rfl | exact .inr (.inl rfl) | exact .inr (.inr rfl))) (ja_cons (je_var (i := 1) (by rfl) (by first | exact .inl rfl | exact .inr (.inl rfl) | exact .inr (.inr rfl))) ja_nil))) (ja_cons (je_mkx h x_InvalidDevice (by decide +kernel) (by rfl) T.g_InvalidDevice T.m_super (ja_cons (je_var (i := 0) (by rfl) (by first | exact .inl rfl | exact .inr (.inl rfl) | exact .inr (.inr rfl))) (ja_cons (je_var (i := 1) (by rfl) (by first | exact .inl rfl | exact .inr (.inl rfl) | exact .inr (.inr rfl))) ja_nil))) (ja_cons (je_mkx h x_InvalidStep (by decide +kernel) (by rfl) T.g_InvalidStep T.m_super (ja_cons (je_var (i := 0) (by rfl) (by first | exact .inl rfl | exact .inr (.inl rfl) | exact .inr (.inr rfl))) ja_nil)) (ja_cons (je_mkx h x_InvalidState (by decide +kernel) (by rfl) T.g_InvalidState T.m_super (ja_cons (je_var (i := 0) (by rfl) (by first | exact .inl rfl | exact .inr (.inl rfl) | exact .inr (.inr rfl))) ja_nil)) ja_nil)))))))
    (jss_cons (js_set (i := 2) h.nd (by rfl) (by first | exact .inl rfl | exact .inr rfl) (.inl rfl) (je_bin h.toOk1.toOk0 (je_var (i := 2) (by rfl) (by first | exact .inl rfl | exact .inr (.inl rfl) | exact .inr (.inr rfl))) (je_lst (ja_cons (je_mkx h x_InvalidMove (by decide +kernel) (by rfl) T.g_InvalidMove T.m_super (ja_cons (je_var (i := 0) (by rfl) (by first | exact .inl rfl | exact .inr (.inl rfl) | exact .inr (.inr rfl))) ja_nil)) (ja_cons (je_mkx h x_InvalidStock (by decide +kernel) (by rfl) T.g_InvalidStock T.m_super (ja_cons (je_var (i := 0) (by rfl) (by first | exact .inl rfl | exact .inr (.inl rfl) | exact .inr (.inr rfl))) ja_nil)) (ja_cons (je_mkx h x_InvalidEdit (by decide +kernel) (by rfl) T.g_InvalidEdit T.m_super (ja_cons (je_var (i := 0) (by rfl) (by first | exact .inl rfl | exact .inr (.inl rfl) | exact .inr (.inr rfl))) ja_nil)) (ja_cons (je_mkx h x_InvalidText (by decide +kernel) (by rfl) T.g_InvalidText T.m_super (ja_cons (je_var (i := 0) (by rfl) (by first | exact .inl rfl | exact .inr (.inl rfl) | exact .inr (.inr rfl))) ja_nil)) (ja_cons (je_mkx h x_InvalidCommand (by decide +kernel) (by rfl) T.g_InvalidCommand T.m_super (ja_cons (je_var (i := 0) (by rfl) (by first | exact .inl rfl | exact .inr (.inl rfl) | exact .inr (.inr rfl))) ja_nil)) ja_nil))))))))
    (jss_cons (js_set (i := 2) h.nd (by rfl) (by first | exact .inl rfl | exact .inr rfl) (.inl rfl) (je_bin h.toOk1.toOk0 (je_var (i := 2) (by rfl) (by first | exact .inl rfl | exact .inr (.inl rfl) | exact .inr (.inr rfl))) (je_lst (ja_cons (je_mkx h x_InvalidNumber (by decide +kernel) (by rfl) T.g_InvalidNumber T.m_super (ja_cons (je_var (i := 0) (by rfl) (by first | exact .inl rfl | exact .inr (.inl rfl) | exact .inr (.inr rfl))) ja_nil)) (ja_cons (je_mkx h x_LimitExceeded (by decide +kernel) (by rfl) T.g_LimitExceeded T.m_super (ja_cons (je_var (i := 0) (by rfl) (by first | exact .inl rfl | exact .inr (.inl rfl) | exact .inr (.inr rfl))) ja_nil)) (ja_cons (je_mkx h x_UnknownName (by decide +kernel) (by rfl) T.g_UnknownName T.m_super (ja_cons (je_var (i := 0) (by rfl) (by first | exact .inl rfl | exact .inr (.inl rfl) | exact .inr (.inr rfl))) ja_nil)) (ja_cons (je_mkx h x_NotRight (by decide +kernel) (by rfl) T.g_NotRight T.m_super (ja_cons (je_var (i := 0) (by rfl) (by first | exact .inl rfl | exact .inr (.inl rfl) | exact .inr (.inr rfl))) (ja_cons (je_var (i := 1) (by rfl) (by first | exact .inl rfl | exact .inr (.inl rfl) | exact .inr (.inr rfl))) ja_nil))) ja_nil)))))))
    (jss_cons (js_ret (je_bin h.toOk1.toOk0 (je_var (i := 2) (by rfl) (by first | exact .inl rfl | exact .inr (.inl rfl) | exact .inr (.inr rfl))) (je_lst (ja_cons (je_mkx h x_NothingToUndo (by decide +kernel) (by rfl) T.g_NothingToUndo T.m_super (ja_cons (je_var (i := 0) (by rfl) (by first | exact .inl rfl | exact .inr (.inl rfl) | exact .inr (.inr rfl))) ja_nil)) ja_nil))))
    jss_nil))))
theorem d__law_named (T : Txt P w K mg G) (A : Around) (outer : List PySem.Env) (s : Shared) (H : Hp) (E : XK) (h : Ok (kxOf P w K mg base N__law_named "_law_named" (defScope s__law_named) (G.fa 33) cdv A outer s H E G prg k)) : JSs (kxOf P w K mg base N__law_named "_law_named" (defScope s__law_named) (G.fa 33) cdv A outer s H E G prg k) (defBody s__law_named) c__law_named := by
  obtain ⟨fI_InvalidCommand, x_InvalidCommand⟩ := T.x_InvalidCommand
  obtain ⟨fI_InvalidDevice, x_InvalidDevice⟩ := T.x_InvalidDevice
  obtain ⟨fI_InvalidEdit, x_InvalidEdit⟩ := T.x_InvalidEdit
  obtain ⟨fI_InvalidItem, x_InvalidItem⟩ := T.x_InvalidItem
  obtain ⟨fI_InvalidMove, x_InvalidMove⟩ := T.x_InvalidMove
  obtain ⟨fI_InvalidNumber, x_InvalidNumber⟩ := T.x_InvalidNumber
  obtain ⟨fI_InvalidState, x_InvalidState⟩ := T.x_InvalidState
  obtain ⟨fI_InvalidStep, x_InvalidStep⟩ := T.x_InvalidStep
  obtain ⟨fI_InvalidStock, x_InvalidStock⟩ := T.x_InvalidStock
  obtain ⟨fI_InvalidText, x_InvalidText⟩ := T.x_InvalidText
  obtain ⟨fI_LimitExceeded, x_LimitExceeded⟩ := T.x_LimitExceeded
  obtain ⟨fI_NotACrowd, x_NotACrowd⟩ := T.x_NotACrowd
  obtain ⟨fI_NotRight, x_NotRight⟩ := T.x_NotRight
  obtain ⟨fI_NothingToUndo, x_NothingToUndo⟩ := T.x_NothingToUndo
  obtain ⟨fI_UnknownName, x_UnknownName⟩ := T.x_UnknownName
  exact (jss_cons (js_set (i := 2) h.nd (by rfl) (by first | exact .inl rfl | exact .inr rfl) (.inl rfl) (je_lst (ja_cons (je_mkxK h x_InvalidItem (by decide +kernel) (by rfl) T.g_InvalidItem T.m_super (jk_cons (je_var (i := 0) (by rfl) (by first | exact .inl rfl | exact .inr (.inl rfl) | exact .inr (.inr rfl))) jk_nil)) (ja_cons (je_mkxK h x_NotACrowd (by decide +kernel) (by rfl) T.g_NotACrowd T.m_super (jk_cons (je_var (i := 1) (by rfl) (by first | exact .inl rfl | exact .inr (.inl rfl) | exact .inr (.inr rfl))) (jk_cons (je_var (i := 0) (by rfl) (by first | exact .inl rfl | exact .inr (.inl rfl) | exact .inr (.inr rfl))) jk_nil))) (ja_cons (je_mkxK h x_InvalidDevice (by decide +kernel) (by rfl) T.g_InvalidDevice T.m_super (jk_cons (je_var (i := 1) (by rfl) (by first | exact .inl rfl | exact .inr (.inl rfl) | exact .inr (.inr rfl))) (jk_cons (je_var (i := 0) (by rfl) (by first | exact .inl rfl | exact .inr (.inl rfl) | exact .inr (.inr rfl))) jk_nil))) ja_nil)))))
    (jss_cons (js_set (i := 2) h.nd (by rfl) (by first | exact .inl rfl | exact .inr rfl) (.inl rfl) (je_bin h.toOk1.toOk0 (je_var (i := 2) (by rfl) (by first | exact .inl rfl | exact .inr (.inl rfl) | exact .inr (.inr rfl))) (je_lst (ja_cons (je_mkxK h x_InvalidStep (by decide +kernel) (by rfl) T.g_InvalidStep T.m_super (jk_cons (je_var (i := 0) (by rfl) (by first | exact .inl rfl | exact .inr (.inl rfl) | exact .inr (.inr rfl))) jk_nil)) (ja_cons (je_mkxK h x_InvalidState (by decide +kernel) (by rfl) T.g_InvalidState T.m_super (jk_cons (je_var (i := 0) (by rfl) (by first | exact .inl rfl | exact .inr (.inl rfl) | exact .inr (.inr rfl))) jk_nil)) (ja_cons (je_mkxK h x_InvalidMove (by decide +kernel) (by rfl) T.g_InvalidMove T.m_super (jk_cons (je_var (i := 0) (by rfl) (by first | exact .inl rfl | exact .inr (.inl rfl) | exact .inr (.inr rfl))) jk_nil)) (ja_cons (je_mkxK h x_InvalidStock (by decide +kernel) (by rfl) T.g_InvalidStock T.m_super (jk_cons (je_var (i := 0) (by rfl) (by first | exact .inl rfl | exact .inr (.inl rfl) | exact .inr (.inr rfl))) jk_nil)) ja_nil)))))))
    (jss_cons (js_set (i := 2) h.nd (by rfl) (by first | exact .inl rfl | exact .inr rfl) (.inl rfl) (je_bin h.toOk1.toOk0 (je_var (i := 2) (by rfl) (by first | exact .inl rfl | exact .inr (.inl rfl) | exact .inr (.inr rfl))) (je_lst (ja_cons (je_mkxK h x_InvalidEdit (by decide +kernel) (by rfl) T.g_InvalidEdit T.m_super (jk_cons (je_var (i := 0) (by rfl) (by first | exact .inl rfl | exact .inr (.inl rfl) | exact .inr (.inr rfl))) jk_nil)) (ja_cons (je_mkxK h x_InvalidText (by decide +kernel) (by rfl) T.g_InvalidText T.m_super (jk_cons (je_var (i := 0) (by rfl) (by first | exact .inl rfl | exact .inr (.inl rfl) | exact .inr (.inr rfl))) jk_nil)) (ja_cons (je_mkxK h x_InvalidCommand (by decide +kernel) (by rfl) T.g_InvalidCommand T.m_super (jk_cons (je_var (i := 0) (by rfl) (by first | exact .inl rfl | exact .inr (.inl rfl) | exact .inr (.inr rfl))) jk_nil)) (ja_cons (je_mkxK h x_InvalidNumber (by decide +kernel) (by rfl) T.g_InvalidNumber T.m_super (jk_cons (je_var (i := 0) (by rfl) (by first | exact .inl rfl | exact .inr (.inl rfl) | exact .inr (.inr rfl))) jk_nil)) ja_nil)))))))
    (jss_cons (js_set (i := 2) h.nd (by rfl) (by first | exact .inl rfl | exact .inr rfl) (.inl rfl) (je_bin h.toOk1.toOk0 (je_var (i := 2) (by rfl) (by first | exact .inl rfl | exact .inr (.inl rfl) | exact .inr (.inr rfl))) (je_lst (ja_cons (je_mkxK h x_LimitExceeded (by decide +kernel) (by rfl) T.g_LimitExceeded T.m_super (jk_cons (je_var (i := 0) (by rfl) (by first | exact .inl rfl | exact .inr (.inl rfl) | exact .inr (.inr rfl))) jk_nil)) (ja_cons (je_mkxK h x_UnknownName (by decide +kernel) (by rfl) T.g_UnknownName T.m_super (jk_cons (je_var (i := 0) (by rfl) (by first | exact .inl rfl | exact .inr (.inl rfl) | exact .inr (.inr rfl))) jk_nil)) (ja_cons (je_mkxK h x_NotRight (by decide +kernel) (by rfl) T.g_NotRight T.m_super (jk_cons (je_var (i := 1) (by rfl) (by first | exact .inl rfl | exact .inr (.inl rfl) | exact .inr (.inr rfl))) (jk_cons (je_var (i := 0) (by rfl) (by first | exact .inl rfl | exact .inr (.inl rfl) | exact .inr (.inr rfl))) jk_nil))) ja_nil))))))
    (jss_cons (js_ret (je_bin h.toOk1.toOk0 (je_var (i := 2) (by rfl) (by first | exact .inl rfl | exact .inr (.inl rfl) | exact .inr (.inr rfl))) (je_lst (ja_cons (je_mkxK h x_NothingToUndo (by decide +kernel) (by rfl) T.g_NothingToUndo T.m_super (jk_cons (je_var (i := 0) (by rfl) (by first | exact .inl rfl | exact .inr (.inl rfl) | exact .inr (.inr rfl))) jk_nil)) ja_nil))))
    jss_nil)))))
theorem d__law_fields (T : Txt P w K mg G) (A : Around) (outer : List PySem.Env) (s : Shared) (H : Hp) (E : XK) (h : Ok (kxOf P w K mg base N__law_fields "_law_fields" (defScope s__law_fields) (G.fa 34) cdv A outer s H E G prg k)) : JSs (kxOf P w K mg base N__law_fields "_law_fields" (defScope s__law_fields) (G.fa 34) cdv A outer s H E G prg k) (defBody s__law_fields) c__law_fields := by
  exact (jss_cons (js_set (i := 1) h.nd (by rfl) (by first | exact .inl rfl | exact .inr rfl) (.inl rfl) (je_lst (ja_cons (je_lst (ja_cons (je_xfld T.xf (je_ix h.toOk1.toOk0 (je_var (i := 0) (by rfl) (by first | exact .inl rfl | exact .inr (.inl rfl) | exact .inr (.inr rfl))) je_int)) ja_nil)) (ja_cons (je_lst (ja_cons (je_xfld T.xf (je_ix h.toOk1.toOk0 (je_var (i := 0) (by rfl) (by first | exact .inl rfl | exact .inr (.inl rfl) | exact .inr (.inr rfl))) je_int)) (ja_cons (je_xfld T.xf (je_ix h.toOk1.toOk0 (je_var (i := 0) (by rfl) (by first | exact .inl rfl | exact .inr (.inl rfl) | exact .inr (.inr rfl))) je_int)) ja_nil))) (ja_cons (je_lst (ja_cons (je_xfld T.xf (je_ix h.toOk1.toOk0 (je_var (i := 0) (by rfl) (by first | exact .inl rfl | exact .inr (.inl rfl) | exact .inr (.inr rfl))) je_int)) (ja_cons (je_xfld T.xf (je_ix h.toOk1.toOk0 (je_var (i := 0) (by rfl) (by first | exact .inl rfl | exact .inr (.inl rfl) | exact .inr (.inr rfl))) je_int)) ja_nil))) (ja_cons (je_lst (ja_cons (je_xfld T.xf (je_ix h.toOk1.toOk0 (je_var (i := 0) (by rfl) (by first | exact .inl rfl | exact .inr (.inl rfl) | exact .inr (.inr rfl))) je_int)) ja_nil)) ja_nil))))))
    (jss_cons (js_set (i := 1) h.nd (by rfl) (by first | exact .inl rfl | exact .inr rfl) (.inl rfl) (je_bin h.toOk1.toOk0 (je_var (i := 1) (by rfl) (by first | exact .inl rfl | exact .inr (.inl rfl) | exact .inr (.inr rfl))) (je_lst (ja_cons (je_lst (ja_cons (je_xfld T.xf (je_ix h.toOk1.toOk0 (je_var (i := 0) (by rfl) (by first | exact .inl rfl | exact .inr (.inl rfl) | exact .inr (.inr rfl))) je_int)) ja_nil)) (ja_cons (je_lst (ja_cons (je_xfld T.xf (je_ix h.toOk1.toOk0 (je_var (i := 0) (by rfl) (by first | exact .inl rfl | exact .inr (.inl rfl) | exact .inr (.inr rfl))) je_int)) ja_nil)) (ja_cons (je_lst (ja_cons (je_xfld T.xf (je_ix h.toOk1.toOk0 (je_var (i := 0) (by rfl) (by first | exact .inl rfl | exact .inr (.inl rfl) | exact .inr (.inr rfl))) je_int)) ja_nil)) (ja_cons (je_lst (ja_cons (je_xfld T.xf (je_ix h.toOk1.toOk0 (je_var (i := 0) (by rfl) (by first | exact .inl rfl | exact .inr (.inl rfl) | exact .inr (.inr rfl))) je_int)) ja_nil)) (ja_cons (je_lst (ja_cons (je_xfld T.xf (je_ix h.toOk1.toOk0 (je_var (i := 0) (by rfl) (by first | exact .inl rfl | exact .inr (.inl rfl) | exact .inr (.inr rfl))) je_int)) ja_nil)) (ja_cons (je_lst (ja_cons (je_xfld T.xf (je_ix h.toOk1.toOk0 (je_var (i := 0) (by rfl) (by first | exact .inl rfl | exact .inr (.inl rfl) | exact .inr (.inr rfl))) je_int)) ja_nil)) ja_nil)))))))))
    (jss_cons (js_set (i := 1) h.nd (by rfl) (by first | exact .inl rfl | exact .inr rfl) (.inl rfl) (je_bin h.toOk1.toOk0 (je_var (i := 1) (by rfl) (by first | exact .inl rfl | exact .inr (.inl rfl) | exact .inr (.inr rfl))) (je_lst (ja_cons (je_lst (ja_cons (je_xfld T.xf (je_ix h.toOk1.toOk0 (je_var (i := 0) (by rfl) (by first | exact .inl rfl | exact .inr (.inl rfl) | exact .inr (.inr rfl))) je_int)) ja_nil)) (ja_cons (je_lst (ja_cons (je_xfld T.xf (je_ix h.toOk1.toOk0 (je_var (i := 0) (by rfl) (by first | exact .inl rfl | exact .inr (.inl rfl) | exact .inr (.inr rfl))) je_int)) ja_nil)) (ja_cons (je_lst (ja_cons (je_xfld T.xf (je_ix h.toOk1.toOk0 (je_var (i := 0) (by rfl) (by first | exact .inl rfl | exact .inr (.inl rfl) | exact .inr (.inr rfl))) je_int)) ja_nil)) (ja_cons (je_lst (ja_cons (je_xfld T.xf (je_ix h.toOk1.toOk0 (je_var (i := 0) (by rfl) (by first | exact .inl rfl | exact .inr (.inl rfl) | exact .inr (.inr rfl))) je_int)) (ja_cons (je_xfld T.xf (je_ix h.toOk1.toOk0 (je_var (i := 0) (by rfl) (by first | exact .inl rfl | exact .inr (.inl rfl) | exact .inr (.inr rfl))) je_int)) ja_nil))) ja_nil)))))))
    (jss_cons (js_ret (je_bin h.toOk1.toOk0 (je_var (i := 1) (by rfl) (by first | exact .inl rfl | exact .inr (.inl rfl) | exact .inr (.inr rfl))) (je_lst (ja_cons (je_lst (ja_cons (je_xfld T.xf (je_ix h.toOk1.toOk0 (je_var (i := 0) (by rfl) (by first | exact .inl rfl | exact .inr (.inl rfl) | exact .inr (.inr rfl))) je_int)) ja_nil)) ja_nil))))
    jss_nil))))
theorem d__law_kinds (T : Txt P w K mg G) (A : Around) (outer : List PySem.Env) (s : Shared) (H : Hp) (E : XK) (h : Ok (kxOf P w K mg base N__law_kinds "_law_kinds" (defScope s__law_kinds) (G.fa 35) cdv A outer s H E G prg k)) : JSs (kxOf P w K mg base N__law_kinds "_law_kinds" (defScope s__law_kinds) (G.fa 35) cdv A outer s H E G prg k) (defBody s__law_kinds) c__law_kinds := by
  exact (jss_cons (js_set (i := 1) h.nd (by rfl) (by first | exact .inl rfl | exact .inr rfl) (.inl rfl) (je_lst (ja_cons (je_isx (cu := .ref (G.cl 5)) (.own _) T.kx_InvalidItem (je_var (i := 0) (by rfl) (by first | exact .inl rfl | exact .inr (.inl rfl) | exact .inr (.inr rfl))) (pe_glob (by rfl) T.g_InvalidItem (by rfl)) (by rfl) T.m_isinstance) (ja_cons (je_isx (cu := .ref (G.cl 6)) (.own _) T.kx_NotACrowd (je_var (i := 0) (by rfl) (by first | exact .inl rfl | exact .inr (.inl rfl) | exact .inr (.inr rfl))) (pe_glob (by rfl) T.g_NotACrowd (by rfl)) (by rfl) T.m_isinstance) (ja_cons (je_isx (cu := .ref (G.cl 7)) (.own _) T.kx_InvalidDevice (je_var (i := 0) (by rfl) (by first | exact .inl rfl | exact .inr (.inl rfl) | exact .inr (.inr rfl))) (pe_glob (by rfl) T.g_InvalidDevice (by rfl)) (by rfl) T.m_isinstance) ja_nil)))))
    (jss_cons (js_set (i := 1) h.nd (by rfl) (by first | exact .inl rfl | exact .inr rfl) (.inl rfl) (je_bin h.toOk1.toOk0 (je_var (i := 1) (by rfl) (by first | exact .inl rfl | exact .inr (.inl rfl) | exact .inr (.inr rfl))) (je_lst (ja_cons (je_isx (cu := .ref (G.cl 1)) (.own _) T.kx_InvalidStep (je_var (i := 0) (by rfl) (by first | exact .inl rfl | exact .inr (.inl rfl) | exact .inr (.inr rfl))) (pe_glob (by rfl) T.g_InvalidStep (by rfl)) (by rfl) T.m_isinstance) (ja_cons (je_isx (cu := .ref (G.cl 9)) (.own _) T.kx_InvalidState (je_var (i := 0) (by rfl) (by first | exact .inl rfl | exact .inr (.inl rfl) | exact .inr (.inr rfl))) (pe_glob (by rfl) T.g_InvalidState (by rfl)) (by rfl) T.m_isinstance) (ja_cons (je_isx (cu := .ref (G.cl 10)) (.own _) T.kx_InvalidMove (je_var (i := 0) (by rfl) (by first | exact .inl rfl | exact .inr (.inl rfl) | exact .inr (.inr rfl))) (pe_glob (by rfl) T.g_InvalidMove (by rfl)) (by rfl) T.m_isinstance) ja_nil))))))
    (jss_cons (js_set (i := 1) h.nd (by rfl) (by first | exact .inl rfl | exact .inr rfl) (.inl rfl) (je_bin h.toOk1.toOk0 (je_var (i := 1) (by rfl) (by first | exact .inl rfl | exact .inr (.inl rfl) | exact .inr (.inr rfl))) (je_lst (ja_cons (je_isx (cu := .ref (G.cl 8)) (.own _) T.kx_InvalidStock (je_var (i := 0) (by rfl) (by first | exact .inl rfl | exact .inr (.inl rfl) | exact .inr (.inr rfl))) (pe_glob (by rfl) T.g_InvalidStock (by rfl)) (by rfl) T.m_isinstance) (ja_cons (je_isx (cu := .ref (G.cl 12)) (.own _) T.kx_InvalidEdit (je_var (i := 0) (by rfl) (by first | exact .inl rfl | exact .inr (.inl rfl) | exact .inr (.inr rfl))) (pe_glob (by rfl) T.g_InvalidEdit (by rfl)) (by rfl) T.m_isinstance) (ja_cons (je_isx (cu := .ref (G.cl 13)) (.own _) T.kx_InvalidText (je_var (i := 0) (by rfl) (by first | exact .inl rfl | exact .inr (.inl rfl) | exact .inr (.inr rfl))) (pe_glob (by rfl) T.g_InvalidText (by rfl)) (by rfl) T.m_isinstance) ja_nil))))))
    (jss_cons (js_set (i := 1) h.nd (by rfl) (by first | exact .inl rfl | exact .inr rfl) (.inl rfl) (je_bin h.toOk1.toOk0 (je_var (i := 1) (by rfl) (by first | exact .inl rfl | exact .inr (.inl rfl) | exact .inr (.inr rfl))) (je_lst (ja_cons (je_isx (cu := .ref (G.cl 14)) (.own _) T.kx_InvalidCommand (je_var (i := 0) (by rfl) (by first | exact .inl rfl | exact .inr (.inl rfl) | exact .inr (.inr rfl))) (pe_glob (by rfl) T.g_InvalidCommand (by rfl)) (by rfl) T.m_isinstance) (ja_cons (je_isx (cu := .ref (G.cl 2)) (.own _) T.kx_InvalidNumber (je_var (i := 0) (by rfl) (by first | exact .inl rfl | exact .inr (.inl rfl) | exact .inr (.inr rfl))) (pe_glob (by rfl) T.g_InvalidNumber (by rfl)) (by rfl) T.m_isinstance) (ja_cons (je_isx (cu := .ref (G.cl 11)) (.own _) T.kx_LimitExceeded (je_var (i := 0) (by rfl) (by first | exact .inl rfl | exact .inr (.inl rfl) | exact .inr (.inr rfl))) (pe_glob (by rfl) T.g_LimitExceeded (by rfl)) (by rfl) T.m_isinstance) ja_nil))))))
    (jss_cons (js_ret (je_bin h.toOk1.toOk0 (je_var (i := 1) (by rfl) (by first | exact .inl rfl | exact .inr (.inl rfl) | exact .inr (.inr rfl))) (je_lst (ja_cons (je_isx (cu := .ref (G.cl 3)) (.own _) T.kx_UnknownName (je_var (i := 0) (by rfl) (by first | exact .inl rfl | exact .inr (.inl rfl) | exact .inr (.inr rfl))) (pe_glob (by rfl) T.g_UnknownName (by rfl)) (by rfl) T.m_isinstance) (ja_cons (je_isx (cu := .ref (G.cl 15)) (.own _) T.kx_NotRight (je_var (i := 0) (by rfl) (by first | exact .inl rfl | exact .inr (.inl rfl) | exact .inr (.inr rfl))) (pe_glob (by rfl) T.g_NotRight (by rfl)) (by rfl) T.m_isinstance) (ja_cons (je_isx (cu := .ref (G.cl 16)) (.own _) T.kx_NothingToUndo (je_var (i := 0) (by rfl) (by first | exact .inl rfl | exact .inr (.inl rfl) | exact .inr (.inr rfl))) (pe_glob (by rfl) T.g_NothingToUndo (by rfl)) (by rfl) T.m_isinstance) ja_nil))))))
    jss_nil)))))
theorem d__law_bases (T : Txt P w K mg G) (A : Around) (outer : List PySem.Env) (s : Shared) (H : Hp) (E : XK) (h : Ok (kxOf P w K mg base N__law_bases "_law_bases" (defScope s__law_bases) (G.fa 36) cdv A outer s H E G prg k)) : JSs (kxOf P w K mg base N__law_bases "_law_bases" (defScope s__law_bases) (G.fa 36) cdv A outer s H E G prg k) (defBody s__law_bases) c__law_bases := by
  exact (jss_cons (js_set (i := 1) h.nd (by rfl) (by first | exact .inl rfl | exact .inr rfl) (.inl rfl) (je_lst (ja_cons (je_isx (cu := .ref (G.cl 0)) (.own _) T.kx_DownError (je_var (i := 0) (by rfl) (by first | exact .inl rfl | exact .inr (.inl rfl) | exact .inr (.inr rfl))) (pe_glob (by rfl) T.g_DownError (by rfl)) (by rfl) T.m_isinstance) (ja_cons (je_isx (.ty "ValueError") T.kx_ValueError (je_var (i := 0) (by rfl) (by first | exact .inl rfl | exact .inr (.inl rfl) | exact .inr (.inr rfl))) (pe_bltn (u := .type "ValueError") (by rfl) T.m_ValueError (by decide +kernel) (by rfl)) (by rfl) T.m_isinstance) (ja_cons (je_isx (.ty "OverflowError") T.kx_OverflowError (je_var (i := 0) (by rfl) (by first | exact .inl rfl | exact .inr (.inl rfl) | exact .inr (.inr rfl))) (pe_bltn (u := .type "OverflowError") (by rfl) T.m_OverflowError (by decide +kernel) (by rfl)) (by rfl) T.m_isinstance) ja_nil)))))
    (jss_cons (js_ret (je_bin h.toOk1.toOk0 (je_var (i := 1) (by rfl) (by first | exact .inl rfl | exact .inr (.inl rfl) | exact .inr (.inr rfl))) (je_lst (ja_cons (je_isx (.ty "LookupError") T.kx_LookupError (je_var (i := 0) (by rfl) (by first | exact .inl rfl | exact .inr (.inl rfl) | exact .inr (.inr rfl))) (pe_bltn (u := .type "LookupError") (by rfl) T.m_LookupError (by decide +kernel) (by rfl)) (by rfl) T.m_isinstance) (ja_cons (je_isx (.ty "RuntimeError") T.kx_RuntimeError (je_var (i := 0) (by rfl) (by first | exact .inl rfl | exact .inr (.inl rfl) | exact .inr (.inr rfl))) (pe_bltn (u := .type "RuntimeError") (by rfl) T.m_RuntimeError (by decide +kernel) (by rfl)) (by rfl) T.m_isinstance) (ja_cons (je_isx (.ty "KeyError") T.kx_KeyError (je_var (i := 0) (by rfl) (by first | exact .inl rfl | exact .inr (.inl rfl) | exact .inr (.inr rfl))) (pe_bltn (u := .type "KeyError") (by rfl) T.m_KeyError (by decide +kernel) (by rfl)) (by rfl) T.m_isinstance) ja_nil))))))
    jss_nil))
theorem d_law (T : Txt P w K mg G) (A : Around) (outer : List PySem.Env) (s : Shared) (H : Hp) (E : XK) (h : Ok (kxOf P w K mg base N_law "law" (defScope s_law) (G.fa 30) cdv A outer s H E G prg k)) : JSs (kxOf P w K mg base N_law "law" (defScope s_law) (G.fa 30) cdv A outer s H E G prg k) (defBody s_law) c_law := by
  obtain ⟨fI_InvalidStep, x_InvalidStep⟩ := T.x_InvalidStep
  obtain ⟨fI_NotRight, x_NotRight⟩ := T.x_NotRight
  exact (jss_cons (js_for h (ji_enm h.toOk1.toOk0 (by rfl) T.m_enumerate (je_bin h.toOk1.toOk0 (je_sl h.toOk1.toOk0 (je_var (i := 0) (by rfl) (by first | exact .inl rfl | exact .inr (.inl rfl) | exact .inr (.inr rfl))) jo_none (jo_some je_int)) (je_bin h.toOk1.toOk0 (je_lst (ja_cons je_int ja_nil)) (je_bltT (call_int_ok) (by rfl) T.m_int (by decide +kernel) (ja_cons (je_cmp h.toOk1.toOk0 (je_var (i := 0) (by rfl) (by first | exact .inl rfl | exact .inr (.inl rfl) | exact .inr (.inr rfl))) (je_lst ja_nil)) ja_nil))))) (jg_tup h.toOk1.toOk0 h.calm (jgs_cons (jg_name h.nd (by rfl) (by first | exact .inl rfl | exact .inr rfl) (by first | exact .inl rfl | exact .inr rfl)) (jgs_cons (jg_name h.nd (by rfl) (by first | exact .inl rfl | exact .inr rfl) (by first | exact .inl rfl | exact .inr rfl)) jgs_nil))) (jss_cons (js_asg (g := .name 0) (je_call (cal_fn h T.k__law_numbers) (by rfl) T.g__law_numbers (ja_cons (je_var (i := 2) (by rfl) (by first | exact .inl rfl | exact .inr (.inl rfl) | exact .inr (.inr rfl))) (ja_cons (je_bin h.toOk1.toOk0 je_int (je_var (i := 1) (by rfl) (by first | exact .inl rfl | exact .inr (.inl rfl) | exact .inr (.inr rfl)))) (ja_cons (je_lst (ja_cons je_int (ja_cons (je_bin h.toOk1.toOk0 je_int je_int) (ja_cons (je_bin h.toOk1.toOk0 je_int je_int) ja_nil)))) ja_nil)))) (jg_tup h.toOk1.toOk0 h.calm (jgs_cons (jg_name h.nd (by rfl) (by first | exact .inl rfl | exact .inr rfl) (by first | exact .inl rfl | exact .inr rfl)) (jgs_cons (jg_name h.nd (by rfl) (by first | exact .inl rfl | exact .inr rfl) (by first | exact .inl rfl | exact .inr rfl)) (jgs_cons (jg_name h.nd (by rfl) (by first | exact .inl rfl | exact .inr rfl) (by first | exact .inl rfl | exact .inr rfl)) jgs_nil)))))
    (jss_cons (js_set (i := 6) h.nd (by rfl) (by first | exact .inl rfl | exact .inr rfl) (.inl rfl) (je_ix h.toOk1.toOk0 (je_lst (ja_cons je_non (ja_cons je_bl (ja_cons je_str (ja_cons je_str (ja_cons (je_tup (ja_cons (je_var (i := 4) (by rfl) (by first | exact .inl rfl | exact .inr (.inl rfl) | exact .inr (.inr rfl))) (ja_cons je_str ja_nil))) (ja_cons (je_neg h.toOk1.toOk0 (je_var (i := 4) (by rfl) (by first | exact .inl rfl | exact .inr (.inl rfl) | exact .inr (.inr rfl)))) (ja_cons (je_lst (ja_cons je_int ja_nil)) (ja_cons (je_var (i := 4) (by rfl) (by first | exact .inl rfl | exact .inr (.inl rfl) | exact .inr (.inr rfl))) ja_nil))))))))) (je_var (i := 3) (by rfl) (by first | exact .inl rfl | exact .inr (.inl rfl) | exact .inr (.inr rfl)))))
    (jss_cons (js_set (i := 7) h.nd (by rfl) (by first | exact .inl rfl | exact .inr rfl) (.inl rfl) (je_ix h.toOk1.toOk0 (je_lst (ja_cons (je_var (i := 5) (by rfl) (by first | exact .inl rfl | exact .inr (.inl rfl) | exact .inr (.inr rfl))) (ja_cons (je_tup (ja_cons (je_var (i := 5) (by rfl) (by first | exact .inl rfl | exact .inr (.inl rfl) | exact .inr (.inr rfl))) ja_nil)) (ja_cons je_str (ja_cons je_non (ja_cons je_bl (ja_cons (je_bin h.toOk1.toOk0 (je_neg h.toOk1.toOk0 je_int) (je_var (i := 5) (by rfl) (by first | exact .inl rfl | exact .inr (.inl rfl) | exact .inr (.inr rfl)))) (ja_cons (je_lst ja_nil) (ja_cons je_dict0 ja_nil))))))))) (je_bin h.toOk1.toOk0 (je_bltT (call_int_ok) (by rfl) T.m_int (by decide +kernel) (ja_cons (je_var (i := 4) (by rfl) (by first | exact .inl rfl | exact .inr (.inl rfl) | exact .inr (.inr rfl))) ja_nil)) je_int)))
    (jss_cons (js_set (i := 8) h.nd (by rfl) (by first | exact .inl rfl | exact .inr rfl) (.inl rfl) (je_bin h.toOk1.toOk0 (je_bin h.toOk1.toOk0 (je_lst (ja_cons (je_lst (ja_cons (je_var (i := 6) (by rfl) (by first | exact .inl rfl | exact .inr (.inl rfl) | exact .inr (.inr rfl))) ja_nil)) (ja_cons (je_lst (ja_cons (je_var (i := 6) (by rfl) (by first | exact .inl rfl | exact .inr (.inl rfl) | exact .inr (.inr rfl))) (ja_cons (je_var (i := 7) (by rfl) (by first | exact .inl rfl | exact .inr (.inl rfl) | exact .inr (.inr rfl))) ja_nil))) (ja_cons (je_lst (ja_cons (je_var (i := 6) (by rfl) (by first | exact .inl rfl | exact .inr (.inl rfl) | exact .inr (.inr rfl))) (ja_cons (je_var (i := 7) (by rfl) (by first | exact .inl rfl | exact .inr (.inl rfl) | exact .inr (.inr rfl))) ja_nil))) ja_nil)))) (je_bin h.toOk1.toOk0 (je_lst (ja_cons (je_lst (ja_cons (je_var (i := 6) (by rfl) (by first | exact .inl rfl | exact .inr (.inl rfl) | exact .inr (.inr rfl))) ja_nil)) ja_nil)) je_int)) (je_lst (ja_cons (je_lst (ja_cons (je_var (i := 6) (by rfl) (by first | exact .inl rfl | exact .inr (.inl rfl) | exact .inr (.inr rfl))) (ja_cons (je_var (i := 7) (by rfl) (by first | exact .inl rfl | exact .inr (.inl rfl) | exact .inr (.inr rfl))) ja_nil))) (ja_cons (je_lst (ja_cons (je_var (i := 6) (by rfl) (by first | exact .inl rfl | exact .inr (.inl rfl) | exact .inr (.inr rfl))) ja_nil)) ja_nil)))))
    (jss_cons (js_for h (ji_seq h.toOk1.toOk0 (je_lst (ja_cons (je_call (cal_fn h T.k__law_made) (by rfl) T.g__law_made (ja_cons (je_var (i := 6) (by rfl) (by first | exact .inl rfl | exact .inr (.inl rfl) | exact .inr (.inr rfl))) (ja_cons (je_var (i := 7) (by rfl) (by first | exact .inl rfl | exact .inr (.inl rfl) | exact .inr (.inr rfl))) ja_nil))) (ja_cons (je_call (cal_fn h T.k__law_named) (by rfl) T.g__law_named (ja_cons (je_var (i := 6) (by rfl) (by first | exact .inl rfl | exact .inr (.inl rfl) | exact .inr (.inr rfl))) (ja_cons (je_var (i := 7) (by rfl) (by first | exact .inl rfl | exact .inr (.inl rfl) | exact .inr (.inr rfl))) ja_nil))) ja_nil)))) (jg_name h.nd (by rfl) (by first | exact .inl rfl | exact .inr rfl) (by first | exact .inl rfl | exact .inr rfl)) (jss_cons (js_if (jt_cmp h.toOk1.toOk0 (je_bltB (call_repr_ok h.toOk1.toOk0 rfl) (by rfl) T.m_repr (by decide +kernel) (ja_cons (je_call (cal_fn h T.k__law_fields) (by rfl) T.g__law_fields (ja_cons (je_var (i := 9) (by rfl) (by first | exact .inl rfl | exact .inr (.inl rfl) | exact .inr (.inr rfl))) ja_nil)) ja_nil)) (je_bltB (call_repr_ok h.toOk1.toOk0 rfl) (by rfl) T.m_repr (by decide +kernel) (ja_cons (je_var (i := 8) (by rfl) (by first | exact .inl rfl | exact .inr (.inl rfl) | exact .inr (.inr rfl))) ja_nil))) (jss_cons (js_ret je_bl)
    jss_nil) jss_nil)
    (jss_cons (js_for h (ji_enm h.toOk1.toOk0 (by rfl) T.m_enumerate (je_var (i := 9) (by rfl) (by first | exact .inl rfl | exact .inr (.inl rfl) | exact .inr (.inr rfl)))) (jg_tup h.toOk1.toOk0 h.calm (jgs_cons (jg_name h.nd (by rfl) (by first | exact .inl rfl | exact .inr rfl) (by first | exact .inl rfl | exact .inr rfl)) (jgs_cons (jg_name h.nd (by rfl) (by first | exact .inl rfl | exact .inr rfl) (by first | exact .inl rfl | exact .inr rfl)) jgs_nil))) (jss_cons (js_if (jt_cmp h.toOk1.toOk0 (je_call (cal_fn h T.k__law_kinds) (by rfl) T.g__law_kinds (ja_cons (je_var (i := 11) (by rfl) (by first | exact .inl rfl | exact .inr (.inl rfl) | exact .inr (.inr rfl))) ja_nil)) (je_lc (own := [("_law_other_at", 12)]) h (ji_rng (by rfl) T.m_range je_int) (blkOk_by (N := N_law) (sc := defScope s_law) (by decide +kernel)) (by rfl) (fun _ _ _ _ _ => (jg_name h.nd (by rfl) (by first | exact .inl rfl | exact .inr rfl) (by first | exact .inl rfl | exact .inr rfl))) (fun _ _ _ _ _ => jts_nil) (fun _ _ _ _ _ => (je_cmp (h.blk _ _ _ _ _).toOk1.toOk0 (je_var (i := 12) (by rfl) (by first | exact .inl rfl | exact .inr (.inl rfl) | exact .inr (.inr rfl))) (je_var (i := 10) (by rfl) (by first | exact .inl rfl | exact .inr (.inl rfl) | exact .inr (.inr rfl))))))) (jss_cons (js_ret je_bl)
    jss_nil) jss_nil)
    (jss_cons (js_if (jt_cmp h.toOk1.toOk0 (je_call (cal_fn h T.k__law_bases) (by rfl) T.g__law_bases (ja_cons (je_var (i := 11) (by rfl) (by first | exact .inl rfl | exact .inr (.inl rfl) | exact .inr (.inr rfl))) ja_nil)) (je_lst (ja_cons (je_cmp h.toOk1.toOk0 (je_var (i := 10) (by rfl) (by first | exact .inl rfl | exact .inr (.inl rfl) | exact .inr (.inr rfl))) je_int) (ja_cons (je_cmp h.toOk1.toOk0 (je_var (i := 10) (by rfl) (by first | exact .inl rfl | exact .inr (.inl rfl) | exact .inr (.inr rfl))) je_int) (ja_cons (je_cmp h.toOk1.toOk0 (je_var (i := 10) (by rfl) (by first | exact .inl rfl | exact .inr (.inl rfl) | exact .inr (.inr rfl))) je_int) (ja_cons (je_cmp h.toOk1.toOk0 (je_var (i := 10) (by rfl) (by first | exact .inl rfl | exact .inr (.inl rfl) | exact .inr (.inr rfl))) je_int) (ja_cons (je_cmp h.toOk1.toOk0 (je_var (i := 10) (by rfl) (by first | exact .inl rfl | exact .inr (.inl rfl) | exact .inr (.inr rfl))) (je_lst (ja_cons je_int (ja_cons je_int ja_nil)))) (ja_cons je_bl ja_nil)))))))) (jss_cons (js_ret je_bl)
    jss_nil) jss_nil)
    jss_nil)))
    jss_nil)))
    jss_nil))))))
    (jss_cons (js_ret (je_and (je_isx (.ty "Exception") T.kx_Exception (je_mkx h x_InvalidStep (by decide +kernel) (by rfl) T.g_InvalidStep T.m_super (ja_cons je_int ja_nil)) (pe_bltn (u := .type "Exception") (by rfl) T.m_Exception (by decide +kernel) (by rfl)) (by rfl) T.m_isinstance) (je_one (je_isx (.ty "Exception") T.kx_Exception (je_mkx h x_NotRight (by decide +kernel) (by rfl) T.g_NotRight T.m_super (ja_cons je_non (ja_cons je_non ja_nil))) (pe_bltn (u := .type "Exception") (by rfl) T.m_Exception (by decide +kernel) (by rfl)) (by rfl) T.m_isinstance))))
    jss_nil))
end
abbrev x_InvalidCommand : Stmt := (C8.clsBody (top 11)).getD 0 (.Pass ⟨0, 0, 0, 0⟩)
abbrev x_InvalidDevice : Stmt := (C8.clsBody (top 4)).getD 0 (.Pass ⟨0, 0, 0, 0⟩)
abbrev x_InvalidEdit : Stmt := (C8.clsBody (top 9)).getD 0 (.Pass ⟨0, 0, 0, 0⟩)
abbrev x_InvalidItem : Stmt := (C8.clsBody (top 2)).getD 0 (.Pass ⟨0, 0, 0, 0⟩)
abbrev x_InvalidMove : Stmt := (C8.clsBody (top 7)).getD 0 (.Pass ⟨0, 0, 0, 0⟩)
abbrev x_InvalidNumber : Stmt := (C8.clsBody (top 12)).getD 0 (.Pass ⟨0, 0, 0, 0⟩)
abbrev x_InvalidState : Stmt := (C8.clsBody (top 6)).getD 0 (.Pass ⟨0, 0, 0, 0⟩)
abbrev x_InvalidStep : Stmt := (C8.clsBody (top 5)).getD 0 (.Pass ⟨0, 0, 0, 0⟩)
abbrev x_InvalidStock : Stmt := (C8.clsBody (top 8)).getD 0 (.Pass ⟨0, 0, 0, 0⟩)
abbrev x_InvalidText : Stmt := (C8.clsBody (top 10)).getD 0 (.Pass ⟨0, 0, 0, 0⟩)
abbrev x_LimitExceeded : Stmt := (C8.clsBody (top 13)).getD 0 (.Pass ⟨0, 0, 0, 0⟩)
abbrev x_NotACrowd : Stmt := (C8.clsBody (top 3)).getD 0 (.Pass ⟨0, 0, 0, 0⟩)
abbrev x_NotRight : Stmt := (C8.clsBody (top 15)).getD 0 (.Pass ⟨0, 0, 0, 0⟩)
abbrev x_NothingToUndo : Stmt := (C8.clsBody (top 16)).getD 0 (.Pass ⟨0, 0, 0, 0⟩)
abbrev x_UnknownName : Stmt := (C8.clsBody (top 14)).getD 0 (.Pass ⟨0, 0, 0, 0⟩)
end LW
set_option Elab.async false
set_option linter.all false
set_option maxRecDepth 100000
set_option maxHeartbeats 8000000
namespace LW
open PySem L2 TD
theorem sc__law_numbers : FnScope N__law_numbers ["_law_cell", "_law_salt", "_law_sizes"] (defScope s__law_numbers) := ⟨rfl, rfl, rfl, by decide +kernel, rfl, by decide +kernel, by decide +kernel⟩
theorem sc__law_made : FnScope N__law_made ["_law_one", "_law_two"] (defScope s__law_made) := ⟨rfl, rfl, rfl, by decide +kernel, rfl, by decide +kernel, by decide +kernel⟩
theorem sc__law_named : FnScope N__law_named ["_law_one", "_law_two"] (defScope s__law_named) := ⟨rfl, rfl, rfl, by decide +kernel, rfl, by decide +kernel, by decide +kernel⟩
theorem sc__law_fields : FnScope N__law_fields ["_law_some"] (defScope s__law_fields) := ⟨rfl, rfl, rfl, by decide +kernel, rfl, by decide +kernel, by decide +kernel⟩
theorem sc__law_kinds : FnScope N__law_kinds ["_law_e"] (defScope s__law_kinds) := ⟨rfl, rfl, rfl, by decide +kernel, rfl, by decide +kernel, by decide +kernel⟩
theorem sc__law_bases : FnScope N__law_bases ["_law_e"] (defScope s__law_bases) := ⟨rfl, rfl, rfl, by decide +kernel, rfl, by decide +kernel, by decide +kernel⟩
theorem sc_law : FnScope N_law ["_law_script"] (defScope s_law) := ⟨rfl, rfl, rfl, by decide +kernel, rfl, by decide +kernel, by decide +kernel⟩
theorem all_mk {w : World} {K : PySem.W.Frag} {h : Heap} {mg : Str → Option Value} {fa : Addr} (X : K.In h) (Gn : h.Ns mainGlobals mg) (hfa : mg "law" = some (.ref fa)) {C5 : Addr} {C6 : Addr} {C7 : Addr} {C1 : Addr} {C9 : Addr} {C10 : Addr} {C8 : Addr} {C12 : Addr} {C13 : Addr} {C14 : Addr} {C2 : Addr} {C11 : Addr} {C3 : Addr} {C15 : Addr} {C16 : Addr} {C0 : Addr} {f25 : Addr} {od25 an25 : Option Addr} {sl25 : Array (Option Value)} {oc25 kV25 dc25 pm25 cd25 ct25 : Value} {f32 : Addr} {od32 an32 : Option Addr} {sl32 : Array (Option Value)} {oc32 kV32 dc32 pm32 cd32 ct32 : Value} {f33 : Addr} {od33 an33 : Option Addr} {sl33 : Array (Option Value)} {oc33 kV33 dc33 pm33 cd33 ct33 : Value} {f34 : Addr} {od34 an34 : Option Addr} {sl34 : Array (Option Value)} {oc34 kV34 dc34 pm34 cd34 ct34 : Value} {f35 : Addr} {od35 an35 : Option Addr} {sl35 : Array (Option Value)} {oc35 kV35 dc35 pm35 cd35 ct35 : Value} {f36 : Addr} {od36 an36 : Option Addr} {sl36 : Array (Option Value)} {oc36 kV36 dc36 pm36 cd36 ct36 : Value} {f30 : Addr} {od30 an30 : Option Addr} {sl30 : Array (Option Value)} {oc30 kV30 dc30 pm30 cd30 ct30 : Value} {fI14 cda14 cc14 : Addr} {xoc14 xdc14 xpm14 xct14 xcl14 ycl14 : Value} {xod14 xan14 xdd14 ydd14 : Option Addr} {xsl14 xcs14 ycs14 : Array (Option Value)} {xvs14 : Array Value} {xfile14 : Str} {xtf14 : Tok} {fI7 cda7 cc7 : Addr} {xoc7 xdc7 xpm7 xct7 xcl7 ycl7 : Value} {xod7 xan7 xdd7 ydd7 : Option Addr} {xsl7 xcs7 ycs7 : Array (Option Value)} {xvs7 : Array Value} {xfile7 : Str} {xtf7 : Tok} {fI12 cda12 cc12 : Addr} {xoc12 xdc12 xpm12 xct12 xcl12 ycl12 : Value} {xod12 xan12 xdd12 ydd12 : Option Addr} {xsl12 xcs12 ycs12 : Array (Option Value)} {xvs12 : Array Value} {xfile12 : Str} {xtf12 : Tok} {fI5 cda5 cc5 : Addr} {xoc5 xdc5 xpm5 xct5 xcl5 ycl5 : Value} {xod5 xan5 xdd5 ydd5 : Option Addr} {xsl5 xcs5 ycs5 : Array (Option Value)} {xvs5 : Array Value} {xfile5 : Str} {xtf5 : Tok} {fI10 cda10 cc10 : Addr} {xoc10 xdc10 xpm10 xct10 xcl10 ycl10 : Value} {xod10 xan10 xdd10 ydd10 : Option Addr} {xsl10 xcs10 ycs10 : Array (Option Value)} {xvs10 : Array Value} {xfile10 : Str} {xtf10 : Tok} {fI2 cda2 cc2 : Addr} {xoc2 xdc2 xpm2 xct2 xcl2 ycl2 : Value} {xod2 xan2 xdd2 ydd2 : Option Addr} {xsl2 xcs2 ycs2 : Array (Option Value)} {xvs2 : Array Value} {xfile2 : Str} {xtf2 : Tok} {fI9 cda9 cc9 : Addr} {xoc9 xdc9 xpm9 xct9 xcl9 ycl9 : Value} {xod9 xan9 xdd9 ydd9 : Option Addr} {xsl9 xcs9 ycs9 : Array (Option Value)} {xvs9 : Array Value} {xfile9 : Str} {xtf9 : Tok} {fI1 cda1 cc1 : Addr} {xoc1 xdc1 xpm1 xct1 xcl1 ycl1 : Value} {xod1 xan1 xdd1 ydd1 : Option Addr} {xsl1 xcs1 ycs1 : Array (Option Value)} {xvs1 : Array Value} {xfile1 : Str} {xtf1 : Tok} {fI8 cda8 cc8 : Addr} {xoc8 xdc8 xpm8 xct8 xcl8 ycl8 : Value} {xod8 xan8 xdd8 ydd8 : Option Addr} {xsl8 xcs8 ycs8 : Array (Option Value)} {xvs8 : Array Value} {xfile8 : Str} {xtf8 : Tok} {fI13 cda13 cc13 : Addr} {xoc13 xdc13 xpm13 xct13 xcl13 ycl13 : Value} {xod13 xan13 xdd13 ydd13 : Option Addr} {xsl13 xcs13 ycs13 : Array (Option Value)} {xvs13 : Array Value} {xfile13 : Str} {xtf13 : Tok} {fI11 cda11 cc11 : Addr} {xoc11 xdc11 xpm11 xct11 xcl11 ycl11 : Value} {xod11 xan11 xdd11 ydd11 : Option Addr} {xsl11 xcs11 ycs11 : Array (Option Value)} {xvs11 : Array Value} {xfile11 : Str} {xtf11 : Tok} {fI6 cda6 cc6 : Addr} {xoc6 xdc6 xpm6 xct6 xcl6 ycl6 : Value} {xod6 xan6 xdd6 ydd6 : Option Addr} {xsl6 xcs6 ycs6 : Array (Option Value)} {xvs6 : Array Value} {xfile6 : Str} {xtf6 : Tok} {fI15 cda15 cc15 : Addr} {xoc15 xdc15 xpm15 xct15 xcl15 ycl15 : Value} {xod15 xan15 xdd15 ydd15 : Option Addr} {xsl15 xcs15 ycs15 : Array (Option Value)} {xvs15 : Array Value} {xfile15 : Str} {xtf15 : Tok} {fI16 cda16 cc16 : Addr} {xoc16 xdc16 xpm16 xct16 xcl16 ycl16 : Value} {xod16 xan16 xdd16 ydd16 : Option Addr} {xsl16 xcs16 ycs16 : Array (Option Value)} {xvs16 : Array Value} {xfile16 : Str} {xtf16 : Tok} {fI3 cda3 cc3 : Addr} {xoc3 xdc3 xpm3 xct3 xcl3 ycl3 : Value} {xod3 xan3 xdd3 ydd3 : Option Addr} {xsl3 xcs3 ycs3 : Array (Option Value)} {xvs3 : Array Value} {xfile3 : Str} {xtf3 : Tok}
    (a25 : PySem.W.nsIn K mainGlobals "_law_numbers" = some (some (.ref f25)))
    (l25 : K.lookup f25 = some ⟨oc25, od25, .func (PySem.W.fnOf "_law_numbers" "_law_numbers" (defArgs s__law_numbers) (defBody s__law_numbers) (defScope s__law_numbers) .none kV25 dc25 pm25 an25 cd25 ct25), sl25⟩)
    (c25 : PySem.W.codeIn K cd25 "_law_numbers" = true)
    (k25 : PySem.W.keepIn K (.ref f25) = true)
    (a32 : PySem.W.nsIn K mainGlobals "_law_made" = some (some (.ref f32)))
    (l32 : K.lookup f32 = some ⟨oc32, od32, .func (PySem.W.fnOf "_law_made" "_law_made" (defArgs s__law_made) (defBody s__law_made) (defScope s__law_made) .none kV32 dc32 pm32 an32 cd32 ct32), sl32⟩)
    (c32 : PySem.W.codeIn K cd32 "_law_made" = true)
    (k32 : PySem.W.keepIn K (.ref f32) = true)
    (a33 : PySem.W.nsIn K mainGlobals "_law_named" = some (some (.ref f33)))
    (l33 : K.lookup f33 = some ⟨oc33, od33, .func (PySem.W.fnOf "_law_named" "_law_named" (defArgs s__law_named) (defBody s__law_named) (defScope s__law_named) .none kV33 dc33 pm33 an33 cd33 ct33), sl33⟩)
    (c33 : PySem.W.codeIn K cd33 "_law_named" = true)
    (k33 : PySem.W.keepIn K (.ref f33) = true)
    (a34 : PySem.W.nsIn K mainGlobals "_law_fields" = some (some (.ref f34)))
    (l34 : K.lookup f34 = some ⟨oc34, od34, .func (PySem.W.fnOf "_law_fields" "_law_fields" (defArgs s__law_fields) (defBody s__law_fields) (defScope s__law_fields) .none kV34 dc34 pm34 an34 cd34 ct34), sl34⟩)
    (c34 : PySem.W.codeIn K cd34 "_law_fields" = true)
    (k34 : PySem.W.keepIn K (.ref f34) = true)
    (a35 : PySem.W.nsIn K mainGlobals "_law_kinds" = some (some (.ref f35)))
    (l35 : K.lookup f35 = some ⟨oc35, od35, .func (PySem.W.fnOf "_law_kinds" "_law_kinds" (defArgs s__law_kinds) (defBody s__law_kinds) (defScope s__law_kinds) .none kV35 dc35 pm35 an35 cd35 ct35), sl35⟩)
    (c35 : PySem.W.codeIn K cd35 "_law_kinds" = true)
    (k35 : PySem.W.keepIn K (.ref f35) = true)
    (a36 : PySem.W.nsIn K mainGlobals "_law_bases" = some (some (.ref f36)))
    (l36 : K.lookup f36 = some ⟨oc36, od36, .func (PySem.W.fnOf "_law_bases" "_law_bases" (defArgs s__law_bases) (defBody s__law_bases) (defScope s__law_bases) .none kV36 dc36 pm36 an36 cd36 ct36), sl36⟩)
    (c36 : PySem.W.codeIn K cd36 "_law_bases" = true)
    (k36 : PySem.W.keepIn K (.ref f36) = true)
    (a30 : PySem.W.nsIn K mainGlobals "law" = some (some (.ref f30)))
    (l30 : K.lookup f30 = some ⟨oc30, od30, .func (PySem.W.fnOf "law" "law" (defArgs s_law) (defBody s_law) (defScope s_law) .none kV30 dc30 pm30 an30 cd30 ct30), sl30⟩)
    (c30 : PySem.W.codeIn K cd30 "law" = true)
    (k30 : PySem.W.keepIn K (.ref f30) = true)
    (oget : PySem.W.specialIn K (.builtin "object.__class__") "__get__" = some (some (.builtin "getset_descriptor.__get__")))
    (otk : PySem.W.takesIn K (.builtin "object.__class__") = some true)
    (kb_NoneType_bool : PySem.W.kitOne K (.type "NoneType") (.type "bool") = some false)
    (kb_NoneType_int : PySem.W.kitOne K (.type "NoneType") (.type "int") = some false)
    (kb_NoneType_str : PySem.W.kitOne K (.type "NoneType") (.type "str") = some false)
    (kb_NoneType_tuple : PySem.W.kitOne K (.type "NoneType") (.type "tuple") = some false)
    (kb_NoneType_list : PySem.W.kitOne K (.type "NoneType") (.type "list") = some false)
    (kb_NoneType_dict : PySem.W.kitOne K (.type "NoneType") (.type "dict") = some false)
    (kb_bool_bool : PySem.W.kitOne K (.type "bool") (.type "bool") = some true)
    (kb_bool_int : PySem.W.kitOne K (.type "bool") (.type "int") = some true)
    (kb_bool_str : PySem.W.kitOne K (.type "bool") (.type "str") = some false)
    (kb_bool_tuple : PySem.W.kitOne K (.type "bool") (.type "tuple") = some false)
    (kb_bool_list : PySem.W.kitOne K (.type "bool") (.type "list") = some false)
    (kb_bool_dict : PySem.W.kitOne K (.type "bool") (.type "dict") = some false)
    (kb_int_bool : PySem.W.kitOne K (.type "int") (.type "bool") = some false)
    (kb_int_int : PySem.W.kitOne K (.type "int") (.type "int") = some true)
    (kb_int_str : PySem.W.kitOne K (.type "int") (.type "str") = some false)
    (kb_int_tuple : PySem.W.kitOne K (.type "int") (.type "tuple") = some false)
    (kb_int_list : PySem.W.kitOne K (.type "int") (.type "list") = some false)
    (kb_int_dict : PySem.W.kitOne K (.type "int") (.type "dict") = some false)
    (kb_str_bool : PySem.W.kitOne K (.type "str") (.type "bool") = some false)
    (kb_str_int : PySem.W.kitOne K (.type "str") (.type "int") = some false)
    (kb_str_str : PySem.W.kitOne K (.type "str") (.type "str") = some true)
    (kb_str_tuple : PySem.W.kitOne K (.type "str") (.type "tuple") = some false)
    (kb_str_list : PySem.W.kitOne K (.type "str") (.type "list") = some false)
    (kb_str_dict : PySem.W.kitOne K (.type "str") (.type "dict") = some false)
    (kb_tuple_bool : PySem.W.kitOne K (.type "tuple") (.type "bool") = some false)
    (kb_tuple_int : PySem.W.kitOne K (.type "tuple") (.type "int") = some false)
    (kb_tuple_str : PySem.W.kitOne K (.type "tuple") (.type "str") = some false)
    (kb_tuple_tuple : PySem.W.kitOne K (.type "tuple") (.type "tuple") = some true)
    (kb_tuple_list : PySem.W.kitOne K (.type "tuple") (.type "list") = some false)
    (kb_tuple_dict : PySem.W.kitOne K (.type "tuple") (.type "dict") = some false)
    (kb_list_bool : PySem.W.kitOne K (.type "list") (.type "bool") = some false)
    (kb_list_int : PySem.W.kitOne K (.type "list") (.type "int") = some false)
    (kb_list_str : PySem.W.kitOne K (.type "list") (.type "str") = some false)
    (kb_list_tuple : PySem.W.kitOne K (.type "list") (.type "tuple") = some false)
    (kb_list_list : PySem.W.kitOne K (.type "list") (.type "list") = some true)
    (kb_list_dict : PySem.W.kitOne K (.type "list") (.type "dict") = some false)
    (kb_dict_bool : PySem.W.kitOne K (.type "dict") (.type "bool") = some false)
    (kb_dict_int : PySem.W.kitOne K (.type "dict") (.type "int") = some false)
    (kb_dict_str : PySem.W.kitOne K (.type "dict") (.type "str") = some false)
    (kb_dict_tuple : PySem.W.kitOne K (.type "dict") (.type "tuple") = some false)
    (kb_dict_list : PySem.W.kitOne K (.type "dict") (.type "list") = some false)
    (kb_dict_dict : PySem.W.kitOne K (.type "dict") (.type "dict") = some true)
    (z_Exception : PySem.W.nsIn K mainGlobals "Exception" = some none)
    (z_KeyError : PySem.W.nsIn K mainGlobals "KeyError" = some none)
    (z_LookupError : PySem.W.nsIn K mainGlobals "LookupError" = some none)
    (z_OverflowError : PySem.W.nsIn K mainGlobals "OverflowError" = some none)
    (z_RuntimeError : PySem.W.nsIn K mainGlobals "RuntimeError" = some none)
    (z_ValueError : PySem.W.nsIn K mainGlobals "ValueError" = some none)
    (z_enumerate : PySem.W.nsIn K mainGlobals "enumerate" = some none)
    (z_int : PySem.W.nsIn K mainGlobals "int" = some none)
    (z_isinstance : PySem.W.nsIn K mainGlobals "isinstance" = some none)
    (z_len : PySem.W.nsIn K mainGlobals "len" = some none)
    (z_max : PySem.W.nsIn K mainGlobals "max" = some none)
    (z_range : PySem.W.nsIn K mainGlobals "range" = some none)
    (z_repr : PySem.W.nsIn K mainGlobals "repr" = some none)
    (z_super : PySem.W.nsIn K mainGlobals "super" = some none)
    (aC14 : PySem.W.nsIn K mainGlobals "InvalidCommand" = some (some (.ref C14)))
    (xi14 : PySem.W.excInitIn K C14 [.type "Exception", .type "BaseException", .type "object"] "Exception.__new__" = true)
    (xo14 : PySem.W.excOver K C14 [.type "Exception", .type "BaseException", .type "object"] = true)
    (xsa14 : PySem.W.findIn K (.ref C14) "__setattr__" = some (some (.builtin "object.__setattr__")))
    (xii14 : PySem.W.findIn K (.ref C14) "__init__" = some (some (.ref fI14)))
    (xti14 : PySem.W.typeIn K (.ref fI14) = some (.type "function"))
    (xkp14 : PySem.W.keepIn K (.ref C14) = true)
    (xex14 : PySem.W.subIn K (.ref C14) (.type "BaseException") = some true)
    (xty14 : PySem.W.typeIn K (.ref C14) = some (.type "type"))
    (xhd14 : PySem.W.hasDictIn K C14 = true)
    (xnf14_0 : PySem.W.findIn K (.ref C14) "word" = some none)
    (xB14 : PySem.W.subIn K (.ref C14) (.type "Exception") = some true)
    (xsp14 : PySem.W.ks_superIn K C14 C14 "__init__" = some (some (.builtin "Exception.__init__")))
    (xsu14 : PySem.W.mroIn K C14 (.ref C14) = some true)
    (xl14 : K.lookup fI14 = some ⟨xoc14, xod14, .func (PySem.W.ksFn "__init__" "InvalidCommand.__init__" (defArgs x_InvalidCommand) (defBody x_InvalidCommand) (defScope x_InvalidCommand) .none .none xdc14 xpm14 xan14 (.ref cda14) xct14 cc14), xsl14⟩)
    (xc14 : PySem.W.codeIn K (.ref cda14) "InvalidCommand.__init__" = true)
    (xcl14_ : K.lookup cda14 = some ⟨xcl14, xdd14, .fields xvs14, xcs14⟩)
    (xv14 : xvs14[2]? = some (.str xfile14 xtf14))
    (xf14 : ((PySem.Challenge.pw_takendown_k01_error_classes.main.file : Str) == xfile14) = true)
    (xce14 : K.lookup cc14 = some ⟨ycl14, ydd14, .cell (some (.ref C14)), ycs14⟩)
    (xga14 : PySem.W.findIn K (.ref C14) "__getattribute__" = some (some (.builtin "BaseException.__getattribute__")))
    (xgg14 : PySem.W.findIn K (.ref C14) "__getattr__" = some none)
    (xhi14 : PySem.W.hasDictIn K C14 = true)
    (aC7 : PySem.W.nsIn K mainGlobals "InvalidDevice" = some (some (.ref C7)))
    (xi7 : PySem.W.excInitIn K C7 [.type "Exception", .type "BaseException", .type "object"] "Exception.__new__" = true)
    (xo7 : PySem.W.excOver K C7 [.type "Exception", .type "BaseException", .type "object"] = true)
    (xsa7 : PySem.W.findIn K (.ref C7) "__setattr__" = some (some (.builtin "object.__setattr__")))
    (xii7 : PySem.W.findIn K (.ref C7) "__init__" = some (some (.ref fI7)))
    (xti7 : PySem.W.typeIn K (.ref fI7) = some (.type "function"))
    (xkp7 : PySem.W.keepIn K (.ref C7) = true)
    (xex7 : PySem.W.subIn K (.ref C7) (.type "BaseException") = some true)
    (xty7 : PySem.W.typeIn K (.ref C7) = some (.type "type"))
    (xhd7 : PySem.W.hasDictIn K C7 = true)
    (xnf7_0 : PySem.W.findIn K (.ref C7) "part" = some none)
    (xnf7_1 : PySem.W.findIn K (.ref C7) "name" = some none)
    (xB7 : PySem.W.subIn K (.ref C7) (.type "Exception") = some true)
    (xsp7 : PySem.W.ks_superIn K C7 C7 "__init__" = some (some (.builtin "Exception.__init__")))
    (xsu7 : PySem.W.mroIn K C7 (.ref C7) = some true)
    (xl7 : K.lookup fI7 = some ⟨xoc7, xod7, .func (PySem.W.ksFn "__init__" "InvalidDevice.__init__" (defArgs x_InvalidDevice) (defBody x_InvalidDevice) (defScope x_InvalidDevice) .none .none xdc7 xpm7 xan7 (.ref cda7) xct7 cc7), xsl7⟩)
    (xc7 : PySem.W.codeIn K (.ref cda7) "InvalidDevice.__init__" = true)
    (xcl7_ : K.lookup cda7 = some ⟨xcl7, xdd7, .fields xvs7, xcs7⟩)
    (xv7 : xvs7[2]? = some (.str xfile7 xtf7))
    (xf7 : ((PySem.Challenge.pw_takendown_k01_error_classes.main.file : Str) == xfile7) = true)
    (xce7 : K.lookup cc7 = some ⟨ycl7, ydd7, .cell (some (.ref C7)), ycs7⟩)
    (xga7 : PySem.W.findIn K (.ref C7) "__getattribute__" = some (some (.builtin "BaseException.__getattribute__")))
    (xgg7 : PySem.W.findIn K (.ref C7) "__getattr__" = some none)
    (xhi7 : PySem.W.hasDictIn K C7 = true)
    (aC12 : PySem.W.nsIn K mainGlobals "InvalidEdit" = some (some (.ref C12)))
    (xi12 : PySem.W.excInitIn K C12 [.type "Exception", .type "BaseException", .type "object"] "Exception.__new__" = true)
    (xo12 : PySem.W.excOver K C12 [.type "Exception", .type "BaseException", .type "object"] = true)
    (xsa12 : PySem.W.findIn K (.ref C12) "__setattr__" = some (some (.builtin "object.__setattr__")))
    (xii12 : PySem.W.findIn K (.ref C12) "__init__" = some (some (.ref fI12)))
    (xti12 : PySem.W.typeIn K (.ref fI12) = some (.type "function"))
    (xkp12 : PySem.W.keepIn K (.ref C12) = true)
    (xex12 : PySem.W.subIn K (.ref C12) (.type "BaseException") = some true)
    (xty12 : PySem.W.typeIn K (.ref C12) = some (.type "type"))
    (xhd12 : PySem.W.hasDictIn K C12 = true)
    (xnf12_0 : PySem.W.findIn K (.ref C12) "edit" = some none)
    (xB12 : PySem.W.subIn K (.ref C12) (.type "Exception") = some true)
    (xsp12 : PySem.W.ks_superIn K C12 C12 "__init__" = some (some (.builtin "Exception.__init__")))
    (xsu12 : PySem.W.mroIn K C12 (.ref C12) = some true)
    (xl12 : K.lookup fI12 = some ⟨xoc12, xod12, .func (PySem.W.ksFn "__init__" "InvalidEdit.__init__" (defArgs x_InvalidEdit) (defBody x_InvalidEdit) (defScope x_InvalidEdit) .none .none xdc12 xpm12 xan12 (.ref cda12) xct12 cc12), xsl12⟩)
    (xc12 : PySem.W.codeIn K (.ref cda12) "InvalidEdit.__init__" = true)
    (xcl12_ : K.lookup cda12 = some ⟨xcl12, xdd12, .fields xvs12, xcs12⟩)
    (xv12 : xvs12[2]? = some (.str xfile12 xtf12))
    (xf12 : ((PySem.Challenge.pw_takendown_k01_error_classes.main.file : Str) == xfile12) = true)
    (xce12 : K.lookup cc12 = some ⟨ycl12, ydd12, .cell (some (.ref C12)), ycs12⟩)
    (xga12 : PySem.W.findIn K (.ref C12) "__getattribute__" = some (some (.builtin "BaseException.__getattribute__")))
    (xgg12 : PySem.W.findIn K (.ref C12) "__getattr__" = some none)
    (xhi12 : PySem.W.hasDictIn K C12 = true)
    (aC5 : PySem.W.nsIn K mainGlobals "InvalidItem" = some (some (.ref C5)))
    (xi5 : PySem.W.excInitIn K C5 [.type "Exception", .type "BaseException", .type "object"] "Exception.__new__" = true)
    (xo5 : PySem.W.excOver K C5 [.type "Exception", .type "BaseException", .type "object"] = true)
    (xsa5 : PySem.W.findIn K (.ref C5) "__setattr__" = some (some (.builtin "object.__setattr__")))
    (xii5 : PySem.W.findIn K (.ref C5) "__init__" = some (some (.ref fI5)))
    (xti5 : PySem.W.typeIn K (.ref fI5) = some (.type "function"))
    (xkp5 : PySem.W.keepIn K (.ref C5) = true)
    (xex5 : PySem.W.subIn K (.ref C5) (.type "BaseException") = some true)
    (xty5 : PySem.W.typeIn K (.ref C5) = some (.type "type"))
    (xhd5 : PySem.W.hasDictIn K C5 = true)
    (xnf5_0 : PySem.W.findIn K (.ref C5) "place" = some none)
    (xB5 : PySem.W.subIn K (.ref C5) (.type "Exception") = some true)
    (xsp5 : PySem.W.ks_superIn K C5 C5 "__init__" = some (some (.builtin "Exception.__init__")))
    (xsu5 : PySem.W.mroIn K C5 (.ref C5) = some true)
    (xl5 : K.lookup fI5 = some ⟨xoc5, xod5, .func (PySem.W.ksFn "__init__" "InvalidItem.__init__" (defArgs x_InvalidItem) (defBody x_InvalidItem) (defScope x_InvalidItem) .none .none xdc5 xpm5 xan5 (.ref cda5) xct5 cc5), xsl5⟩)
    (xc5 : PySem.W.codeIn K (.ref cda5) "InvalidItem.__init__" = true)
    (xcl5_ : K.lookup cda5 = some ⟨xcl5, xdd5, .fields xvs5, xcs5⟩)
    (xv5 : xvs5[2]? = some (.str xfile5 xtf5))
    (xf5 : ((PySem.Challenge.pw_takendown_k01_error_classes.main.file : Str) == xfile5) = true)
    (xce5 : K.lookup cc5 = some ⟨ycl5, ydd5, .cell (some (.ref C5)), ycs5⟩)
    (xga5 : PySem.W.findIn K (.ref C5) "__getattribute__" = some (some (.builtin "BaseException.__getattribute__")))
    (xgg5 : PySem.W.findIn K (.ref C5) "__getattr__" = some none)
    (xhi5 : PySem.W.hasDictIn K C5 = true)
    (aC10 : PySem.W.nsIn K mainGlobals "InvalidMove" = some (some (.ref C10)))
    (xi10 : PySem.W.excInitIn K C10 [.type "Exception", .type "BaseException", .type "object"] "Exception.__new__" = true)
    (xo10 : PySem.W.excOver K C10 [.type "Exception", .type "BaseException", .type "object"] = true)
    (xsa10 : PySem.W.findIn K (.ref C10) "__setattr__" = some (some (.builtin "object.__setattr__")))
    (xii10 : PySem.W.findIn K (.ref C10) "__init__" = some (some (.ref fI10)))
    (xti10 : PySem.W.typeIn K (.ref fI10) = some (.type "function"))
    (xkp10 : PySem.W.keepIn K (.ref C10) = true)
    (xex10 : PySem.W.subIn K (.ref C10) (.type "BaseException") = some true)
    (xty10 : PySem.W.typeIn K (.ref C10) = some (.type "type"))
    (xhd10 : PySem.W.hasDictIn K C10 = true)
    (xnf10_0 : PySem.W.findIn K (.ref C10) "move" = some none)
    (xB10 : PySem.W.subIn K (.ref C10) (.type "Exception") = some true)
    (xsp10 : PySem.W.ks_superIn K C10 C10 "__init__" = some (some (.builtin "Exception.__init__")))
    (xsu10 : PySem.W.mroIn K C10 (.ref C10) = some true)
    (xl10 : K.lookup fI10 = some ⟨xoc10, xod10, .func (PySem.W.ksFn "__init__" "InvalidMove.__init__" (defArgs x_InvalidMove) (defBody x_InvalidMove) (defScope x_InvalidMove) .none .none xdc10 xpm10 xan10 (.ref cda10) xct10 cc10), xsl10⟩)
    (xc10 : PySem.W.codeIn K (.ref cda10) "InvalidMove.__init__" = true)
    (xcl10_ : K.lookup cda10 = some ⟨xcl10, xdd10, .fields xvs10, xcs10⟩)
    (xv10 : xvs10[2]? = some (.str xfile10 xtf10))
    (xf10 : ((PySem.Challenge.pw_takendown_k01_error_classes.main.file : Str) == xfile10) = true)
    (xce10 : K.lookup cc10 = some ⟨ycl10, ydd10, .cell (some (.ref C10)), ycs10⟩)
    (xga10 : PySem.W.findIn K (.ref C10) "__getattribute__" = some (some (.builtin "BaseException.__getattribute__")))
    (xgg10 : PySem.W.findIn K (.ref C10) "__getattr__" = some none)
    (xhi10 : PySem.W.hasDictIn K C10 = true)
    (aC2 : PySem.W.nsIn K mainGlobals "InvalidNumber" = some (some (.ref C2)))
    (xi2 : PySem.W.excInitIn K C2 [.type "ValueError", .type "Exception", .type "BaseException", .type "object"] "ValueError.__new__" = true)
    (xo2 : PySem.W.excOver K C2 [.type "ValueError", .type "Exception", .type "BaseException", .type "object"] = true)
    (xsa2 : PySem.W.findIn K (.ref C2) "__setattr__" = some (some (.builtin "object.__setattr__")))
    (xii2 : PySem.W.findIn K (.ref C2) "__init__" = some (some (.ref fI2)))
    (xti2 : PySem.W.typeIn K (.ref fI2) = some (.type "function"))
    (xkp2 : PySem.W.keepIn K (.ref C2) = true)
    (xex2 : PySem.W.subIn K (.ref C2) (.type "BaseException") = some true)
    (xty2 : PySem.W.typeIn K (.ref C2) = some (.type "type"))
    (xhd2 : PySem.W.hasDictIn K C2 = true)
    (xnf2_0 : PySem.W.findIn K (.ref C2) "value" = some none)
    (xB2 : PySem.W.subIn K (.ref C2) (.type "ValueError") = some true)
    (xsp2 : PySem.W.ks_superIn K C2 C2 "__init__" = some (some (.builtin "ValueError.__init__")))
    (xsu2 : PySem.W.mroIn K C2 (.ref C2) = some true)
    (xl2 : K.lookup fI2 = some ⟨xoc2, xod2, .func (PySem.W.ksFn "__init__" "InvalidNumber.__init__" (defArgs x_InvalidNumber) (defBody x_InvalidNumber) (defScope x_InvalidNumber) .none .none xdc2 xpm2 xan2 (.ref cda2) xct2 cc2), xsl2⟩)
    (xc2 : PySem.W.codeIn K (.ref cda2) "InvalidNumber.__init__" = true)
    (xcl2_ : K.lookup cda2 = some ⟨xcl2, xdd2, .fields xvs2, xcs2⟩)
    (xv2 : xvs2[2]? = some (.str xfile2 xtf2))
    (xf2 : ((PySem.Challenge.pw_takendown_k01_error_classes.main.file : Str) == xfile2) = true)
    (xce2 : K.lookup cc2 = some ⟨ycl2, ydd2, .cell (some (.ref C2)), ycs2⟩)
    (xga2 : PySem.W.findIn K (.ref C2) "__getattribute__" = some (some (.builtin "BaseException.__getattribute__")))
    (xgg2 : PySem.W.findIn K (.ref C2) "__getattr__" = some none)
    (xhi2 : PySem.W.hasDictIn K C2 = true)
    (aC9 : PySem.W.nsIn K mainGlobals "InvalidState" = some (some (.ref C9)))
    (xi9 : PySem.W.excInitIn K C9 [.type "Exception", .type "BaseException", .type "object"] "Exception.__new__" = true)
    (xo9 : PySem.W.excOver K C9 [.type "Exception", .type "BaseException", .type "object"] = true)
    (xsa9 : PySem.W.findIn K (.ref C9) "__setattr__" = some (some (.builtin "object.__setattr__")))
    (xii9 : PySem.W.findIn K (.ref C9) "__init__" = some (some (.ref fI9)))
    (xti9 : PySem.W.typeIn K (.ref fI9) = some (.type "function"))
    (xkp9 : PySem.W.keepIn K (.ref C9) = true)
    (xex9 : PySem.W.subIn K (.ref C9) (.type "BaseException") = some true)
    (xty9 : PySem.W.typeIn K (.ref C9) = some (.type "type"))
    (xhd9 : PySem.W.hasDictIn K C9 = true)
    (xnf9_0 : PySem.W.findIn K (.ref C9) "value" = some none)
    (xB9 : PySem.W.subIn K (.ref C9) (.type "Exception") = some true)
    (xsp9 : PySem.W.ks_superIn K C9 C9 "__init__" = some (some (.builtin "Exception.__init__")))
    (xsu9 : PySem.W.mroIn K C9 (.ref C9) = some true)
    (xl9 : K.lookup fI9 = some ⟨xoc9, xod9, .func (PySem.W.ksFn "__init__" "InvalidState.__init__" (defArgs x_InvalidState) (defBody x_InvalidState) (defScope x_InvalidState) .none .none xdc9 xpm9 xan9 (.ref cda9) xct9 cc9), xsl9⟩)
    (xc9 : PySem.W.codeIn K (.ref cda9) "InvalidState.__init__" = true)
    (xcl9_ : K.lookup cda9 = some ⟨xcl9, xdd9, .fields xvs9, xcs9⟩)
    (xv9 : xvs9[2]? = some (.str xfile9 xtf9))
    (xf9 : ((PySem.Challenge.pw_takendown_k01_error_classes.main.file : Str) == xfile9) = true)
    (xce9 : K.lookup cc9 = some ⟨ycl9, ydd9, .cell (some (.ref C9)), ycs9⟩)
    (xga9 : PySem.W.findIn K (.ref C9) "__getattribute__" = some (some (.builtin "BaseException.__getattribute__")))
    (xgg9 : PySem.W.findIn K (.ref C9) "__getattr__" = some none)
    (xhi9 : PySem.W.hasDictIn K C9 = true)
    (aC1 : PySem.W.nsIn K mainGlobals "InvalidStep" = some (some (.ref C1)))
    (xi1 : PySem.W.excInitIn K C1 [.type "Exception", .type "BaseException", .type "object"] "Exception.__new__" = true)
    (xo1 : PySem.W.excOver K C1 [.type "Exception", .type "BaseException", .type "object"] = true)
    (xsa1 : PySem.W.findIn K (.ref C1) "__setattr__" = some (some (.builtin "object.__setattr__")))
    (xii1 : PySem.W.findIn K (.ref C1) "__init__" = some (some (.ref fI1)))
    (xti1 : PySem.W.typeIn K (.ref fI1) = some (.type "function"))
    (xkp1 : PySem.W.keepIn K (.ref C1) = true)
    (xex1 : PySem.W.subIn K (.ref C1) (.type "BaseException") = some true)
    (xty1 : PySem.W.typeIn K (.ref C1) = some (.type "type"))
    (xhd1 : PySem.W.hasDictIn K C1 = true)
    (xnf1_0 : PySem.W.findIn K (.ref C1) "index" = some none)
    (xB1 : PySem.W.subIn K (.ref C1) (.type "Exception") = some true)
    (xsp1 : PySem.W.ks_superIn K C1 C1 "__init__" = some (some (.builtin "Exception.__init__")))
    (xsu1 : PySem.W.mroIn K C1 (.ref C1) = some true)
    (xl1 : K.lookup fI1 = some ⟨xoc1, xod1, .func (PySem.W.ksFn "__init__" "InvalidStep.__init__" (defArgs x_InvalidStep) (defBody x_InvalidStep) (defScope x_InvalidStep) .none .none xdc1 xpm1 xan1 (.ref cda1) xct1 cc1), xsl1⟩)
    (xc1 : PySem.W.codeIn K (.ref cda1) "InvalidStep.__init__" = true)
    (xcl1_ : K.lookup cda1 = some ⟨xcl1, xdd1, .fields xvs1, xcs1⟩)
    (xv1 : xvs1[2]? = some (.str xfile1 xtf1))
    (xf1 : ((PySem.Challenge.pw_takendown_k01_error_classes.main.file : Str) == xfile1) = true)
    (xce1 : K.lookup cc1 = some ⟨ycl1, ydd1, .cell (some (.ref C1)), ycs1⟩)
    (xga1 : PySem.W.findIn K (.ref C1) "__getattribute__" = some (some (.builtin "BaseException.__getattribute__")))
    (xgg1 : PySem.W.findIn K (.ref C1) "__getattr__" = some none)
    (xhi1 : PySem.W.hasDictIn K C1 = true)
    (aC8 : PySem.W.nsIn K mainGlobals "InvalidStock" = some (some (.ref C8)))
    (xi8 : PySem.W.excInitIn K C8 [.type "Exception", .type "BaseException", .type "object"] "Exception.__new__" = true)
    (xo8 : PySem.W.excOver K C8 [.type "Exception", .type "BaseException", .type "object"] = true)
    (xsa8 : PySem.W.findIn K (.ref C8) "__setattr__" = some (some (.builtin "object.__setattr__")))
    (xii8 : PySem.W.findIn K (.ref C8) "__init__" = some (some (.ref fI8)))
    (xti8 : PySem.W.typeIn K (.ref fI8) = some (.type "function"))
    (xkp8 : PySem.W.keepIn K (.ref C8) = true)
    (xex8 : PySem.W.subIn K (.ref C8) (.type "BaseException") = some true)
    (xty8 : PySem.W.typeIn K (.ref C8) = some (.type "type"))
    (xhd8 : PySem.W.hasDictIn K C8 = true)
    (xnf8_0 : PySem.W.findIn K (.ref C8) "value" = some none)
    (xB8 : PySem.W.subIn K (.ref C8) (.type "Exception") = some true)
    (xsp8 : PySem.W.ks_superIn K C8 C8 "__init__" = some (some (.builtin "Exception.__init__")))
    (xsu8 : PySem.W.mroIn K C8 (.ref C8) = some true)
    (xl8 : K.lookup fI8 = some ⟨xoc8, xod8, .func (PySem.W.ksFn "__init__" "InvalidStock.__init__" (defArgs x_InvalidStock) (defBody x_InvalidStock) (defScope x_InvalidStock) .none .none xdc8 xpm8 xan8 (.ref cda8) xct8 cc8), xsl8⟩)
    (xc8 : PySem.W.codeIn K (.ref cda8) "InvalidStock.__init__" = true)
    (xcl8_ : K.lookup cda8 = some ⟨xcl8, xdd8, .fields xvs8, xcs8⟩)
    (xv8 : xvs8[2]? = some (.str xfile8 xtf8))
    (xf8 : ((PySem.Challenge.pw_takendown_k01_error_classes.main.file : Str) == xfile8) = true)
    (xce8 : K.lookup cc8 = some ⟨ycl8, ydd8, .cell (some (.ref C8)), ycs8⟩)
    (xga8 : PySem.W.findIn K (.ref C8) "__getattribute__" = some (some (.builtin "BaseException.__getattribute__")))
    (xgg8 : PySem.W.findIn K (.ref C8) "__getattr__" = some none)
    (xhi8 : PySem.W.hasDictIn K C8 = true)
    (aC13 : PySem.W.nsIn K mainGlobals "InvalidText" = some (some (.ref C13)))
    (xi13 : PySem.W.excInitIn K C13 [.type "Exception", .type "BaseException", .type "object"] "Exception.__new__" = true)
    (xo13 : PySem.W.excOver K C13 [.type "Exception", .type "BaseException", .type "object"] = true)
    (xsa13 : PySem.W.findIn K (.ref C13) "__setattr__" = some (some (.builtin "object.__setattr__")))
    (xii13 : PySem.W.findIn K (.ref C13) "__init__" = some (some (.ref fI13)))
    (xti13 : PySem.W.typeIn K (.ref fI13) = some (.type "function"))
    (xkp13 : PySem.W.keepIn K (.ref C13) = true)
    (xex13 : PySem.W.subIn K (.ref C13) (.type "BaseException") = some true)
    (xty13 : PySem.W.typeIn K (.ref C13) = some (.type "type"))
    (xhd13 : PySem.W.hasDictIn K C13 = true)
    (xnf13_0 : PySem.W.findIn K (.ref C13) "line" = some none)
    (xB13 : PySem.W.subIn K (.ref C13) (.type "Exception") = some true)
    (xsp13 : PySem.W.ks_superIn K C13 C13 "__init__" = some (some (.builtin "Exception.__init__")))
    (xsu13 : PySem.W.mroIn K C13 (.ref C13) = some true)
    (xl13 : K.lookup fI13 = some ⟨xoc13, xod13, .func (PySem.W.ksFn "__init__" "InvalidText.__init__" (defArgs x_InvalidText) (defBody x_InvalidText) (defScope x_InvalidText) .none .none xdc13 xpm13 xan13 (.ref cda13) xct13 cc13), xsl13⟩)
    (xc13 : PySem.W.codeIn K (.ref cda13) "InvalidText.__init__" = true)
    (xcl13_ : K.lookup cda13 = some ⟨xcl13, xdd13, .fields xvs13, xcs13⟩)
    (xv13 : xvs13[2]? = some (.str xfile13 xtf13))
    (xf13 : ((PySem.Challenge.pw_takendown_k01_error_classes.main.file : Str) == xfile13) = true)
    (xce13 : K.lookup cc13 = some ⟨ycl13, ydd13, .cell (some (.ref C13)), ycs13⟩)
    (xga13 : PySem.W.findIn K (.ref C13) "__getattribute__" = some (some (.builtin "BaseException.__getattribute__")))
    (xgg13 : PySem.W.findIn K (.ref C13) "__getattr__" = some none)
    (xhi13 : PySem.W.hasDictIn K C13 = true)
    (aC11 : PySem.W.nsIn K mainGlobals "LimitExceeded" = some (some (.ref C11)))
    (xi11 : PySem.W.excInitIn K C11 [.type "OverflowError", .type "ArithmeticError", .type "Exception", .type "BaseException", .type "object"] "OverflowError.__new__" = true)
    (xo11 : PySem.W.excOver K C11 [.type "OverflowError", .type "ArithmeticError", .type "Exception", .type "BaseException", .type "object"] = true)
    (xsa11 : PySem.W.findIn K (.ref C11) "__setattr__" = some (some (.builtin "object.__setattr__")))
    (xii11 : PySem.W.findIn K (.ref C11) "__init__" = some (some (.ref fI11)))
    (xti11 : PySem.W.typeIn K (.ref fI11) = some (.type "function"))
    (xkp11 : PySem.W.keepIn K (.ref C11) = true)
    (xex11 : PySem.W.subIn K (.ref C11) (.type "BaseException") = some true)
    (xty11 : PySem.W.typeIn K (.ref C11) = some (.type "type"))
    (xhd11 : PySem.W.hasDictIn K C11 = true)
    (xnf11_0 : PySem.W.findIn K (.ref C11) "limit" = some none)
    (xB11 : PySem.W.subIn K (.ref C11) (.type "OverflowError") = some true)
    (xsp11 : PySem.W.ks_superIn K C11 C11 "__init__" = some (some (.builtin "OverflowError.__init__")))
    (xsu11 : PySem.W.mroIn K C11 (.ref C11) = some true)
    (xl11 : K.lookup fI11 = some ⟨xoc11, xod11, .func (PySem.W.ksFn "__init__" "LimitExceeded.__init__" (defArgs x_LimitExceeded) (defBody x_LimitExceeded) (defScope x_LimitExceeded) .none .none xdc11 xpm11 xan11 (.ref cda11) xct11 cc11), xsl11⟩)
    (xc11 : PySem.W.codeIn K (.ref cda11) "LimitExceeded.__init__" = true)
    (xcl11_ : K.lookup cda11 = some ⟨xcl11, xdd11, .fields xvs11, xcs11⟩)
    (xv11 : xvs11[2]? = some (.str xfile11 xtf11))
    (xf11 : ((PySem.Challenge.pw_takendown_k01_error_classes.main.file : Str) == xfile11) = true)
    (xce11 : K.lookup cc11 = some ⟨ycl11, ydd11, .cell (some (.ref C11)), ycs11⟩)
    (xga11 : PySem.W.findIn K (.ref C11) "__getattribute__" = some (some (.builtin "BaseException.__getattribute__")))
    (xgg11 : PySem.W.findIn K (.ref C11) "__getattr__" = some none)
    (xhi11 : PySem.W.hasDictIn K C11 = true)
    (aC6 : PySem.W.nsIn K mainGlobals "NotACrowd" = some (some (.ref C6)))
    (xi6 : PySem.W.excInitIn K C6 [.type "Exception", .type "BaseException", .type "object"] "Exception.__new__" = true)
    (xo6 : PySem.W.excOver K C6 [.type "Exception", .type "BaseException", .type "object"] = true)
    (xsa6 : PySem.W.findIn K (.ref C6) "__setattr__" = some (some (.builtin "object.__setattr__")))
    (xii6 : PySem.W.findIn K (.ref C6) "__init__" = some (some (.ref fI6)))
    (xti6 : PySem.W.typeIn K (.ref fI6) = some (.type "function"))
    (xkp6 : PySem.W.keepIn K (.ref C6) = true)
    (xex6 : PySem.W.subIn K (.ref C6) (.type "BaseException") = some true)
    (xty6 : PySem.W.typeIn K (.ref C6) = some (.type "type"))
    (xhd6 : PySem.W.hasDictIn K C6 = true)
    (xnf6_0 : PySem.W.findIn K (.ref C6) "name" = some none)
    (xnf6_1 : PySem.W.findIn K (.ref C6) "place" = some none)
    (xB6 : PySem.W.subIn K (.ref C6) (.type "Exception") = some true)
    (xsp6 : PySem.W.ks_superIn K C6 C6 "__init__" = some (some (.builtin "Exception.__init__")))
    (xsu6 : PySem.W.mroIn K C6 (.ref C6) = some true)
    (xl6 : K.lookup fI6 = some ⟨xoc6, xod6, .func (PySem.W.ksFn "__init__" "NotACrowd.__init__" (defArgs x_NotACrowd) (defBody x_NotACrowd) (defScope x_NotACrowd) .none .none xdc6 xpm6 xan6 (.ref cda6) xct6 cc6), xsl6⟩)
    (xc6 : PySem.W.codeIn K (.ref cda6) "NotACrowd.__init__" = true)
    (xcl6_ : K.lookup cda6 = some ⟨xcl6, xdd6, .fields xvs6, xcs6⟩)
    (xv6 : xvs6[2]? = some (.str xfile6 xtf6))
    (xf6 : ((PySem.Challenge.pw_takendown_k01_error_classes.main.file : Str) == xfile6) = true)
    (xce6 : K.lookup cc6 = some ⟨ycl6, ydd6, .cell (some (.ref C6)), ycs6⟩)
    (xga6 : PySem.W.findIn K (.ref C6) "__getattribute__" = some (some (.builtin "BaseException.__getattribute__")))
    (xgg6 : PySem.W.findIn K (.ref C6) "__getattr__" = some none)
    (xhi6 : PySem.W.hasDictIn K C6 = true)
    (aC15 : PySem.W.nsIn K mainGlobals "NotRight" = some (some (.ref C15)))
    (xi15 : PySem.W.excInitIn K C15 [.type "RuntimeError", .type "Exception", .type "BaseException", .type "object"] "RuntimeError.__new__" = true)
    (xo15 : PySem.W.excOver K C15 [.type "RuntimeError", .type "Exception", .type "BaseException", .type "object"] = true)
    (xsa15 : PySem.W.findIn K (.ref C15) "__setattr__" = some (some (.builtin "object.__setattr__")))
    (xii15 : PySem.W.findIn K (.ref C15) "__init__" = some (some (.ref fI15)))
    (xti15 : PySem.W.typeIn K (.ref fI15) = some (.type "function"))
    (xkp15 : PySem.W.keepIn K (.ref C15) = true)
    (xex15 : PySem.W.subIn K (.ref C15) (.type "BaseException") = some true)
    (xty15 : PySem.W.typeIn K (.ref C15) = some (.type "type"))
    (xhd15 : PySem.W.hasDictIn K C15 = true)
    (xnf15_0 : PySem.W.findIn K (.ref C15) "word" = some none)
    (xnf15_1 : PySem.W.findIn K (.ref C15) "paper" = some none)
    (xB15 : PySem.W.subIn K (.ref C15) (.type "RuntimeError") = some true)
    (xsp15 : PySem.W.ks_superIn K C15 C15 "__init__" = some (some (.builtin "RuntimeError.__init__")))
    (xsu15 : PySem.W.mroIn K C15 (.ref C15) = some true)
    (xl15 : K.lookup fI15 = some ⟨xoc15, xod15, .func (PySem.W.ksFn "__init__" "NotRight.__init__" (defArgs x_NotRight) (defBody x_NotRight) (defScope x_NotRight) .none .none xdc15 xpm15 xan15 (.ref cda15) xct15 cc15), xsl15⟩)
    (xc15 : PySem.W.codeIn K (.ref cda15) "NotRight.__init__" = true)
    (xcl15_ : K.lookup cda15 = some ⟨xcl15, xdd15, .fields xvs15, xcs15⟩)
    (xv15 : xvs15[2]? = some (.str xfile15 xtf15))
    (xf15 : ((PySem.Challenge.pw_takendown_k01_error_classes.main.file : Str) == xfile15) = true)
    (xce15 : K.lookup cc15 = some ⟨ycl15, ydd15, .cell (some (.ref C15)), ycs15⟩)
    (xga15 : PySem.W.findIn K (.ref C15) "__getattribute__" = some (some (.builtin "BaseException.__getattribute__")))
    (xgg15 : PySem.W.findIn K (.ref C15) "__getattr__" = some none)
    (xhi15 : PySem.W.hasDictIn K C15 = true)
    (aC16 : PySem.W.nsIn K mainGlobals "NothingToUndo" = some (some (.ref C16)))
    (xi16 : PySem.W.excInitIn K C16 [.type "RuntimeError", .type "Exception", .type "BaseException", .type "object"] "RuntimeError.__new__" = true)
    (xo16 : PySem.W.excOver K C16 [.type "RuntimeError", .type "Exception", .type "BaseException", .type "object"] = true)
    (xsa16 : PySem.W.findIn K (.ref C16) "__setattr__" = some (some (.builtin "object.__setattr__")))
    (xii16 : PySem.W.findIn K (.ref C16) "__init__" = some (some (.ref fI16)))
    (xti16 : PySem.W.typeIn K (.ref fI16) = some (.type "function"))
    (xkp16 : PySem.W.keepIn K (.ref C16) = true)
    (xex16 : PySem.W.subIn K (.ref C16) (.type "BaseException") = some true)
    (xty16 : PySem.W.typeIn K (.ref C16) = some (.type "type"))
    (xhd16 : PySem.W.hasDictIn K C16 = true)
    (xnf16_0 : PySem.W.findIn K (.ref C16) "name" = some none)
    (xB16 : PySem.W.subIn K (.ref C16) (.type "RuntimeError") = some true)
    (xsp16 : PySem.W.ks_superIn K C16 C16 "__init__" = some (some (.builtin "RuntimeError.__init__")))
    (xsu16 : PySem.W.mroIn K C16 (.ref C16) = some true)
    (xl16 : K.lookup fI16 = some ⟨xoc16, xod16, .func (PySem.W.ksFn "__init__" "NothingToUndo.__init__" (defArgs x_NothingToUndo) (defBody x_NothingToUndo) (defScope x_NothingToUndo) .none .none xdc16 xpm16 xan16 (.ref cda16) xct16 cc16), xsl16⟩)
    (xc16 : PySem.W.codeIn K (.ref cda16) "NothingToUndo.__init__" = true)
    (xcl16_ : K.lookup cda16 = some ⟨xcl16, xdd16, .fields xvs16, xcs16⟩)
    (xv16 : xvs16[2]? = some (.str xfile16 xtf16))
    (xf16 : ((PySem.Challenge.pw_takendown_k01_error_classes.main.file : Str) == xfile16) = true)
    (xce16 : K.lookup cc16 = some ⟨ycl16, ydd16, .cell (some (.ref C16)), ycs16⟩)
    (xga16 : PySem.W.findIn K (.ref C16) "__getattribute__" = some (some (.builtin "BaseException.__getattribute__")))
    (xgg16 : PySem.W.findIn K (.ref C16) "__getattr__" = some none)
    (xhi16 : PySem.W.hasDictIn K C16 = true)
    (aC3 : PySem.W.nsIn K mainGlobals "UnknownName" = some (some (.ref C3)))
    (xi3 : PySem.W.excInitIn K C3 [.type "LookupError", .type "Exception", .type "BaseException", .type "object"] "LookupError.__new__" = true)
    (xo3 : PySem.W.excOver K C3 [.type "LookupError", .type "Exception", .type "BaseException", .type "object"] = true)
    (xsa3 : PySem.W.findIn K (.ref C3) "__setattr__" = some (some (.builtin "object.__setattr__")))
    (xii3 : PySem.W.findIn K (.ref C3) "__init__" = some (some (.ref fI3)))
    (xti3 : PySem.W.typeIn K (.ref fI3) = some (.type "function"))
    (xkp3 : PySem.W.keepIn K (.ref C3) = true)
    (xex3 : PySem.W.subIn K (.ref C3) (.type "BaseException") = some true)
    (xty3 : PySem.W.typeIn K (.ref C3) = some (.type "type"))
    (xhd3 : PySem.W.hasDictIn K C3 = true)
    (xnf3_0 : PySem.W.findIn K (.ref C3) "name" = some none)
    (xB3 : PySem.W.subIn K (.ref C3) (.type "LookupError") = some true)
    (xsp3 : PySem.W.ks_superIn K C3 C3 "__init__" = some (some (.builtin "LookupError.__init__")))
    (xsu3 : PySem.W.mroIn K C3 (.ref C3) = some true)
    (xl3 : K.lookup fI3 = some ⟨xoc3, xod3, .func (PySem.W.ksFn "__init__" "UnknownName.__init__" (defArgs x_UnknownName) (defBody x_UnknownName) (defScope x_UnknownName) .none .none xdc3 xpm3 xan3 (.ref cda3) xct3 cc3), xsl3⟩)
    (xc3 : PySem.W.codeIn K (.ref cda3) "UnknownName.__init__" = true)
    (xcl3_ : K.lookup cda3 = some ⟨xcl3, xdd3, .fields xvs3, xcs3⟩)
    (xv3 : xvs3[2]? = some (.str xfile3 xtf3))
    (xf3 : ((PySem.Challenge.pw_takendown_k01_error_classes.main.file : Str) == xfile3) = true)
    (xce3 : K.lookup cc3 = some ⟨ycl3, ydd3, .cell (some (.ref C3)), ycs3⟩)
    (xga3 : PySem.W.findIn K (.ref C3) "__getattribute__" = some (some (.builtin "BaseException.__getattribute__")))
    (xgg3 : PySem.W.findIn K (.ref C3) "__getattr__" = some none)
    (xhi3 : PySem.W.hasDictIn K C3 = true)
    (aC0 : PySem.W.nsIn K mainGlobals "DownError" = some (some (.ref C0)))
    (xcs14_ : (PySem.W.clsIn K C14).isSome = true)
    (xcc14 : PySem.W.findIn K (.ref C14) "__class__" = some (some (.builtin "object.__class__")))
    (xmr14 : PySem.W.mroIn K C14 (.type "object") = some true)
    (xk14_DownError : PySem.W.kitOne K (.ref C14) (.ref C0) = some true)
    (xk14_Exception : PySem.W.kitOne K (.ref C14) (.type "Exception") = some true)
    (xk14_InvalidCommand : PySem.W.kitOne K (.ref C14) (.ref C14) = some true)
    (xk14_InvalidDevice : PySem.W.kitOne K (.ref C14) (.ref C7) = some false)
    (xk14_InvalidEdit : PySem.W.kitOne K (.ref C14) (.ref C12) = some false)
    (xk14_InvalidItem : PySem.W.kitOne K (.ref C14) (.ref C5) = some false)
    (xk14_InvalidMove : PySem.W.kitOne K (.ref C14) (.ref C10) = some false)
    (xk14_InvalidNumber : PySem.W.kitOne K (.ref C14) (.ref C2) = some false)
    (xk14_InvalidState : PySem.W.kitOne K (.ref C14) (.ref C9) = some false)
    (xk14_InvalidStep : PySem.W.kitOne K (.ref C14) (.ref C1) = some false)
    (xk14_InvalidStock : PySem.W.kitOne K (.ref C14) (.ref C8) = some false)
    (xk14_InvalidText : PySem.W.kitOne K (.ref C14) (.ref C13) = some false)
    (xk14_KeyError : PySem.W.kitOne K (.ref C14) (.type "KeyError") = some false)
    (xk14_LimitExceeded : PySem.W.kitOne K (.ref C14) (.ref C11) = some false)
    (xk14_LookupError : PySem.W.kitOne K (.ref C14) (.type "LookupError") = some false)
    (xk14_NotACrowd : PySem.W.kitOne K (.ref C14) (.ref C6) = some false)
    (xk14_NotRight : PySem.W.kitOne K (.ref C14) (.ref C15) = some false)
    (xk14_NothingToUndo : PySem.W.kitOne K (.ref C14) (.ref C16) = some false)
    (xk14_OverflowError : PySem.W.kitOne K (.ref C14) (.type "OverflowError") = some false)
    (xk14_RuntimeError : PySem.W.kitOne K (.ref C14) (.type "RuntimeError") = some false)
    (xk14_UnknownName : PySem.W.kitOne K (.ref C14) (.ref C3) = some false)
    (xk14_ValueError : PySem.W.kitOne K (.ref C14) (.type "ValueError") = some false)
    (xcs7_ : (PySem.W.clsIn K C7).isSome = true)
    (xcc7 : PySem.W.findIn K (.ref C7) "__class__" = some (some (.builtin "object.__class__")))
    (xmr7 : PySem.W.mroIn K C7 (.type "object") = some true)
    (xk7_DownError : PySem.W.kitOne K (.ref C7) (.ref C0) = some true)
    (xk7_Exception : PySem.W.kitOne K (.ref C7) (.type "Exception") = some true)
    (xk7_InvalidCommand : PySem.W.kitOne K (.ref C7) (.ref C14) = some false)
    (xk7_InvalidDevice : PySem.W.kitOne K (.ref C7) (.ref C7) = some true)
    (xk7_InvalidEdit : PySem.W.kitOne K (.ref C7) (.ref C12) = some false)
    (xk7_InvalidItem : PySem.W.kitOne K (.ref C7) (.ref C5) = some false)
    (xk7_InvalidMove : PySem.W.kitOne K (.ref C7) (.ref C10) = some false)
    (xk7_InvalidNumber : PySem.W.kitOne K (.ref C7) (.ref C2) = some false)
    (xk7_InvalidState : PySem.W.kitOne K (.ref C7) (.ref C9) = some false)
    (xk7_InvalidStep : PySem.W.kitOne K (.ref C7) (.ref C1) = some false)
    (xk7_InvalidStock : PySem.W.kitOne K (.ref C7) (.ref C8) = some false)
    (xk7_InvalidText : PySem.W.kitOne K (.ref C7) (.ref C13) = some false)
    (xk7_KeyError : PySem.W.kitOne K (.ref C7) (.type "KeyError") = some false)
    (xk7_LimitExceeded : PySem.W.kitOne K (.ref C7) (.ref C11) = some false)
    (xk7_LookupError : PySem.W.kitOne K (.ref C7) (.type "LookupError") = some false)
    (xk7_NotACrowd : PySem.W.kitOne K (.ref C7) (.ref C6) = some false)
    (xk7_NotRight : PySem.W.kitOne K (.ref C7) (.ref C15) = some false)
    (xk7_NothingToUndo : PySem.W.kitOne K (.ref C7) (.ref C16) = some false)
    (xk7_OverflowError : PySem.W.kitOne K (.ref C7) (.type "OverflowError") = some false)
    (xk7_RuntimeError : PySem.W.kitOne K (.ref C7) (.type "RuntimeError") = some false)
    (xk7_UnknownName : PySem.W.kitOne K (.ref C7) (.ref C3) = some false)
    (xk7_ValueError : PySem.W.kitOne K (.ref C7) (.type "ValueError") = some false)
    (xcs12_ : (PySem.W.clsIn K C12).isSome = true)
    (xcc12 : PySem.W.findIn K (.ref C12) "__class__" = some (some (.builtin "object.__class__")))
    (xmr12 : PySem.W.mroIn K C12 (.type "object") = some true)
    (xk12_DownError : PySem.W.kitOne K (.ref C12) (.ref C0) = some true)
    (xk12_Exception : PySem.W.kitOne K (.ref C12) (.type "Exception") = some true)
    (xk12_InvalidCommand : PySem.W.kitOne K (.ref C12) (.ref C14) = some false)
    (xk12_InvalidDevice : PySem.W.kitOne K (.ref C12) (.ref C7) = some false)
    (xk12_InvalidEdit : PySem.W.kitOne K (.ref C12) (.ref C12) = some true)
    (xk12_InvalidItem : PySem.W.kitOne K (.ref C12) (.ref C5) = some false)
    (xk12_InvalidMove : PySem.W.kitOne K (.ref C12) (.ref C10) = some false)
    (xk12_InvalidNumber : PySem.W.kitOne K (.ref C12) (.ref C2) = some false)
    (xk12_InvalidState : PySem.W.kitOne K (.ref C12) (.ref C9) = some false)
    (xk12_InvalidStep : PySem.W.kitOne K (.ref C12) (.ref C1) = some false)
    (xk12_InvalidStock : PySem.W.kitOne K (.ref C12) (.ref C8) = some false)
    (xk12_InvalidText : PySem.W.kitOne K (.ref C12) (.ref C13) = some false)
    (xk12_KeyError : PySem.W.kitOne K (.ref C12) (.type "KeyError") = some false)
    (xk12_LimitExceeded : PySem.W.kitOne K (.ref C12) (.ref C11) = some false)
    (xk12_LookupError : PySem.W.kitOne K (.ref C12) (.type "LookupError") = some false)
    (xk12_NotACrowd : PySem.W.kitOne K (.ref C12) (.ref C6) = some false)
    (xk12_NotRight : PySem.W.kitOne K (.ref C12) (.ref C15) = some false)
    (xk12_NothingToUndo : PySem.W.kitOne K (.ref C12) (.ref C16) = some false)
    (xk12_OverflowError : PySem.W.kitOne K (.ref C12) (.type "OverflowError") = some false)
    (xk12_RuntimeError : PySem.W.kitOne K (.ref C12) (.type "RuntimeError") = some false)
    (xk12_UnknownName : PySem.W.kitOne K (.ref C12) (.ref C3) = some false)
    (xk12_ValueError : PySem.W.kitOne K (.ref C12) (.type "ValueError") = some false)
    (xcs5_ : (PySem.W.clsIn K C5).isSome = true)
    (xcc5 : PySem.W.findIn K (.ref C5) "__class__" = some (some (.builtin "object.__class__")))
    (xmr5 : PySem.W.mroIn K C5 (.type "object") = some true)
    (xk5_DownError : PySem.W.kitOne K (.ref C5) (.ref C0) = some true)
    (xk5_Exception : PySem.W.kitOne K (.ref C5) (.type "Exception") = some true)
    (xk5_InvalidCommand : PySem.W.kitOne K (.ref C5) (.ref C14) = some false)
    (xk5_InvalidDevice : PySem.W.kitOne K (.ref C5) (.ref C7) = some false)
    (xk5_InvalidEdit : PySem.W.kitOne K (.ref C5) (.ref C12) = some false)
    (xk5_InvalidItem : PySem.W.kitOne K (.ref C5) (.ref C5) = some true)
    (xk5_InvalidMove : PySem.W.kitOne K (.ref C5) (.ref C10) = some false)
    (xk5_InvalidNumber : PySem.W.kitOne K (.ref C5) (.ref C2) = some false)
    (xk5_InvalidState : PySem.W.kitOne K (.ref C5) (.ref C9) = some false)
    (xk5_InvalidStep : PySem.W.kitOne K (.ref C5) (.ref C1) = some false)
    (xk5_InvalidStock : PySem.W.kitOne K (.ref C5) (.ref C8) = some false)
    (xk5_InvalidText : PySem.W.kitOne K (.ref C5) (.ref C13) = some false)
    (xk5_KeyError : PySem.W.kitOne K (.ref C5) (.type "KeyError") = some false)
    (xk5_LimitExceeded : PySem.W.kitOne K (.ref C5) (.ref C11) = some false)
    (xk5_LookupError : PySem.W.kitOne K (.ref C5) (.type "LookupError") = some false)
    (xk5_NotACrowd : PySem.W.kitOne K (.ref C5) (.ref C6) = some false)
    (xk5_NotRight : PySem.W.kitOne K (.ref C5) (.ref C15) = some false)
    (xk5_NothingToUndo : PySem.W.kitOne K (.ref C5) (.ref C16) = some false)
    (xk5_OverflowError : PySem.W.kitOne K (.ref C5) (.type "OverflowError") = some false)
    (xk5_RuntimeError : PySem.W.kitOne K (.ref C5) (.type "RuntimeError") = some false)
    (xk5_UnknownName : PySem.W.kitOne K (.ref C5) (.ref C3) = some false)
    (xk5_ValueError : PySem.W.kitOne K (.ref C5) (.type "ValueError") = some false)
    (xcs10_ : (PySem.W.clsIn K C10).isSome = true)
    (xcc10 : PySem.W.findIn K (.ref C10) "__class__" = some (some (.builtin "object.__class__")))
    (xmr10 : PySem.W.mroIn K C10 (.type "object") = some true)
    (xk10_DownError : PySem.W.kitOne K (.ref C10) (.ref C0) = some true)
    (xk10_Exception : PySem.W.kitOne K (.ref C10) (.type "Exception") = some true)
    (xk10_InvalidCommand : PySem.W.kitOne K (.ref C10) (.ref C14) = some false)
    (xk10_InvalidDevice : PySem.W.kitOne K (.ref C10) (.ref C7) = some false)
    (xk10_InvalidEdit : PySem.W.kitOne K (.ref C10) (.ref C12) = some false)
    (xk10_InvalidItem : PySem.W.kitOne K (.ref C10) (.ref C5) = some false)
    (xk10_InvalidMove : PySem.W.kitOne K (.ref C10) (.ref C10) = some true)
    (xk10_InvalidNumber : PySem.W.kitOne K (.ref C10) (.ref C2) = some false)
    (xk10_InvalidState : PySem.W.kitOne K (.ref C10) (.ref C9) = some false)
    (xk10_InvalidStep : PySem.W.kitOne K (.ref C10) (.ref C1) = some false)
    (xk10_InvalidStock : PySem.W.kitOne K (.ref C10) (.ref C8) = some false)
    (xk10_InvalidText : PySem.W.kitOne K (.ref C10) (.ref C13) = some false)
    (xk10_KeyError : PySem.W.kitOne K (.ref C10) (.type "KeyError") = some false)
    (xk10_LimitExceeded : PySem.W.kitOne K (.ref C10) (.ref C11) = some false)
    (xk10_LookupError : PySem.W.kitOne K (.ref C10) (.type "LookupError") = some false)
    (xk10_NotACrowd : PySem.W.kitOne K (.ref C10) (.ref C6) = some false)
    (xk10_NotRight : PySem.W.kitOne K (.ref C10) (.ref C15) = some false)
    (xk10_NothingToUndo : PySem.W.kitOne K (.ref C10) (.ref C16) = some false)
    (xk10_OverflowError : PySem.W.kitOne K (.ref C10) (.type "OverflowError") = some false)
    (xk10_RuntimeError : PySem.W.kitOne K (.ref C10) (.type "RuntimeError") = some false)
    (xk10_UnknownName : PySem.W.kitOne K (.ref C10) (.ref C3) = some false)
    (xk10_ValueError : PySem.W.kitOne K (.ref C10) (.type "ValueError") = some false)
    (xcs2_ : (PySem.W.clsIn K C2).isSome = true)
    (xcc2 : PySem.W.findIn K (.ref C2) "__class__" = some (some (.builtin "object.__class__")))
    (xmr2 : PySem.W.mroIn K C2 (.type "object") = some true)
    (xk2_DownError : PySem.W.kitOne K (.ref C2) (.ref C0) = some false)
    (xk2_Exception : PySem.W.kitOne K (.ref C2) (.type "Exception") = some true)
    (xk2_InvalidCommand : PySem.W.kitOne K (.ref C2) (.ref C14) = some false)
    (xk2_InvalidDevice : PySem.W.kitOne K (.ref C2) (.ref C7) = some false)
    (xk2_InvalidEdit : PySem.W.kitOne K (.ref C2) (.ref C12) = some false)
    (xk2_InvalidItem : PySem.W.kitOne K (.ref C2) (.ref C5) = some false)
    (xk2_InvalidMove : PySem.W.kitOne K (.ref C2) (.ref C10) = some false)
    (xk2_InvalidNumber : PySem.W.kitOne K (.ref C2) (.ref C2) = some true)
    (xk2_InvalidState : PySem.W.kitOne K (.ref C2) (.ref C9) = some false)
    (xk2_InvalidStep : PySem.W.kitOne K (.ref C2) (.ref C1) = some false)
    (xk2_InvalidStock : PySem.W.kitOne K (.ref C2) (.ref C8) = some false)
    (xk2_InvalidText : PySem.W.kitOne K (.ref C2) (.ref C13) = some false)
    (xk2_KeyError : PySem.W.kitOne K (.ref C2) (.type "KeyError") = some false)
    (xk2_LimitExceeded : PySem.W.kitOne K (.ref C2) (.ref C11) = some false)
    (xk2_LookupError : PySem.W.kitOne K (.ref C2) (.type "LookupError") = some false)
    (xk2_NotACrowd : PySem.W.kitOne K (.ref C2) (.ref C6) = some false)
    (xk2_NotRight : PySem.W.kitOne K (.ref C2) (.ref C15) = some false)
    (xk2_NothingToUndo : PySem.W.kitOne K (.ref C2) (.ref C16) = some false)
    (xk2_OverflowError : PySem.W.kitOne K (.ref C2) (.type "OverflowError") = some false)
    (xk2_RuntimeError : PySem.W.kitOne K (.ref C2) (.type "RuntimeError") = some false)
    (xk2_UnknownName : PySem.W.kitOne K (.ref C2) (.ref C3) = some false)
    (xk2_ValueError : PySem.W.kitOne K (.ref C2) (.type "ValueError") = some true)
    (xcs9_ : (PySem.W.clsIn K C9).isSome = true)
    (xcc9 : PySem.W.findIn K (.ref C9) "__class__" = some (some (.builtin "object.__class__")))
    (xmr9 : PySem.W.mroIn K C9 (.type "object") = some true)
    (xk9_DownError : PySem.W.kitOne K (.ref C9) (.ref C0) = some true)
    (xk9_Exception : PySem.W.kitOne K (.ref C9) (.type "Exception") = some true)
    (xk9_InvalidCommand : PySem.W.kitOne K (.ref C9) (.ref C14) = some false)
    (xk9_InvalidDevice : PySem.W.kitOne K (.ref C9) (.ref C7) = some false)
    (xk9_InvalidEdit : PySem.W.kitOne K (.ref C9) (.ref C12) = some false)
    (xk9_InvalidItem : PySem.W.kitOne K (.ref C9) (.ref C5) = some false)
    (xk9_InvalidMove : PySem.W.kitOne K (.ref C9) (.ref C10) = some false)
    (xk9_InvalidNumber : PySem.W.kitOne K (.ref C9) (.ref C2) = some false)
    (xk9_InvalidState : PySem.W.kitOne K (.ref C9) (.ref C9) = some true)
    (xk9_InvalidStep : PySem.W.kitOne K (.ref C9) (.ref C1) = some false)
    (xk9_InvalidStock : PySem.W.kitOne K (.ref C9) (.ref C8) = some false)
    (xk9_InvalidText : PySem.W.kitOne K (.ref C9) (.ref C13) = some false)
    (xk9_KeyError : PySem.W.kitOne K (.ref C9) (.type "KeyError") = some false)
    (xk9_LimitExceeded : PySem.W.kitOne K (.ref C9) (.ref C11) = some false)
    (xk9_LookupError : PySem.W.kitOne K (.ref C9) (.type "LookupError") = some false)
    (xk9_NotACrowd : PySem.W.kitOne K (.ref C9) (.ref C6) = some false)
    (xk9_NotRight : PySem.W.kitOne K (.ref C9) (.ref C15) = some false)
    (xk9_NothingToUndo : PySem.W.kitOne K (.ref C9) (.ref C16) = some false)
    (xk9_OverflowError : PySem.W.kitOne K (.ref C9) (.type "OverflowError") = some false)
    (xk9_RuntimeError : PySem.W.kitOne K (.ref C9) (.type "RuntimeError") = some false)
    (xk9_UnknownName : PySem.W.kitOne K (.ref C9) (.ref C3) = some false)
    (xk9_ValueError : PySem.W.kitOne K (.ref C9) (.type "ValueError") = some false)
    (xcs1_ : (PySem.W.clsIn K C1).isSome = true)
    (xcc1 : PySem.W.findIn K (.ref C1) "__class__" = some (some (.builtin "object.__class__")))
    (xmr1 : PySem.W.mroIn K C1 (.type "object") = some true)
    (xk1_DownError : PySem.W.kitOne K (.ref C1) (.ref C0) = some true)
    (xk1_Exception : PySem.W.kitOne K (.ref C1) (.type "Exception") = some true)
    (xk1_InvalidCommand : PySem.W.kitOne K (.ref C1) (.ref C14) = some false)
    (xk1_InvalidDevice : PySem.W.kitOne K (.ref C1) (.ref C7) = some false)
    (xk1_InvalidEdit : PySem.W.kitOne K (.ref C1) (.ref C12) = some false)
    (xk1_InvalidItem : PySem.W.kitOne K (.ref C1) (.ref C5) = some false)
    (xk1_InvalidMove : PySem.W.kitOne K (.ref C1) (.ref C10) = some false)
    (xk1_InvalidNumber : PySem.W.kitOne K (.ref C1) (.ref C2) = some false)
    (xk1_InvalidState : PySem.W.kitOne K (.ref C1) (.ref C9) = some false)
    (xk1_InvalidStep : PySem.W.kitOne K (.ref C1) (.ref C1) = some true)
    (xk1_InvalidStock : PySem.W.kitOne K (.ref C1) (.ref C8) = some false)
    (xk1_InvalidText : PySem.W.kitOne K (.ref C1) (.ref C13) = some false)
    (xk1_KeyError : PySem.W.kitOne K (.ref C1) (.type "KeyError") = some false)
    (xk1_LimitExceeded : PySem.W.kitOne K (.ref C1) (.ref C11) = some false)
    (xk1_LookupError : PySem.W.kitOne K (.ref C1) (.type "LookupError") = some false)
    (xk1_NotACrowd : PySem.W.kitOne K (.ref C1) (.ref C6) = some false)
    (xk1_NotRight : PySem.W.kitOne K (.ref C1) (.ref C15) = some false)
    (xk1_NothingToUndo : PySem.W.kitOne K (.ref C1) (.ref C16) = some false)
    (xk1_OverflowError : PySem.W.kitOne K (.ref C1) (.type "OverflowError") = some false)
    (xk1_RuntimeError : PySem.W.kitOne K (.ref C1) (.type "RuntimeError") = some false)
    (xk1_UnknownName : PySem.W.kitOne K (.ref C1) (.ref C3) = some false)
    (xk1_ValueError : PySem.W.kitOne K (.ref C1) (.type "ValueError") = some false)
    (xcs8_ : (PySem.W.clsIn K C8).isSome = true)
    (xcc8 : PySem.W.findIn K (.ref C8) "__class__" = some (some (.builtin "object.__class__")))
    (xmr8 : PySem.W.mroIn K C8 (.type "object") = some true)
    (xk8_DownError : PySem.W.kitOne K (.ref C8) (.ref C0) = some true)
    (xk8_Exception : PySem.W.kitOne K (.ref C8) (.type "Exception") = some true)
    (xk8_InvalidCommand : PySem.W.kitOne K (.ref C8) (.ref C14) = some false)
    (xk8_InvalidDevice : PySem.W.kitOne K (.ref C8) (.ref C7) = some false)
    (xk8_InvalidEdit : PySem.W.kitOne K (.ref C8) (.ref C12) = some false)
    (xk8_InvalidItem : PySem.W.kitOne K (.ref C8) (.ref C5) = some false)
    (xk8_InvalidMove : PySem.W.kitOne K (.ref C8) (.ref C10) = some false)
    (xk8_InvalidNumber : PySem.W.kitOne K (.ref C8) (.ref C2) = some false)
    (xk8_InvalidState : PySem.W.kitOne K (.ref C8) (.ref C9) = some false)
    (xk8_InvalidStep : PySem.W.kitOne K (.ref C8) (.ref C1) = some false)
    (xk8_InvalidStock : PySem.W.kitOne K (.ref C8) (.ref C8) = some true)
    (xk8_InvalidText : PySem.W.kitOne K (.ref C8) (.ref C13) = some false)
    (xk8_KeyError : PySem.W.kitOne K (.ref C8) (.type "KeyError") = some false)
    (xk8_LimitExceeded : PySem.W.kitOne K (.ref C8) (.ref C11) = some false)
    (xk8_LookupError : PySem.W.kitOne K (.ref C8) (.type "LookupError") = some false)
    (xk8_NotACrowd : PySem.W.kitOne K (.ref C8) (.ref C6) = some false)
    (xk8_NotRight : PySem.W.kitOne K (.ref C8) (.ref C15) = some false)
    (xk8_NothingToUndo : PySem.W.kitOne K (.ref C8) (.ref C16) = some false)
    (xk8_OverflowError : PySem.W.kitOne K (.ref C8) (.type "OverflowError") = some false)
    (xk8_RuntimeError : PySem.W.kitOne K (.ref C8) (.type "RuntimeError") = some false)
    (xk8_UnknownName : PySem.W.kitOne K (.ref C8) (.ref C3) = some false)
    (xk8_ValueError : PySem.W.kitOne K (.ref C8) (.type "ValueError") = some false)
    (xcs13_ : (PySem.W.clsIn K C13).isSome = true)
    (xcc13 : PySem.W.findIn K (.ref C13) "__class__" = some (some (.builtin "object.__class__")))
    (xmr13 : PySem.W.mroIn K C13 (.type "object") = some true)
    (xk13_DownError : PySem.W.kitOne K (.ref C13) (.ref C0) = some true)
    (xk13_Exception : PySem.W.kitOne K (.ref C13) (.type "Exception") = some true)
    (xk13_InvalidCommand : PySem.W.kitOne K (.ref C13) (.ref C14) = some false)
    (xk13_InvalidDevice : PySem.W.kitOne K (.ref C13) (.ref C7) = some false)
    (xk13_InvalidEdit : PySem.W.kitOne K (.ref C13) (.ref C12) = some false)
    (xk13_InvalidItem : PySem.W.kitOne K (.ref C13) (.ref C5) = some false)
    (xk13_InvalidMove : PySem.W.kitOne K (.ref C13) (.ref C10) = some false)
    (xk13_InvalidNumber : PySem.W.kitOne K (.ref C13) (.ref C2) = some false)
    (xk13_InvalidState : PySem.W.kitOne K (.ref C13) (.ref C9) = some false)
    (xk13_InvalidStep : PySem.W.kitOne K (.ref C13) (.ref C1) = some false)
    (xk13_InvalidStock : PySem.W.kitOne K (.ref C13) (.ref C8) = some false)
    (xk13_InvalidText : PySem.W.kitOne K (.ref C13) (.ref C13) = some true)
    (xk13_KeyError : PySem.W.kitOne K (.ref C13) (.type "KeyError") = some false)
    (xk13_LimitExceeded : PySem.W.kitOne K (.ref C13) (.ref C11) = some false)
    (xk13_LookupError : PySem.W.kitOne K (.ref C13) (.type "LookupError") = some false)
    (xk13_NotACrowd : PySem.W.kitOne K (.ref C13) (.ref C6) = some false)
    (xk13_NotRight : PySem.W.kitOne K (.ref C13) (.ref C15) = some false)
    (xk13_NothingToUndo : PySem.W.kitOne K (.ref C13) (.ref C16) = some false)
    (xk13_OverflowError : PySem.W.kitOne K (.ref C13) (.type "OverflowError") = some false)
    (xk13_RuntimeError : PySem.W.kitOne K (.ref C13) (.type "RuntimeError") = some false)
    (xk13_UnknownName : PySem.W.kitOne K (.ref C13) (.ref C3) = some false)
    (xk13_ValueError : PySem.W.kitOne K (.ref C13) (.type "ValueError") = some false)
    (xcs11_ : (PySem.W.clsIn K C11).isSome = true)
    (xcc11 : PySem.W.findIn K (.ref C11) "__class__" = some (some (.builtin "object.__class__")))
    (xmr11 : PySem.W.mroIn K C11 (.type "object") = some true)
    (xk11_DownError : PySem.W.kitOne K (.ref C11) (.ref C0) = some false)
    (xk11_Exception : PySem.W.kitOne K (.ref C11) (.type "Exception") = some true)
    (xk11_InvalidCommand : PySem.W.kitOne K (.ref C11) (.ref C14) = some false)
    (xk11_InvalidDevice : PySem.W.kitOne K (.ref C11) (.ref C7) = some false)
    (xk11_InvalidEdit : PySem.W.kitOne K (.ref C11) (.ref C12) = some false)
    (xk11_InvalidItem : PySem.W.kitOne K (.ref C11) (.ref C5) = some false)
    (xk11_InvalidMove : PySem.W.kitOne K (.ref C11) (.ref C10) = some false)
    (xk11_InvalidNumber : PySem.W.kitOne K (.ref C11) (.ref C2) = some false)
    (xk11_InvalidState : PySem.W.kitOne K (.ref C11) (.ref C9) = some false)
    (xk11_InvalidStep : PySem.W.kitOne K (.ref C11) (.ref C1) = some false)
    (xk11_InvalidStock : PySem.W.kitOne K (.ref C11) (.ref C8) = some false)
    (xk11_InvalidText : PySem.W.kitOne K (.ref C11) (.ref C13) = some false)
    (xk11_KeyError : PySem.W.kitOne K (.ref C11) (.type "KeyError") = some false)
    (xk11_LimitExceeded : PySem.W.kitOne K (.ref C11) (.ref C11) = some true)
    (xk11_LookupError : PySem.W.kitOne K (.ref C11) (.type "LookupError") = some false)
    (xk11_NotACrowd : PySem.W.kitOne K (.ref C11) (.ref C6) = some false)
    (xk11_NotRight : PySem.W.kitOne K (.ref C11) (.ref C15) = some false)
    (xk11_NothingToUndo : PySem.W.kitOne K (.ref C11) (.ref C16) = some false)
    (xk11_OverflowError : PySem.W.kitOne K (.ref C11) (.type "OverflowError") = some true)
    (xk11_RuntimeError : PySem.W.kitOne K (.ref C11) (.type "RuntimeError") = some false)
    (xk11_UnknownName : PySem.W.kitOne K (.ref C11) (.ref C3) = some false)
    (xk11_ValueError : PySem.W.kitOne K (.ref C11) (.type "ValueError") = some false)
    (xcs6_ : (PySem.W.clsIn K C6).isSome = true)
    (xcc6 : PySem.W.findIn K (.ref C6) "__class__" = some (some (.builtin "object.__class__")))
    (xmr6 : PySem.W.mroIn K C6 (.type "object") = some true)
    (xk6_DownError : PySem.W.kitOne K (.ref C6) (.ref C0) = some true)
    (xk6_Exception : PySem.W.kitOne K (.ref C6) (.type "Exception") = some true)
    (xk6_InvalidCommand : PySem.W.kitOne K (.ref C6) (.ref C14) = some false)
    (xk6_InvalidDevice : PySem.W.kitOne K (.ref C6) (.ref C7) = some false)
    (xk6_InvalidEdit : PySem.W.kitOne K (.ref C6) (.ref C12) = some false)
    (xk6_InvalidItem : PySem.W.kitOne K (.ref C6) (.ref C5) = some false)
    (xk6_InvalidMove : PySem.W.kitOne K (.ref C6) (.ref C10) = some false)
    (xk6_InvalidNumber : PySem.W.kitOne K (.ref C6) (.ref C2) = some false)
    (xk6_InvalidState : PySem.W.kitOne K (.ref C6) (.ref C9) = some false)
    (xk6_InvalidStep : PySem.W.kitOne K (.ref C6) (.ref C1) = some false)
    (xk6_InvalidStock : PySem.W.kitOne K (.ref C6) (.ref C8) = some false)
    (xk6_InvalidText : PySem.W.kitOne K (.ref C6) (.ref C13) = some false)
    (xk6_KeyError : PySem.W.kitOne K (.ref C6) (.type "KeyError") = some false)
    (xk6_LimitExceeded : PySem.W.kitOne K (.ref C6) (.ref C11) = some false)
    (xk6_LookupError : PySem.W.kitOne K (.ref C6) (.type "LookupError") = some false)
    (xk6_NotACrowd : PySem.W.kitOne K (.ref C6) (.ref C6) = some true)
    (xk6_NotRight : PySem.W.kitOne K (.ref C6) (.ref C15) = some false)
    (xk6_NothingToUndo : PySem.W.kitOne K (.ref C6) (.ref C16) = some false)
    (xk6_OverflowError : PySem.W.kitOne K (.ref C6) (.type "OverflowError") = some false)
    (xk6_RuntimeError : PySem.W.kitOne K (.ref C6) (.type "RuntimeError") = some false)
    (xk6_UnknownName : PySem.W.kitOne K (.ref C6) (.ref C3) = some false)
    (xk6_ValueError : PySem.W.kitOne K (.ref C6) (.type "ValueError") = some false)
    (xcs15_ : (PySem.W.clsIn K C15).isSome = true)
    (xcc15 : PySem.W.findIn K (.ref C15) "__class__" = some (some (.builtin "object.__class__")))
    (xmr15 : PySem.W.mroIn K C15 (.type "object") = some true)
    (xk15_DownError : PySem.W.kitOne K (.ref C15) (.ref C0) = some false)
    (xk15_Exception : PySem.W.kitOne K (.ref C15) (.type "Exception") = some true)
    (xk15_InvalidCommand : PySem.W.kitOne K (.ref C15) (.ref C14) = some false)
    (xk15_InvalidDevice : PySem.W.kitOne K (.ref C15) (.ref C7) = some false)
    (xk15_InvalidEdit : PySem.W.kitOne K (.ref C15) (.ref C12) = some false)
    (xk15_InvalidItem : PySem.W.kitOne K (.ref C15) (.ref C5) = some false)
    (xk15_InvalidMove : PySem.W.kitOne K (.ref C15) (.ref C10) = some false)
    (xk15_InvalidNumber : PySem.W.kitOne K (.ref C15) (.ref C2) = some false)
    (xk15_InvalidState : PySem.W.kitOne K (.ref C15) (.ref C9) = some false)
    (xk15_InvalidStep : PySem.W.kitOne K (.ref C15) (.ref C1) = some false)
    (xk15_InvalidStock : PySem.W.kitOne K (.ref C15) (.ref C8) = some false)
    (xk15_InvalidText : PySem.W.kitOne K (.ref C15) (.ref C13) = some false)
    (xk15_KeyError : PySem.W.kitOne K (.ref C15) (.type "KeyError") = some false)
    (xk15_LimitExceeded : PySem.W.kitOne K (.ref C15) (.ref C11) = some false)
    (xk15_LookupError : PySem.W.kitOne K (.ref C15) (.type "LookupError") = some false)
    (xk15_NotACrowd : PySem.W.kitOne K (.ref C15) (.ref C6) = some false)
    (xk15_NotRight : PySem.W.kitOne K (.ref C15) (.ref C15) = some true)
    (xk15_NothingToUndo : PySem.W.kitOne K (.ref C15) (.ref C16) = some false)
    (xk15_OverflowError : PySem.W.kitOne K (.ref C15) (.type "OverflowError") = some false)
    (xk15_RuntimeError : PySem.W.kitOne K (.ref C15) (.type "RuntimeError") = some true)
    (xk15_UnknownName : PySem.W.kitOne K (.ref C15) (.ref C3) = some false)
    (xk15_ValueError : PySem.W.kitOne K (.ref C15) (.type "ValueError") = some false)
    (xcs16_ : (PySem.W.clsIn K C16).isSome = true)
    (xcc16 : PySem.W.findIn K (.ref C16) "__class__" = some (some (.builtin "object.__class__")))
    (xmr16 : PySem.W.mroIn K C16 (.type "object") = some true)
    (xk16_DownError : PySem.W.kitOne K (.ref C16) (.ref C0) = some false)
    (xk16_Exception : PySem.W.kitOne K (.ref C16) (.type "Exception") = some true)
    (xk16_InvalidCommand : PySem.W.kitOne K (.ref C16) (.ref C14) = some false)
    (xk16_InvalidDevice : PySem.W.kitOne K (.ref C16) (.ref C7) = some false)
    (xk16_InvalidEdit : PySem.W.kitOne K (.ref C16) (.ref C12) = some false)
    (xk16_InvalidItem : PySem.W.kitOne K (.ref C16) (.ref C5) = some false)
    (xk16_InvalidMove : PySem.W.kitOne K (.ref C16) (.ref C10) = some false)
    (xk16_InvalidNumber : PySem.W.kitOne K (.ref C16) (.ref C2) = some false)
    (xk16_InvalidState : PySem.W.kitOne K (.ref C16) (.ref C9) = some false)
    (xk16_InvalidStep : PySem.W.kitOne K (.ref C16) (.ref C1) = some false)
    (xk16_InvalidStock : PySem.W.kitOne K (.ref C16) (.ref C8) = some false)
    (xk16_InvalidText : PySem.W.kitOne K (.ref C16) (.ref C13) = some false)
    (xk16_KeyError : PySem.W.kitOne K (.ref C16) (.type "KeyError") = some false)
    (xk16_LimitExceeded : PySem.W.kitOne K (.ref C16) (.ref C11) = some false)
    (xk16_LookupError : PySem.W.kitOne K (.ref C16) (.type "LookupError") = some false)
    (xk16_NotACrowd : PySem.W.kitOne K (.ref C16) (.ref C6) = some false)
    (xk16_NotRight : PySem.W.kitOne K (.ref C16) (.ref C15) = some false)
    (xk16_NothingToUndo : PySem.W.kitOne K (.ref C16) (.ref C16) = some true)
    (xk16_OverflowError : PySem.W.kitOne K (.ref C16) (.type "OverflowError") = some false)
    (xk16_RuntimeError : PySem.W.kitOne K (.ref C16) (.type "RuntimeError") = some true)
    (xk16_UnknownName : PySem.W.kitOne K (.ref C16) (.ref C3) = some false)
    (xk16_ValueError : PySem.W.kitOne K (.ref C16) (.type "ValueError") = some false)
    (xcs3_ : (PySem.W.clsIn K C3).isSome = true)
    (xcc3 : PySem.W.findIn K (.ref C3) "__class__" = some (some (.builtin "object.__class__")))
    (xmr3 : PySem.W.mroIn K C3 (.type "object") = some true)
    (xk3_DownError : PySem.W.kitOne K (.ref C3) (.ref C0) = some false)
    (xk3_Exception : PySem.W.kitOne K (.ref C3) (.type "Exception") = some true)
    (xk3_InvalidCommand : PySem.W.kitOne K (.ref C3) (.ref C14) = some false)
    (xk3_InvalidDevice : PySem.W.kitOne K (.ref C3) (.ref C7) = some false)
    (xk3_InvalidEdit : PySem.W.kitOne K (.ref C3) (.ref C12) = some false)
    (xk3_InvalidItem : PySem.W.kitOne K (.ref C3) (.ref C5) = some false)
    (xk3_InvalidMove : PySem.W.kitOne K (.ref C3) (.ref C10) = some false)
    (xk3_InvalidNumber : PySem.W.kitOne K (.ref C3) (.ref C2) = some false)
    (xk3_InvalidState : PySem.W.kitOne K (.ref C3) (.ref C9) = some false)
    (xk3_InvalidStep : PySem.W.kitOne K (.ref C3) (.ref C1) = some false)
    (xk3_InvalidStock : PySem.W.kitOne K (.ref C3) (.ref C8) = some false)
    (xk3_InvalidText : PySem.W.kitOne K (.ref C3) (.ref C13) = some false)
    (xk3_KeyError : PySem.W.kitOne K (.ref C3) (.type "KeyError") = some false)
    (xk3_LimitExceeded : PySem.W.kitOne K (.ref C3) (.ref C11) = some false)
    (xk3_LookupError : PySem.W.kitOne K (.ref C3) (.type "LookupError") = some true)
    (xk3_NotACrowd : PySem.W.kitOne K (.ref C3) (.ref C6) = some false)
    (xk3_NotRight : PySem.W.kitOne K (.ref C3) (.ref C15) = some false)
    (xk3_NothingToUndo : PySem.W.kitOne K (.ref C3) (.ref C16) = some false)
    (xk3_OverflowError : PySem.W.kitOne K (.ref C3) (.type "OverflowError") = some false)
    (xk3_RuntimeError : PySem.W.kitOne K (.ref C3) (.type "RuntimeError") = some false)
    (xk3_UnknownName : PySem.W.kitOne K (.ref C3) (.ref C3) = some true)
    (xk3_ValueError : PySem.W.kitOne K (.ref C3) (.type "ValueError") = some false)
    (opq : PySem.W.nsIn K cStatics "thirdparty.any" = some none)
    (xm14_14 : PySem.W.exmOne K (.ref C14) (.ref C14) = some true)
    (xm7_14 : PySem.W.exmOne K (.ref C7) (.ref C14) = some false)
    (xm12_14 : PySem.W.exmOne K (.ref C12) (.ref C14) = some false)
    (xm5_14 : PySem.W.exmOne K (.ref C5) (.ref C14) = some false)
    (xm10_14 : PySem.W.exmOne K (.ref C10) (.ref C14) = some false)
    (xm2_14 : PySem.W.exmOne K (.ref C2) (.ref C14) = some false)
    (xm9_14 : PySem.W.exmOne K (.ref C9) (.ref C14) = some false)
    (xm1_14 : PySem.W.exmOne K (.ref C1) (.ref C14) = some false)
    (xm8_14 : PySem.W.exmOne K (.ref C8) (.ref C14) = some false)
    (xm13_14 : PySem.W.exmOne K (.ref C13) (.ref C14) = some false)
    (xm11_14 : PySem.W.exmOne K (.ref C11) (.ref C14) = some false)
    (xm6_14 : PySem.W.exmOne K (.ref C6) (.ref C14) = some false)
    (xm15_14 : PySem.W.exmOne K (.ref C15) (.ref C14) = some false)
    (xm16_14 : PySem.W.exmOne K (.ref C16) (.ref C14) = some false)
    (xm3_14 : PySem.W.exmOne K (.ref C3) (.ref C14) = some false)
    (xm14_7 : PySem.W.exmOne K (.ref C14) (.ref C7) = some false)
    (xm7_7 : PySem.W.exmOne K (.ref C7) (.ref C7) = some true)
    (xm12_7 : PySem.W.exmOne K (.ref C12) (.ref C7) = some false)
    (xm5_7 : PySem.W.exmOne K (.ref C5) (.ref C7) = some false)
    (xm10_7 : PySem.W.exmOne K (.ref C10) (.ref C7) = some false)
    (xm2_7 : PySem.W.exmOne K (.ref C2) (.ref C7) = some false)
    (xm9_7 : PySem.W.exmOne K (.ref C9) (.ref C7) = some false)
    (xm1_7 : PySem.W.exmOne K (.ref C1) (.ref C7) = some false)
    (xm8_7 : PySem.W.exmOne K (.ref C8) (.ref C7) = some false)
    (xm13_7 : PySem.W.exmOne K (.ref C13) (.ref C7) = some false)
    (xm11_7 : PySem.W.exmOne K (.ref C11) (.ref C7) = some false)
    (xm6_7 : PySem.W.exmOne K (.ref C6) (.ref C7) = some false)
    (xm15_7 : PySem.W.exmOne K (.ref C15) (.ref C7) = some false)
    (xm16_7 : PySem.W.exmOne K (.ref C16) (.ref C7) = some false)
    (xm3_7 : PySem.W.exmOne K (.ref C3) (.ref C7) = some false)
    (xm14_12 : PySem.W.exmOne K (.ref C14) (.ref C12) = some false)
    (xm7_12 : PySem.W.exmOne K (.ref C7) (.ref C12) = some false)
    (xm12_12 : PySem.W.exmOne K (.ref C12) (.ref C12) = some true)
    (xm5_12 : PySem.W.exmOne K (.ref C5) (.ref C12) = some false)
    (xm10_12 : PySem.W.exmOne K (.ref C10) (.ref C12) = some false)
    (xm2_12 : PySem.W.exmOne K (.ref C2) (.ref C12) = some false)
    (xm9_12 : PySem.W.exmOne K (.ref C9) (.ref C12) = some false)
    (xm1_12 : PySem.W.exmOne K (.ref C1) (.ref C12) = some false)
    (xm8_12 : PySem.W.exmOne K (.ref C8) (.ref C12) = some false)
    (xm13_12 : PySem.W.exmOne K (.ref C13) (.ref C12) = some false)
    (xm11_12 : PySem.W.exmOne K (.ref C11) (.ref C12) = some false)
    (xm6_12 : PySem.W.exmOne K (.ref C6) (.ref C12) = some false)
    (xm15_12 : PySem.W.exmOne K (.ref C15) (.ref C12) = some false)
    (xm16_12 : PySem.W.exmOne K (.ref C16) (.ref C12) = some false)
    (xm3_12 : PySem.W.exmOne K (.ref C3) (.ref C12) = some false)
    (xm14_5 : PySem.W.exmOne K (.ref C14) (.ref C5) = some false)
    (xm7_5 : PySem.W.exmOne K (.ref C7) (.ref C5) = some false)
    (xm12_5 : PySem.W.exmOne K (.ref C12) (.ref C5) = some false)
    (xm5_5 : PySem.W.exmOne K (.ref C5) (.ref C5) = some true)
    (xm10_5 : PySem.W.exmOne K (.ref C10) (.ref C5) = some false)
    (xm2_5 : PySem.W.exmOne K (.ref C2) (.ref C5) = some false)
    (xm9_5 : PySem.W.exmOne K (.ref C9) (.ref C5) = some false)
    (xm1_5 : PySem.W.exmOne K (.ref C1) (.ref C5) = some false)
    (xm8_5 : PySem.W.exmOne K (.ref C8) (.ref C5) = some false)
    (xm13_5 : PySem.W.exmOne K (.ref C13) (.ref C5) = some false)
    (xm11_5 : PySem.W.exmOne K (.ref C11) (.ref C5) = some false)
    (xm6_5 : PySem.W.exmOne K (.ref C6) (.ref C5) = some false)
    (xm15_5 : PySem.W.exmOne K (.ref C15) (.ref C5) = some false)
    (xm16_5 : PySem.W.exmOne K (.ref C16) (.ref C5) = some false)
    (xm3_5 : PySem.W.exmOne K (.ref C3) (.ref C5) = some false)
    (xm14_10 : PySem.W.exmOne K (.ref C14) (.ref C10) = some false)
    (xm7_10 : PySem.W.exmOne K (.ref C7) (.ref C10) = some false)
    (xm12_10 : PySem.W.exmOne K (.ref C12) (.ref C10) = some false)
    (xm5_10 : PySem.W.exmOne K (.ref C5) (.ref C10) = some false)
    (xm10_10 : PySem.W.exmOne K (.ref C10) (.ref C10) = some true)
    (xm2_10 : PySem.W.exmOne K (.ref C2) (.ref C10) = some false)
    (xm9_10 : PySem.W.exmOne K (.ref C9) (.ref C10) = some false)
    (xm1_10 : PySem.W.exmOne K (.ref C1) (.ref C10) = some false)
    (xm8_10 : PySem.W.exmOne K (.ref C8) (.ref C10) = some false)
    (xm13_10 : PySem.W.exmOne K (.ref C13) (.ref C10) = some false)
    (xm11_10 : PySem.W.exmOne K (.ref C11) (.ref C10) = some false)
    (xm6_10 : PySem.W.exmOne K (.ref C6) (.ref C10) = some false)
    (xm15_10 : PySem.W.exmOne K (.ref C15) (.ref C10) = some false)
    (xm16_10 : PySem.W.exmOne K (.ref C16) (.ref C10) = some false)
    (xm3_10 : PySem.W.exmOne K (.ref C3) (.ref C10) = some false)
    (xm14_2 : PySem.W.exmOne K (.ref C14) (.ref C2) = some false)
    (xm7_2 : PySem.W.exmOne K (.ref C7) (.ref C2) = some false)
    (xm12_2 : PySem.W.exmOne K (.ref C12) (.ref C2) = some false)
    (xm5_2 : PySem.W.exmOne K (.ref C5) (.ref C2) = some false)
    (xm10_2 : PySem.W.exmOne K (.ref C10) (.ref C2) = some false)
    (xm2_2 : PySem.W.exmOne K (.ref C2) (.ref C2) = some true)
    (xm9_2 : PySem.W.exmOne K (.ref C9) (.ref C2) = some false)
    (xm1_2 : PySem.W.exmOne K (.ref C1) (.ref C2) = some false)
    (xm8_2 : PySem.W.exmOne K (.ref C8) (.ref C2) = some false)
    (xm13_2 : PySem.W.exmOne K (.ref C13) (.ref C2) = some false)
    (xm11_2 : PySem.W.exmOne K (.ref C11) (.ref C2) = some false)
    (xm6_2 : PySem.W.exmOne K (.ref C6) (.ref C2) = some false)
    (xm15_2 : PySem.W.exmOne K (.ref C15) (.ref C2) = some false)
    (xm16_2 : PySem.W.exmOne K (.ref C16) (.ref C2) = some false)
    (xm3_2 : PySem.W.exmOne K (.ref C3) (.ref C2) = some false)
    (xm14_9 : PySem.W.exmOne K (.ref C14) (.ref C9) = some false)
    (xm7_9 : PySem.W.exmOne K (.ref C7) (.ref C9) = some false)
    (xm12_9 : PySem.W.exmOne K (.ref C12) (.ref C9) = some false)
    (xm5_9 : PySem.W.exmOne K (.ref C5) (.ref C9) = some false)
    (xm10_9 : PySem.W.exmOne K (.ref C10) (.ref C9) = some false)
    (xm2_9 : PySem.W.exmOne K (.ref C2) (.ref C9) = some false)
    (xm9_9 : PySem.W.exmOne K (.ref C9) (.ref C9) = some true)
    (xm1_9 : PySem.W.exmOne K (.ref C1) (.ref C9) = some false)
    (xm8_9 : PySem.W.exmOne K (.ref C8) (.ref C9) = some false)
    (xm13_9 : PySem.W.exmOne K (.ref C13) (.ref C9) = some false)
    (xm11_9 : PySem.W.exmOne K (.ref C11) (.ref C9) = some false)
    (xm6_9 : PySem.W.exmOne K (.ref C6) (.ref C9) = some false)
    (xm15_9 : PySem.W.exmOne K (.ref C15) (.ref C9) = some false)
    (xm16_9 : PySem.W.exmOne K (.ref C16) (.ref C9) = some false)
    (xm3_9 : PySem.W.exmOne K (.ref C3) (.ref C9) = some false)
    (xm14_1 : PySem.W.exmOne K (.ref C14) (.ref C1) = some false)
    (xm7_1 : PySem.W.exmOne K (.ref C7) (.ref C1) = some false)
    (xm12_1 : PySem.W.exmOne K (.ref C12) (.ref C1) = some false)
    (xm5_1 : PySem.W.exmOne K (.ref C5) (.ref C1) = some false)
    (xm10_1 : PySem.W.exmOne K (.ref C10) (.ref C1) = some false)
    (xm2_1 : PySem.W.exmOne K (.ref C2) (.ref C1) = some false)
    (xm9_1 : PySem.W.exmOne K (.ref C9) (.ref C1) = some false)
    (xm1_1 : PySem.W.exmOne K (.ref C1) (.ref C1) = some true)
    (xm8_1 : PySem.W.exmOne K (.ref C8) (.ref C1) = some false)
    (xm13_1 : PySem.W.exmOne K (.ref C13) (.ref C1) = some false)
    (xm11_1 : PySem.W.exmOne K (.ref C11) (.ref C1) = some false)
    (xm6_1 : PySem.W.exmOne K (.ref C6) (.ref C1) = some false)
    (xm15_1 : PySem.W.exmOne K (.ref C15) (.ref C1) = some false)
    (xm16_1 : PySem.W.exmOne K (.ref C16) (.ref C1) = some false)
    (xm3_1 : PySem.W.exmOne K (.ref C3) (.ref C1) = some false)
    (xm14_8 : PySem.W.exmOne K (.ref C14) (.ref C8) = some false)
    (xm7_8 : PySem.W.exmOne K (.ref C7) (.ref C8) = some false)
    (xm12_8 : PySem.W.exmOne K (.ref C12) (.ref C8) = some false)
    (xm5_8 : PySem.W.exmOne K (.ref C5) (.ref C8) = some false)
    (xm10_8 : PySem.W.exmOne K (.ref C10) (.ref C8) = some false)
    (xm2_8 : PySem.W.exmOne K (.ref C2) (.ref C8) = some false)
    (xm9_8 : PySem.W.exmOne K (.ref C9) (.ref C8) = some false)
    (xm1_8 : PySem.W.exmOne K (.ref C1) (.ref C8) = some false)
    (xm8_8 : PySem.W.exmOne K (.ref C8) (.ref C8) = some true)
    (xm13_8 : PySem.W.exmOne K (.ref C13) (.ref C8) = some false)
    (xm11_8 : PySem.W.exmOne K (.ref C11) (.ref C8) = some false)
    (xm6_8 : PySem.W.exmOne K (.ref C6) (.ref C8) = some false)
    (xm15_8 : PySem.W.exmOne K (.ref C15) (.ref C8) = some false)
    (xm16_8 : PySem.W.exmOne K (.ref C16) (.ref C8) = some false)
    (xm3_8 : PySem.W.exmOne K (.ref C3) (.ref C8) = some false)
    (xm14_13 : PySem.W.exmOne K (.ref C14) (.ref C13) = some false)
    (xm7_13 : PySem.W.exmOne K (.ref C7) (.ref C13) = some false)
    (xm12_13 : PySem.W.exmOne K (.ref C12) (.ref C13) = some false)
    (xm5_13 : PySem.W.exmOne K (.ref C5) (.ref C13) = some false)
    (xm10_13 : PySem.W.exmOne K (.ref C10) (.ref C13) = some false)
    (xm2_13 : PySem.W.exmOne K (.ref C2) (.ref C13) = some false)
    (xm9_13 : PySem.W.exmOne K (.ref C9) (.ref C13) = some false)
    (xm1_13 : PySem.W.exmOne K (.ref C1) (.ref C13) = some false)
    (xm8_13 : PySem.W.exmOne K (.ref C8) (.ref C13) = some false)
    (xm13_13 : PySem.W.exmOne K (.ref C13) (.ref C13) = some true)
    (xm11_13 : PySem.W.exmOne K (.ref C11) (.ref C13) = some false)
    (xm6_13 : PySem.W.exmOne K (.ref C6) (.ref C13) = some false)
    (xm15_13 : PySem.W.exmOne K (.ref C15) (.ref C13) = some false)
    (xm16_13 : PySem.W.exmOne K (.ref C16) (.ref C13) = some false)
    (xm3_13 : PySem.W.exmOne K (.ref C3) (.ref C13) = some false)
    (xm14_11 : PySem.W.exmOne K (.ref C14) (.ref C11) = some false)
    (xm7_11 : PySem.W.exmOne K (.ref C7) (.ref C11) = some false)
    (xm12_11 : PySem.W.exmOne K (.ref C12) (.ref C11) = some false)
    (xm5_11 : PySem.W.exmOne K (.ref C5) (.ref C11) = some false)
    (xm10_11 : PySem.W.exmOne K (.ref C10) (.ref C11) = some false)
    (xm2_11 : PySem.W.exmOne K (.ref C2) (.ref C11) = some false)
    (xm9_11 : PySem.W.exmOne K (.ref C9) (.ref C11) = some false)
    (xm1_11 : PySem.W.exmOne K (.ref C1) (.ref C11) = some false)
    (xm8_11 : PySem.W.exmOne K (.ref C8) (.ref C11) = some false)
    (xm13_11 : PySem.W.exmOne K (.ref C13) (.ref C11) = some false)
    (xm11_11 : PySem.W.exmOne K (.ref C11) (.ref C11) = some true)
    (xm6_11 : PySem.W.exmOne K (.ref C6) (.ref C11) = some false)
    (xm15_11 : PySem.W.exmOne K (.ref C15) (.ref C11) = some false)
    (xm16_11 : PySem.W.exmOne K (.ref C16) (.ref C11) = some false)
    (xm3_11 : PySem.W.exmOne K (.ref C3) (.ref C11) = some false)
    (xm14_6 : PySem.W.exmOne K (.ref C14) (.ref C6) = some false)
    (xm7_6 : PySem.W.exmOne K (.ref C7) (.ref C6) = some false)
    (xm12_6 : PySem.W.exmOne K (.ref C12) (.ref C6) = some false)
    (xm5_6 : PySem.W.exmOne K (.ref C5) (.ref C6) = some false)
    (xm10_6 : PySem.W.exmOne K (.ref C10) (.ref C6) = some false)
    (xm2_6 : PySem.W.exmOne K (.ref C2) (.ref C6) = some false)
    (xm9_6 : PySem.W.exmOne K (.ref C9) (.ref C6) = some false)
    (xm1_6 : PySem.W.exmOne K (.ref C1) (.ref C6) = some false)
    (xm8_6 : PySem.W.exmOne K (.ref C8) (.ref C6) = some false)
    (xm13_6 : PySem.W.exmOne K (.ref C13) (.ref C6) = some false)
    (xm11_6 : PySem.W.exmOne K (.ref C11) (.ref C6) = some false)
    (xm6_6 : PySem.W.exmOne K (.ref C6) (.ref C6) = some true)
    (xm15_6 : PySem.W.exmOne K (.ref C15) (.ref C6) = some false)
    (xm16_6 : PySem.W.exmOne K (.ref C16) (.ref C6) = some false)
    (xm3_6 : PySem.W.exmOne K (.ref C3) (.ref C6) = some false)
    (xm14_15 : PySem.W.exmOne K (.ref C14) (.ref C15) = some false)
    (xm7_15 : PySem.W.exmOne K (.ref C7) (.ref C15) = some false)
    (xm12_15 : PySem.W.exmOne K (.ref C12) (.ref C15) = some false)
    (xm5_15 : PySem.W.exmOne K (.ref C5) (.ref C15) = some false)
    (xm10_15 : PySem.W.exmOne K (.ref C10) (.ref C15) = some false)
    (xm2_15 : PySem.W.exmOne K (.ref C2) (.ref C15) = some false)
    (xm9_15 : PySem.W.exmOne K (.ref C9) (.ref C15) = some false)
    (xm1_15 : PySem.W.exmOne K (.ref C1) (.ref C15) = some false)
    (xm8_15 : PySem.W.exmOne K (.ref C8) (.ref C15) = some false)
    (xm13_15 : PySem.W.exmOne K (.ref C13) (.ref C15) = some false)
    (xm11_15 : PySem.W.exmOne K (.ref C11) (.ref C15) = some false)
    (xm6_15 : PySem.W.exmOne K (.ref C6) (.ref C15) = some false)
    (xm15_15 : PySem.W.exmOne K (.ref C15) (.ref C15) = some true)
    (xm16_15 : PySem.W.exmOne K (.ref C16) (.ref C15) = some false)
    (xm3_15 : PySem.W.exmOne K (.ref C3) (.ref C15) = some false)
    (xm14_16 : PySem.W.exmOne K (.ref C14) (.ref C16) = some false)
    (xm7_16 : PySem.W.exmOne K (.ref C7) (.ref C16) = some false)
    (xm12_16 : PySem.W.exmOne K (.ref C12) (.ref C16) = some false)
    (xm5_16 : PySem.W.exmOne K (.ref C5) (.ref C16) = some false)
    (xm10_16 : PySem.W.exmOne K (.ref C10) (.ref C16) = some false)
    (xm2_16 : PySem.W.exmOne K (.ref C2) (.ref C16) = some false)
    (xm9_16 : PySem.W.exmOne K (.ref C9) (.ref C16) = some false)
    (xm1_16 : PySem.W.exmOne K (.ref C1) (.ref C16) = some false)
    (xm8_16 : PySem.W.exmOne K (.ref C8) (.ref C16) = some false)
    (xm13_16 : PySem.W.exmOne K (.ref C13) (.ref C16) = some false)
    (xm11_16 : PySem.W.exmOne K (.ref C11) (.ref C16) = some false)
    (xm6_16 : PySem.W.exmOne K (.ref C6) (.ref C16) = some false)
    (xm15_16 : PySem.W.exmOne K (.ref C15) (.ref C16) = some false)
    (xm16_16 : PySem.W.exmOne K (.ref C16) (.ref C16) = some true)
    (xm3_16 : PySem.W.exmOne K (.ref C3) (.ref C16) = some false)
    (xm14_3 : PySem.W.exmOne K (.ref C14) (.ref C3) = some false)
    (xm7_3 : PySem.W.exmOne K (.ref C7) (.ref C3) = some false)
    (xm12_3 : PySem.W.exmOne K (.ref C12) (.ref C3) = some false)
    (xm5_3 : PySem.W.exmOne K (.ref C5) (.ref C3) = some false)
    (xm10_3 : PySem.W.exmOne K (.ref C10) (.ref C3) = some false)
    (xm2_3 : PySem.W.exmOne K (.ref C2) (.ref C3) = some false)
    (xm9_3 : PySem.W.exmOne K (.ref C9) (.ref C3) = some false)
    (xm1_3 : PySem.W.exmOne K (.ref C1) (.ref C3) = some false)
    (xm8_3 : PySem.W.exmOne K (.ref C8) (.ref C3) = some false)
    (xm13_3 : PySem.W.exmOne K (.ref C13) (.ref C3) = some false)
    (xm11_3 : PySem.W.exmOne K (.ref C11) (.ref C3) = some false)
    (xm6_3 : PySem.W.exmOne K (.ref C6) (.ref C3) = some false)
    (xm15_3 : PySem.W.exmOne K (.ref C15) (.ref C3) = some false)
    (xm16_3 : PySem.W.exmOne K (.ref C16) (.ref C3) = some false)
    (xm3_3 : PySem.W.exmOne K (.ref C3) (.ref C3) = some true) :
    ∃ G : GG, G.fa 30 = fa ∧ ∀ base : Heap, K.In base → base.Ns mainGlobals mg → FnG PySem.Challenge.pw_takendown_k01_error_classes w K mg base 60 (G.fa 30) (spF G prg 60 30) := by
  have e : f30 = fa := by
    have e := hfa.symm.trans (PySem.W.mg_of X Gn a30)
    injection e with e
    injection e with e
    exact e.symm
  have T : Txt PySem.Challenge.pw_takendown_k01_error_classes w K mg (⟨K, fun i => [C0, C1, C2, C3, 0, C5, C6, C7, C8, C9, C10, C11, C12, C13, C14, C15, C16].getD i 0, fun i => [0, 0, 0, 0, 0, 0, 0, 0, 0, 0, 0, 0, 0, 0, 0, 0, 0, 0, 0, 0, 0, 0, 0, 0, 0, f25, 0, 0, 0, 0, f30, 0, f32, f33, f34, f35, f36].getD i 0⟩ : GG) :=
    { k := rfl
      fld := fun c f hcf => by cases hcf
      met := fun c m f hm => by
        simp [metT, metL] at hm
      cls := fun c C hC => by cases hC
      m_Exception := PySem.W.mg_none_of X Gn z_Exception
      m_KeyError := PySem.W.mg_none_of X Gn z_KeyError
      m_LookupError := PySem.W.mg_none_of X Gn z_LookupError
      m_OverflowError := PySem.W.mg_none_of X Gn z_OverflowError
      m_RuntimeError := PySem.W.mg_none_of X Gn z_RuntimeError
      m_ValueError := PySem.W.mg_none_of X Gn z_ValueError
      m_enumerate := PySem.W.mg_none_of X Gn z_enumerate
      m_int := PySem.W.mg_none_of X Gn z_int
      m_isinstance := PySem.W.mg_none_of X Gn z_isinstance
      m_len := PySem.W.mg_none_of X Gn z_len
      m_max := PySem.W.mg_none_of X Gn z_max
      m_range := PySem.W.mg_none_of X Gn z_range
      m_repr := PySem.W.mg_none_of X Gn z_repr
      m_super := PySem.W.mg_none_of X Gn z_super
      g_DownError := PySem.W.mg_of X Gn aC0
      g_InvalidCommand := PySem.W.mg_of X Gn aC14
      g_InvalidDevice := PySem.W.mg_of X Gn aC7
      g_InvalidEdit := PySem.W.mg_of X Gn aC12
      g_InvalidItem := PySem.W.mg_of X Gn aC5
      g_InvalidMove := PySem.W.mg_of X Gn aC10
      g_InvalidNumber := PySem.W.mg_of X Gn aC2
      g_InvalidState := PySem.W.mg_of X Gn aC9
      g_InvalidStep := PySem.W.mg_of X Gn aC1
      g_InvalidStock := PySem.W.mg_of X Gn aC8
      g_InvalidText := PySem.W.mg_of X Gn aC13
      g_LimitExceeded := PySem.W.mg_of X Gn aC11
      g_NotACrowd := PySem.W.mg_of X Gn aC6
      g_NotRight := PySem.W.mg_of X Gn aC15
      g_NothingToUndo := PySem.W.mg_of X Gn aC16
      g_UnknownName := PySem.W.mg_of X Gn aC3
      g__law_bases := PySem.W.mg_of X Gn a36
      k__law_bases := k36
      g__law_fields := PySem.W.mg_of X Gn a34
      k__law_fields := k34
      g__law_kinds := PySem.W.mg_of X Gn a35
      k__law_kinds := k35
      g__law_made := PySem.W.mg_of X Gn a32
      k__law_made := k32
      g__law_named := PySem.W.mg_of X Gn a33
      k__law_named := k33
      g__law_numbers := PySem.W.mg_of X Gn a25
      k__law_numbers := k25
      isiO := fun c a dx fs H hH hc => by cases hc
      isiK := fun t d h1 h2 => by
        cases t with
        | int =>
          cases d with
          | non => exact kb_NoneType_int
          | bl b => exact kb_bool_int
          | int i => exact kb_int_int
          | str x => exact kb_str_int
          | tup xs => exact kb_tuple_int
          | lst xs => exact kb_list_int
          | dic kvs => exact kb_dict_int
          | exc c fs => exact kb_NoneType_int
          | obj c fs => exact (nomatch h1 c fs rfl)
        | bool =>
          cases d with
          | non => exact kb_NoneType_bool
          | bl b => exact kb_bool_bool
          | int i => exact kb_int_bool
          | str x => exact kb_str_bool
          | tup xs => exact kb_tuple_bool
          | lst xs => exact kb_list_bool
          | dic kvs => exact kb_dict_bool
          | exc c fs => exact kb_NoneType_bool
          | obj c fs => exact (nomatch h1 c fs rfl)
        | str =>
          cases d with
          | non => exact kb_NoneType_str
          | bl b => exact kb_bool_str
          | int i => exact kb_int_str
          | str x => exact kb_str_str
          | tup xs => exact kb_tuple_str
          | lst xs => exact kb_list_str
          | dic kvs => exact kb_dict_str
          | exc c fs => exact kb_NoneType_str
          | obj c fs => exact (nomatch h1 c fs rfl)
        | tuple =>
          cases d with
          | non => exact kb_NoneType_tuple
          | bl b => exact kb_bool_tuple
          | int i => exact kb_int_tuple
          | str x => exact kb_str_tuple
          | tup xs => exact kb_tuple_tuple
          | lst xs => exact kb_list_tuple
          | dic kvs => exact kb_dict_tuple
          | exc c fs => exact kb_NoneType_tuple
          | obj c fs => exact (nomatch h1 c fs rfl)
        | list =>
          cases d with
          | non => exact kb_NoneType_list
          | bl b => exact kb_bool_list
          | int i => exact kb_int_list
          | str x => exact kb_str_list
          | tup xs => exact kb_tuple_list
          | lst xs => exact kb_list_list
          | dic kvs => exact kb_dict_list
          | exc c fs => exact kb_NoneType_list
          | obj c fs => exact (nomatch h1 c fs rfl)
        | dict =>
          cases d with
          | non => exact kb_NoneType_dict
          | bl b => exact kb_bool_dict
          | int i => exact kb_int_dict
          | str x => exact kb_str_dict
          | tup xs => exact kb_tuple_dict
          | lst xs => exact kb_list_dict
          | dic kvs => exact kb_dict_dict
          | exc c fs => exact kb_NoneType_dict
          | obj c fs => exact (nomatch h1 c fs rfl)
        | cls c2 => exact (nomatch h2 c2 rfl)
      eqN := fun c f hm => by
        simp [metT, metL] at hm
      giN := fun c f hm => by
        simp [metT, metL] at hm
      addL := fun c f hm => by
        simp [metT, metL] at hm
      addR := fun c f hm => by
        simp [metT, metL] at hm
      x_InvalidCommand := ⟨fI14, { FB := PySem.F.excBase_Exception, KF := PySem.W.kxs_Exception, SF := PySem.F.store_Exception, ini := xi14, over := xo14, sa := xsa14, iC := xii14, tI := xti14, kp := xkp14, exC := xex14, tyC := xty14, hd := xhd14, noF := (by intro f hf; simp only [List.mem_cons, List.not_mem_nil, or_false] at hf; subst hf; exact xnf14_0), hB := xB14, sup := xsp14, opq := opq, sub := xsu14, ne := by decide, few := by decide, top := by decide +kernel, fn := ⟨_, _, _, _, _, _, _, _, _, _, _, _, _, _, _, _, _, _, _, _, _, _, _, _, _, _, _, _, _, _, _, xl14, xc14, xcl14_, xv14, xf14, by rfl, xce14, (.cons .nil), rfl, by decide +kernel, rfl, rfl, rfl, by rfl, by rfl, by decide +kernel, ⟨fun s u us hl => match us, hl with | [_], _ => .of_eq rfl, fun _ s u us hl => match us, hl with | [_], _ => .of_eq rfl⟩⟩ }⟩
      e_InvalidCommand := fun j hj => by
        unfold xtT at hj
        split at hj
        · exact xm14_14
        · exact xm7_14
        · exact xm12_14
        · exact xm5_14
        · exact xm10_14
        · exact xm2_14
        · exact xm9_14
        · exact xm1_14
        · exact xm8_14
        · exact xm13_14
        · exact xm11_14
        · exact xm6_14
        · exact xm15_14
        · exact xm16_14
        · exact xm3_14
        · cases hj
      x_InvalidDevice := ⟨fI7, { FB := PySem.F.excBase_Exception, KF := PySem.W.kxs_Exception, SF := PySem.F.store_Exception, ini := xi7, over := xo7, sa := xsa7, iC := xii7, tI := xti7, kp := xkp7, exC := xex7, tyC := xty7, hd := xhd7, noF := (by intro f hf; simp only [List.mem_cons, List.not_mem_nil, or_false] at hf; rcases hf with rfl | rfl; exact xnf7_0; exact xnf7_1), hB := xB7, sup := xsp7, opq := opq, sub := xsu7, ne := by decide, few := by decide, top := by decide +kernel, fn := ⟨_, _, _, _, _, _, _, _, _, _, _, _, _, _, _, _, _, _, _, _, _, _, _, _, _, _, _, _, _, _, _, xl7, xc7, xcl7_, xv7, xf7, by rfl, xce7, (.cons (.cons .nil)), rfl, by decide +kernel, rfl, rfl, rfl, by rfl, by rfl, by decide +kernel, ⟨fun s u us hl => match us, hl with | [_, _], _ => .of_eq rfl, fun _ s u us hl => match us, hl with | [_, _], _ => .of_eq rfl⟩⟩ }⟩
      e_InvalidDevice := fun j hj => by
        unfold xtT at hj
        split at hj
        · exact xm14_7
        · exact xm7_7
        · exact xm12_7
        · exact xm5_7
        · exact xm10_7
        · exact xm2_7
        · exact xm9_7
        · exact xm1_7
        · exact xm8_7
        · exact xm13_7
        · exact xm11_7
        · exact xm6_7
        · exact xm15_7
        · exact xm16_7
        · exact xm3_7
        · cases hj
      x_InvalidEdit := ⟨fI12, { FB := PySem.F.excBase_Exception, KF := PySem.W.kxs_Exception, SF := PySem.F.store_Exception, ini := xi12, over := xo12, sa := xsa12, iC := xii12, tI := xti12, kp := xkp12, exC := xex12, tyC := xty12, hd := xhd12, noF := (by intro f hf; simp only [List.mem_cons, List.not_mem_nil, or_false] at hf; subst hf; exact xnf12_0), hB := xB12, sup := xsp12, opq := opq, sub := xsu12, ne := by decide, few := by decide, top := by decide +kernel, fn := ⟨_, _, _, _, _, _, _, _, _, _, _, _, _, _, _, _, _, _, _, _, _, _, _, _, _, _, _, _, _, _, _, xl12, xc12, xcl12_, xv12, xf12, by rfl, xce12, (.cons .nil), rfl, by decide +kernel, rfl, rfl, rfl, by rfl, by rfl, by decide +kernel, ⟨fun s u us hl => match us, hl with | [_], _ => .of_eq rfl, fun _ s u us hl => match us, hl with | [_], _ => .of_eq rfl⟩⟩ }⟩
      e_InvalidEdit := fun j hj => by
        unfold xtT at hj
        split at hj
        · exact xm14_12
        · exact xm7_12
        · exact xm12_12
        · exact xm5_12
        · exact xm10_12
        · exact xm2_12
        · exact xm9_12
        · exact xm1_12
        · exact xm8_12
        · exact xm13_12
        · exact xm11_12
        · exact xm6_12
        · exact xm15_12
        · exact xm16_12
        · exact xm3_12
        · cases hj
      x_InvalidItem := ⟨fI5, { FB := PySem.F.excBase_Exception, KF := PySem.W.kxs_Exception, SF := PySem.F.store_Exception, ini := xi5, over := xo5, sa := xsa5, iC := xii5, tI := xti5, kp := xkp5, exC := xex5, tyC := xty5, hd := xhd5, noF := (by intro f hf; simp only [List.mem_cons, List.not_mem_nil, or_false] at hf; subst hf; exact xnf5_0), hB := xB5, sup := xsp5, opq := opq, sub := xsu5, ne := by decide, few := by decide, top := by decide +kernel, fn := ⟨_, _, _, _, _, _, _, _, _, _, _, _, _, _, _, _, _, _, _, _, _, _, _, _, _, _, _, _, _, _, _, xl5, xc5, xcl5_, xv5, xf5, by rfl, xce5, (.cons .nil), rfl, by decide +kernel, rfl, rfl, rfl, by rfl, by rfl, by decide +kernel, ⟨fun s u us hl => match us, hl with | [_], _ => .of_eq rfl, fun _ s u us hl => match us, hl with | [_], _ => .of_eq rfl⟩⟩ }⟩
      e_InvalidItem := fun j hj => by
        unfold xtT at hj
        split at hj
        · exact xm14_5
        · exact xm7_5
        · exact xm12_5
        · exact xm5_5
        · exact xm10_5
        · exact xm2_5
        · exact xm9_5
        · exact xm1_5
        · exact xm8_5
        · exact xm13_5
        · exact xm11_5
        · exact xm6_5
        · exact xm15_5
        · exact xm16_5
        · exact xm3_5
        · cases hj
      x_InvalidMove := ⟨fI10, { FB := PySem.F.excBase_Exception, KF := PySem.W.kxs_Exception, SF := PySem.F.store_Exception, ini := xi10, over := xo10, sa := xsa10, iC := xii10, tI := xti10, kp := xkp10, exC := xex10, tyC := xty10, hd := xhd10, noF := (by intro f hf; simp only [List.mem_cons, List.not_mem_nil, or_false] at hf; subst hf; exact xnf10_0), hB := xB10, sup := xsp10, opq := opq, sub := xsu10, ne := by decide, few := by decide, top := by decide +kernel, fn := ⟨_, _, _, _, _, _, _, _, _, _, _, _, _, _, _, _, _, _, _, _, _, _, _, _, _, _, _, _, _, _, _, xl10, xc10, xcl10_, xv10, xf10, by rfl, xce10, (.cons .nil), rfl, by decide +kernel, rfl, rfl, rfl, by rfl, by rfl, by decide +kernel, ⟨fun s u us hl => match us, hl with | [_], _ => .of_eq rfl, fun _ s u us hl => match us, hl with | [_], _ => .of_eq rfl⟩⟩ }⟩
      e_InvalidMove := fun j hj => by
        unfold xtT at hj
        split at hj
        · exact xm14_10
        · exact xm7_10
        · exact xm12_10
        · exact xm5_10
        · exact xm10_10
        · exact xm2_10
        · exact xm9_10
        · exact xm1_10
        · exact xm8_10
        · exact xm13_10
        · exact xm11_10
        · exact xm6_10
        · exact xm15_10
        · exact xm16_10
        · exact xm3_10
        · cases hj
      x_InvalidNumber := ⟨fI2, { FB := PySem.F.excBase_ValueError, KF := PySem.W.kxs_ValueError, SF := PySem.F.store_ValueError, ini := xi2, over := xo2, sa := xsa2, iC := xii2, tI := xti2, kp := xkp2, exC := xex2, tyC := xty2, hd := xhd2, noF := (by intro f hf; simp only [List.mem_cons, List.not_mem_nil, or_false] at hf; subst hf; exact xnf2_0), hB := xB2, sup := xsp2, opq := opq, sub := xsu2, ne := by decide, few := by decide, top := by decide +kernel, fn := ⟨_, _, _, _, _, _, _, _, _, _, _, _, _, _, _, _, _, _, _, _, _, _, _, _, _, _, _, _, _, _, _, xl2, xc2, xcl2_, xv2, xf2, by rfl, xce2, (.cons .nil), rfl, by decide +kernel, rfl, rfl, rfl, by rfl, by rfl, by decide +kernel, ⟨fun s u us hl => match us, hl with | [_], _ => .of_eq rfl, fun _ s u us hl => match us, hl with | [_], _ => .of_eq rfl⟩⟩ }⟩
      e_InvalidNumber := fun j hj => by
        unfold xtT at hj
        split at hj
        · exact xm14_2
        · exact xm7_2
        · exact xm12_2
        · exact xm5_2
        · exact xm10_2
        · exact xm2_2
        · exact xm9_2
        · exact xm1_2
        · exact xm8_2
        · exact xm13_2
        · exact xm11_2
        · exact xm6_2
        · exact xm15_2
        · exact xm16_2
        · exact xm3_2
        · cases hj
      x_InvalidState := ⟨fI9, { FB := PySem.F.excBase_Exception, KF := PySem.W.kxs_Exception, SF := PySem.F.store_Exception, ini := xi9, over := xo9, sa := xsa9, iC := xii9, tI := xti9, kp := xkp9, exC := xex9, tyC := xty9, hd := xhd9, noF := (by intro f hf; simp only [List.mem_cons, List.not_mem_nil, or_false] at hf; subst hf; exact xnf9_0), hB := xB9, sup := xsp9, opq := opq, sub := xsu9, ne := by decide, few := by decide, top := by decide +kernel, fn := ⟨_, _, _, _, _, _, _, _, _, _, _, _, _, _, _, _, _, _, _, _, _, _, _, _, _, _, _, _, _, _, _, xl9, xc9, xcl9_, xv9, xf9, by rfl, xce9, (.cons .nil), rfl, by decide +kernel, rfl, rfl, rfl, by rfl, by rfl, by decide +kernel, ⟨fun s u us hl => match us, hl with | [_], _ => .of_eq rfl, fun _ s u us hl => match us, hl with | [_], _ => .of_eq rfl⟩⟩ }⟩
      e_InvalidState := fun j hj => by
        unfold xtT at hj
        split at hj
        · exact xm14_9
        · exact xm7_9
        · exact xm12_9
        · exact xm5_9
        · exact xm10_9
        · exact xm2_9
        · exact xm9_9
        · exact xm1_9
        · exact xm8_9
        · exact xm13_9
        · exact xm11_9
        · exact xm6_9
        · exact xm15_9
        · exact xm16_9
        · exact xm3_9
        · cases hj
      x_InvalidStep := ⟨fI1, { FB := PySem.F.excBase_Exception, KF := PySem.W.kxs_Exception, SF := PySem.F.store_Exception, ini := xi1, over := xo1, sa := xsa1, iC := xii1, tI := xti1, kp := xkp1, exC := xex1, tyC := xty1, hd := xhd1, noF := (by intro f hf; simp only [List.mem_cons, List.not_mem_nil, or_false] at hf; subst hf; exact xnf1_0), hB := xB1, sup := xsp1, opq := opq, sub := xsu1, ne := by decide, few := by decide, top := by decide +kernel, fn := ⟨_, _, _, _, _, _, _, _, _, _, _, _, _, _, _, _, _, _, _, _, _, _, _, _, _, _, _, _, _, _, _, xl1, xc1, xcl1_, xv1, xf1, by rfl, xce1, (.cons .nil), rfl, by decide +kernel, rfl, rfl, rfl, by rfl, by rfl, by decide +kernel, ⟨fun s u us hl => match us, hl with | [_], _ => .of_eq rfl, fun _ s u us hl => match us, hl with | [_], _ => .of_eq rfl⟩⟩ }⟩
      e_InvalidStep := fun j hj => by
        unfold xtT at hj
        split at hj
        · exact xm14_1
        · exact xm7_1
        · exact xm12_1
        · exact xm5_1
        · exact xm10_1
        · exact xm2_1
        · exact xm9_1
        · exact xm1_1
        · exact xm8_1
        · exact xm13_1
        · exact xm11_1
        · exact xm6_1
        · exact xm15_1
        · exact xm16_1
        · exact xm3_1
        · cases hj
      x_InvalidStock := ⟨fI8, { FB := PySem.F.excBase_Exception, KF := PySem.W.kxs_Exception, SF := PySem.F.store_Exception, ini := xi8, over := xo8, sa := xsa8, iC := xii8, tI := xti8, kp := xkp8, exC := xex8, tyC := xty8, hd := xhd8, noF := (by intro f hf; simp only [List.mem_cons, List.not_mem_nil, or_false] at hf; subst hf; exact xnf8_0), hB := xB8, sup := xsp8, opq := opq, sub := xsu8, ne := by decide, few := by decide, top := by decide +kernel, fn := ⟨_, _, _, _, _, _, _, _, _, _, _, _, _, _, _, _, _, _, _, _, _, _, _, _, _, _, _, _, _, _, _, xl8, xc8, xcl8_, xv8, xf8, by rfl, xce8, (.cons .nil), rfl, by decide +kernel, rfl, rfl, rfl, by rfl, by rfl, by decide +kernel, ⟨fun s u us hl => match us, hl with | [_], _ => .of_eq rfl, fun _ s u us hl => match us, hl with | [_], _ => .of_eq rfl⟩⟩ }⟩
      e_InvalidStock := fun j hj => by
        unfold xtT at hj
        split at hj
        · exact xm14_8
        · exact xm7_8
        · exact xm12_8
        · exact xm5_8
        · exact xm10_8
        · exact xm2_8
        · exact xm9_8
        · exact xm1_8
        · exact xm8_8
        · exact xm13_8
        · exact xm11_8
        · exact xm6_8
        · exact xm15_8
        · exact xm16_8
        · exact xm3_8
        · cases hj
      x_InvalidText := ⟨fI13, { FB := PySem.F.excBase_Exception, KF := PySem.W.kxs_Exception, SF := PySem.F.store_Exception, ini := xi13, over := xo13, sa := xsa13, iC := xii13, tI := xti13, kp := xkp13, exC := xex13, tyC := xty13, hd := xhd13, noF := (by intro f hf; simp only [List.mem_cons, List.not_mem_nil, or_false] at hf; subst hf; exact xnf13_0), hB := xB13, sup := xsp13, opq := opq, sub := xsu13, ne := by decide, few := by decide, top := by decide +kernel, fn := ⟨_, _, _, _, _, _, _, _, _, _, _, _, _, _, _, _, _, _, _, _, _, _, _, _, _, _, _, _, _, _, _, xl13, xc13, xcl13_, xv13, xf13, by rfl, xce13, (.cons .nil), rfl, by decide +kernel, rfl, rfl, rfl, by rfl, by rfl, by decide +kernel, ⟨fun s u us hl => match us, hl with | [_], _ => .of_eq rfl, fun _ s u us hl => match us, hl with | [_], _ => .of_eq rfl⟩⟩ }⟩
      e_InvalidText := fun j hj => by
        unfold xtT at hj
        split at hj
        · exact xm14_13
        · exact xm7_13
        · exact xm12_13
        · exact xm5_13
        · exact xm10_13
        · exact xm2_13
        · exact xm9_13
        · exact xm1_13
        · exact xm8_13
        · exact xm13_13
        · exact xm11_13
        · exact xm6_13
        · exact xm15_13
        · exact xm16_13
        · exact xm3_13
        · cases hj
      x_LimitExceeded := ⟨fI11, { FB := PySem.F.excBase_OverflowError, KF := PySem.W.kxs_OverflowError, SF := PySem.F.store_OverflowError, ini := xi11, over := xo11, sa := xsa11, iC := xii11, tI := xti11, kp := xkp11, exC := xex11, tyC := xty11, hd := xhd11, noF := (by intro f hf; simp only [List.mem_cons, List.not_mem_nil, or_false] at hf; subst hf; exact xnf11_0), hB := xB11, sup := xsp11, opq := opq, sub := xsu11, ne := by decide, few := by decide, top := by decide +kernel, fn := ⟨_, _, _, _, _, _, _, _, _, _, _, _, _, _, _, _, _, _, _, _, _, _, _, _, _, _, _, _, _, _, _, xl11, xc11, xcl11_, xv11, xf11, by rfl, xce11, (.cons .nil), rfl, by decide +kernel, rfl, rfl, rfl, by rfl, by rfl, by decide +kernel, ⟨fun s u us hl => match us, hl with | [_], _ => .of_eq rfl, fun _ s u us hl => match us, hl with | [_], _ => .of_eq rfl⟩⟩ }⟩
      e_LimitExceeded := fun j hj => by
        unfold xtT at hj
        split at hj
        · exact xm14_11
        · exact xm7_11
        · exact xm12_11
        · exact xm5_11
        · exact xm10_11
        · exact xm2_11
        · exact xm9_11
        · exact xm1_11
        · exact xm8_11
        · exact xm13_11
        · exact xm11_11
        · exact xm6_11
        · exact xm15_11
        · exact xm16_11
        · exact xm3_11
        · cases hj
      x_NotACrowd := ⟨fI6, { FB := PySem.F.excBase_Exception, KF := PySem.W.kxs_Exception, SF := PySem.F.store_Exception, ini := xi6, over := xo6, sa := xsa6, iC := xii6, tI := xti6, kp := xkp6, exC := xex6, tyC := xty6, hd := xhd6, noF := (by intro f hf; simp only [List.mem_cons, List.not_mem_nil, or_false] at hf; rcases hf with rfl | rfl; exact xnf6_0; exact xnf6_1), hB := xB6, sup := xsp6, opq := opq, sub := xsu6, ne := by decide, few := by decide, top := by decide +kernel, fn := ⟨_, _, _, _, _, _, _, _, _, _, _, _, _, _, _, _, _, _, _, _, _, _, _, _, _, _, _, _, _, _, _, xl6, xc6, xcl6_, xv6, xf6, by rfl, xce6, (.cons (.cons .nil)), rfl, by decide +kernel, rfl, rfl, rfl, by rfl, by rfl, by decide +kernel, ⟨fun s u us hl => match us, hl with | [_, _], _ => .of_eq rfl, fun _ s u us hl => match us, hl with | [_, _], _ => .of_eq rfl⟩⟩ }⟩
      e_NotACrowd := fun j hj => by
        unfold xtT at hj
        split at hj
        · exact xm14_6
        · exact xm7_6
        · exact xm12_6
        · exact xm5_6
        · exact xm10_6
        · exact xm2_6
        · exact xm9_6
        · exact xm1_6
        · exact xm8_6
        · exact xm13_6
        · exact xm11_6
        · exact xm6_6
        · exact xm15_6
        · exact xm16_6
        · exact xm3_6
        · cases hj
      x_NotRight := ⟨fI15, { FB := PySem.F.excBase_RuntimeError, KF := PySem.W.kxs_RuntimeError, SF := PySem.F.store_RuntimeError, ini := xi15, over := xo15, sa := xsa15, iC := xii15, tI := xti15, kp := xkp15, exC := xex15, tyC := xty15, hd := xhd15, noF := (by intro f hf; simp only [List.mem_cons, List.not_mem_nil, or_false] at hf; rcases hf with rfl | rfl; exact xnf15_0; exact xnf15_1), hB := xB15, sup := xsp15, opq := opq, sub := xsu15, ne := by decide, few := by decide, top := by decide +kernel, fn := ⟨_, _, _, _, _, _, _, _, _, _, _, _, _, _, _, _, _, _, _, _, _, _, _, _, _, _, _, _, _, _, _, xl15, xc15, xcl15_, xv15, xf15, by rfl, xce15, (.cons (.cons .nil)), rfl, by decide +kernel, rfl, rfl, rfl, by rfl, by rfl, by decide +kernel, ⟨fun s u us hl => match us, hl with | [_, _], _ => .of_eq rfl, fun _ s u us hl => match us, hl with | [_, _], _ => .of_eq rfl⟩⟩ }⟩
      e_NotRight := fun j hj => by
        unfold xtT at hj
        split at hj
        · exact xm14_15
        · exact xm7_15
        · exact xm12_15
        · exact xm5_15
        · exact xm10_15
        · exact xm2_15
        · exact xm9_15
        · exact xm1_15
        · exact xm8_15
        · exact xm13_15
        · exact xm11_15
        · exact xm6_15
        · exact xm15_15
        · exact xm16_15
        · exact xm3_15
        · cases hj
      x_NothingToUndo := ⟨fI16, { FB := PySem.F.excBase_RuntimeError, KF := PySem.W.kxs_RuntimeError, SF := PySem.F.store_RuntimeError, ini := xi16, over := xo16, sa := xsa16, iC := xii16, tI := xti16, kp := xkp16, exC := xex16, tyC := xty16, hd := xhd16, noF := (by intro f hf; simp only [List.mem_cons, List.not_mem_nil, or_false] at hf; subst hf; exact xnf16_0), hB := xB16, sup := xsp16, opq := opq, sub := xsu16, ne := by decide, few := by decide, top := by decide +kernel, fn := ⟨_, _, _, _, _, _, _, _, _, _, _, _, _, _, _, _, _, _, _, _, _, _, _, _, _, _, _, _, _, _, _, xl16, xc16, xcl16_, xv16, xf16, by rfl, xce16, (.cons .nil), rfl, by decide +kernel, rfl, rfl, rfl, by rfl, by rfl, by decide +kernel, ⟨fun s u us hl => match us, hl with | [_], _ => .of_eq rfl, fun _ s u us hl => match us, hl with | [_], _ => .of_eq rfl⟩⟩ }⟩
      e_NothingToUndo := fun j hj => by
        unfold xtT at hj
        split at hj
        · exact xm14_16
        · exact xm7_16
        · exact xm12_16
        · exact xm5_16
        · exact xm10_16
        · exact xm2_16
        · exact xm9_16
        · exact xm1_16
        · exact xm8_16
        · exact xm13_16
        · exact xm11_16
        · exact xm6_16
        · exact xm15_16
        · exact xm16_16
        · exact xm3_16
        · cases hj
      x_UnknownName := ⟨fI3, { FB := PySem.F.excBase_LookupError, KF := PySem.W.kxs_LookupError, SF := PySem.F.store_LookupError, ini := xi3, over := xo3, sa := xsa3, iC := xii3, tI := xti3, kp := xkp3, exC := xex3, tyC := xty3, hd := xhd3, noF := (by intro f hf; simp only [List.mem_cons, List.not_mem_nil, or_false] at hf; subst hf; exact xnf3_0), hB := xB3, sup := xsp3, opq := opq, sub := xsu3, ne := by decide, few := by decide, top := by decide +kernel, fn := ⟨_, _, _, _, _, _, _, _, _, _, _, _, _, _, _, _, _, _, _, _, _, _, _, _, _, _, _, _, _, _, _, xl3, xc3, xcl3_, xv3, xf3, by rfl, xce3, (.cons .nil), rfl, by decide +kernel, rfl, rfl, rfl, by rfl, by rfl, by decide +kernel, ⟨fun s u us hl => match us, hl with | [_], _ => .of_eq rfl, fun _ s u us hl => match us, hl with | [_], _ => .of_eq rfl⟩⟩ }⟩
      e_UnknownName := fun j hj => by
        unfold xtT at hj
        split at hj
        · exact xm14_3
        · exact xm7_3
        · exact xm12_3
        · exact xm5_3
        · exact xm10_3
        · exact xm2_3
        · exact xm9_3
        · exact xm1_3
        · exact xm8_3
        · exact xm13_3
        · exact xm11_3
        · exact xm6_3
        · exact xm15_3
        · exact xm16_3
        · exact xm3_3
        · cases hj
      kx_DownError := fun c r hc => by
        simp only [tab_DownError, List.lookup_cons, List.lookup_nil] at hc
        by_cases q14 : c = 14
        · subst q14
          cases hc
          exact ⟨⟨xcs14_, xga14, xgg14, xex14, xcc14, oget, otk, xmr14⟩, xk14_DownError⟩
        simp only [beq_eq_false_iff_ne.mpr q14] at hc
        by_cases q7 : c = 7
        · subst q7
          cases hc
          exact ⟨⟨xcs7_, xga7, xgg7, xex7, xcc7, oget, otk, xmr7⟩, xk7_DownError⟩
        simp only [beq_eq_false_iff_ne.mpr q7] at hc
        by_cases q12 : c = 12
        · subst q12
          cases hc
          exact ⟨⟨xcs12_, xga12, xgg12, xex12, xcc12, oget, otk, xmr12⟩, xk12_DownError⟩
        simp only [beq_eq_false_iff_ne.mpr q12] at hc
        by_cases q5 : c = 5
        · subst q5
          cases hc
          exact ⟨⟨xcs5_, xga5, xgg5, xex5, xcc5, oget, otk, xmr5⟩, xk5_DownError⟩
        simp only [beq_eq_false_iff_ne.mpr q5] at hc
        by_cases q10 : c = 10
        · subst q10
          cases hc
          exact ⟨⟨xcs10_, xga10, xgg10, xex10, xcc10, oget, otk, xmr10⟩, xk10_DownError⟩
        simp only [beq_eq_false_iff_ne.mpr q10] at hc
        by_cases q2 : c = 2
        · subst q2
          cases hc
          exact ⟨⟨xcs2_, xga2, xgg2, xex2, xcc2, oget, otk, xmr2⟩, xk2_DownError⟩
        simp only [beq_eq_false_iff_ne.mpr q2] at hc
        by_cases q9 : c = 9
        · subst q9
          cases hc
          exact ⟨⟨xcs9_, xga9, xgg9, xex9, xcc9, oget, otk, xmr9⟩, xk9_DownError⟩
        simp only [beq_eq_false_iff_ne.mpr q9] at hc
        by_cases q1 : c = 1
        · subst q1
          cases hc
          exact ⟨⟨xcs1_, xga1, xgg1, xex1, xcc1, oget, otk, xmr1⟩, xk1_DownError⟩
        simp only [beq_eq_false_iff_ne.mpr q1] at hc
        by_cases q8 : c = 8
        · subst q8
          cases hc
          exact ⟨⟨xcs8_, xga8, xgg8, xex8, xcc8, oget, otk, xmr8⟩, xk8_DownError⟩
        simp only [beq_eq_false_iff_ne.mpr q8] at hc
        by_cases q13 : c = 13
        · subst q13
          cases hc
          exact ⟨⟨xcs13_, xga13, xgg13, xex13, xcc13, oget, otk, xmr13⟩, xk13_DownError⟩
        simp only [beq_eq_false_iff_ne.mpr q13] at hc
        by_cases q11 : c = 11
        · subst q11
          cases hc
          exact ⟨⟨xcs11_, xga11, xgg11, xex11, xcc11, oget, otk, xmr11⟩, xk11_DownError⟩
        simp only [beq_eq_false_iff_ne.mpr q11] at hc
        by_cases q6 : c = 6
        · subst q6
          cases hc
          exact ⟨⟨xcs6_, xga6, xgg6, xex6, xcc6, oget, otk, xmr6⟩, xk6_DownError⟩
        simp only [beq_eq_false_iff_ne.mpr q6] at hc
        by_cases q15 : c = 15
        · subst q15
          cases hc
          exact ⟨⟨xcs15_, xga15, xgg15, xex15, xcc15, oget, otk, xmr15⟩, xk15_DownError⟩
        simp only [beq_eq_false_iff_ne.mpr q15] at hc
        by_cases q16 : c = 16
        · subst q16
          cases hc
          exact ⟨⟨xcs16_, xga16, xgg16, xex16, xcc16, oget, otk, xmr16⟩, xk16_DownError⟩
        simp only [beq_eq_false_iff_ne.mpr q16] at hc
        by_cases q3 : c = 3
        · subst q3
          cases hc
          exact ⟨⟨xcs3_, xga3, xgg3, xex3, xcc3, oget, otk, xmr3⟩, xk3_DownError⟩
        simp only [beq_eq_false_iff_ne.mpr q3] at hc
        cases hc
      kx_Exception := fun c r hc => by
        simp only [tab_Exception, List.lookup_cons, List.lookup_nil] at hc
        by_cases q14 : c = 14
        · subst q14
          cases hc
          exact ⟨⟨xcs14_, xga14, xgg14, xex14, xcc14, oget, otk, xmr14⟩, xk14_Exception⟩
        simp only [beq_eq_false_iff_ne.mpr q14] at hc
        by_cases q7 : c = 7
        · subst q7
          cases hc
          exact ⟨⟨xcs7_, xga7, xgg7, xex7, xcc7, oget, otk, xmr7⟩, xk7_Exception⟩
        simp only [beq_eq_false_iff_ne.mpr q7] at hc
        by_cases q12 : c = 12
        · subst q12
          cases hc
          exact ⟨⟨xcs12_, xga12, xgg12, xex12, xcc12, oget, otk, xmr12⟩, xk12_Exception⟩
        simp only [beq_eq_false_iff_ne.mpr q12] at hc
        by_cases q5 : c = 5
        · subst q5
          cases hc
          exact ⟨⟨xcs5_, xga5, xgg5, xex5, xcc5, oget, otk, xmr5⟩, xk5_Exception⟩
        simp only [beq_eq_false_iff_ne.mpr q5] at hc
        by_cases q10 : c = 10
        · subst q10
          cases hc
          exact ⟨⟨xcs10_, xga10, xgg10, xex10, xcc10, oget, otk, xmr10⟩, xk10_Exception⟩
        simp only [beq_eq_false_iff_ne.mpr q10] at hc
        by_cases q2 : c = 2
        · subst q2
          cases hc
          exact ⟨⟨xcs2_, xga2, xgg2, xex2, xcc2, oget, otk, xmr2⟩, xk2_Exception⟩
        simp only [beq_eq_false_iff_ne.mpr q2] at hc
        by_cases q9 : c = 9
        · subst q9
          cases hc
          exact ⟨⟨xcs9_, xga9, xgg9, xex9, xcc9, oget, otk, xmr9⟩, xk9_Exception⟩
        simp only [beq_eq_false_iff_ne.mpr q9] at hc
        by_cases q1 : c = 1
        · subst q1
          cases hc
          exact ⟨⟨xcs1_, xga1, xgg1, xex1, xcc1, oget, otk, xmr1⟩, xk1_Exception⟩
        simp only [beq_eq_false_iff_ne.mpr q1] at hc
        by_cases q8 : c = 8
        · subst q8
          cases hc
          exact ⟨⟨xcs8_, xga8, xgg8, xex8, xcc8, oget, otk, xmr8⟩, xk8_Exception⟩
        simp only [beq_eq_false_iff_ne.mpr q8] at hc
        by_cases q13 : c = 13
        · subst q13
          cases hc
          exact ⟨⟨xcs13_, xga13, xgg13, xex13, xcc13, oget, otk, xmr13⟩, xk13_Exception⟩
        simp only [beq_eq_false_iff_ne.mpr q13] at hc
        by_cases q11 : c = 11
        · subst q11
          cases hc
          exact ⟨⟨xcs11_, xga11, xgg11, xex11, xcc11, oget, otk, xmr11⟩, xk11_Exception⟩
        simp only [beq_eq_false_iff_ne.mpr q11] at hc
        by_cases q6 : c = 6
        · subst q6
          cases hc
          exact ⟨⟨xcs6_, xga6, xgg6, xex6, xcc6, oget, otk, xmr6⟩, xk6_Exception⟩
        simp only [beq_eq_false_iff_ne.mpr q6] at hc
        by_cases q15 : c = 15
        · subst q15
          cases hc
          exact ⟨⟨xcs15_, xga15, xgg15, xex15, xcc15, oget, otk, xmr15⟩, xk15_Exception⟩
        simp only [beq_eq_false_iff_ne.mpr q15] at hc
        by_cases q16 : c = 16
        · subst q16
          cases hc
          exact ⟨⟨xcs16_, xga16, xgg16, xex16, xcc16, oget, otk, xmr16⟩, xk16_Exception⟩
        simp only [beq_eq_false_iff_ne.mpr q16] at hc
        by_cases q3 : c = 3
        · subst q3
          cases hc
          exact ⟨⟨xcs3_, xga3, xgg3, xex3, xcc3, oget, otk, xmr3⟩, xk3_Exception⟩
        simp only [beq_eq_false_iff_ne.mpr q3] at hc
        cases hc
      kx_InvalidCommand := fun c r hc => by
        simp only [tab_InvalidCommand, List.lookup_cons, List.lookup_nil] at hc
        by_cases q14 : c = 14
        · subst q14
          cases hc
          exact ⟨⟨xcs14_, xga14, xgg14, xex14, xcc14, oget, otk, xmr14⟩, xk14_InvalidCommand⟩
        simp only [beq_eq_false_iff_ne.mpr q14] at hc
        by_cases q7 : c = 7
        · subst q7
          cases hc
          exact ⟨⟨xcs7_, xga7, xgg7, xex7, xcc7, oget, otk, xmr7⟩, xk7_InvalidCommand⟩
        simp only [beq_eq_false_iff_ne.mpr q7] at hc
        by_cases q12 : c = 12
        · subst q12
          cases hc
          exact ⟨⟨xcs12_, xga12, xgg12, xex12, xcc12, oget, otk, xmr12⟩, xk12_InvalidCommand⟩
        simp only [beq_eq_false_iff_ne.mpr q12] at hc
        by_cases q5 : c = 5
        · subst q5
          cases hc
          exact ⟨⟨xcs5_, xga5, xgg5, xex5, xcc5, oget, otk, xmr5⟩, xk5_InvalidCommand⟩
        simp only [beq_eq_false_iff_ne.mpr q5] at hc
        by_cases q10 : c = 10
        · subst q10
          cases hc
          exact ⟨⟨xcs10_, xga10, xgg10, xex10, xcc10, oget, otk, xmr10⟩, xk10_InvalidCommand⟩
        simp only [beq_eq_false_iff_ne.mpr q10] at hc
        by_cases q2 : c = 2
        · subst q2
          cases hc
          exact ⟨⟨xcs2_, xga2, xgg2, xex2, xcc2, oget, otk, xmr2⟩, xk2_InvalidCommand⟩
        simp only [beq_eq_false_iff_ne.mpr q2] at hc
        by_cases q9 : c = 9
        · subst q9
          cases hc
          exact ⟨⟨xcs9_, xga9, xgg9, xex9, xcc9, oget, otk, xmr9⟩, xk9_InvalidCommand⟩
        simp only [beq_eq_false_iff_ne.mpr q9] at hc
        by_cases q1 : c = 1
        · subst q1
          cases hc
          exact ⟨⟨xcs1_, xga1, xgg1, xex1, xcc1, oget, otk, xmr1⟩, xk1_InvalidCommand⟩
        simp only [beq_eq_false_iff_ne.mpr q1] at hc
        by_cases q8 : c = 8
        · subst q8
          cases hc
          exact ⟨⟨xcs8_, xga8, xgg8, xex8, xcc8, oget, otk, xmr8⟩, xk8_InvalidCommand⟩
        simp only [beq_eq_false_iff_ne.mpr q8] at hc
        by_cases q13 : c = 13
        · subst q13
          cases hc
          exact ⟨⟨xcs13_, xga13, xgg13, xex13, xcc13, oget, otk, xmr13⟩, xk13_InvalidCommand⟩
        simp only [beq_eq_false_iff_ne.mpr q13] at hc
        by_cases q11 : c = 11
        · subst q11
          cases hc
          exact ⟨⟨xcs11_, xga11, xgg11, xex11, xcc11, oget, otk, xmr11⟩, xk11_InvalidCommand⟩
        simp only [beq_eq_false_iff_ne.mpr q11] at hc
        by_cases q6 : c = 6
        · subst q6
          cases hc
          exact ⟨⟨xcs6_, xga6, xgg6, xex6, xcc6, oget, otk, xmr6⟩, xk6_InvalidCommand⟩
        simp only [beq_eq_false_iff_ne.mpr q6] at hc
        by_cases q15 : c = 15
        · subst q15
          cases hc
          exact ⟨⟨xcs15_, xga15, xgg15, xex15, xcc15, oget, otk, xmr15⟩, xk15_InvalidCommand⟩
        simp only [beq_eq_false_iff_ne.mpr q15] at hc
        by_cases q16 : c = 16
        · subst q16
          cases hc
          exact ⟨⟨xcs16_, xga16, xgg16, xex16, xcc16, oget, otk, xmr16⟩, xk16_InvalidCommand⟩
        simp only [beq_eq_false_iff_ne.mpr q16] at hc
        by_cases q3 : c = 3
        · subst q3
          cases hc
          exact ⟨⟨xcs3_, xga3, xgg3, xex3, xcc3, oget, otk, xmr3⟩, xk3_InvalidCommand⟩
        simp only [beq_eq_false_iff_ne.mpr q3] at hc
        cases hc
      kx_InvalidDevice := fun c r hc => by
        simp only [tab_InvalidDevice, List.lookup_cons, List.lookup_nil] at hc
        by_cases q14 : c = 14
        · subst q14
          cases hc
          exact ⟨⟨xcs14_, xga14, xgg14, xex14, xcc14, oget, otk, xmr14⟩, xk14_InvalidDevice⟩
        simp only [beq_eq_false_iff_ne.mpr q14] at hc
        by_cases q7 : c = 7
        · subst q7
          cases hc
          exact ⟨⟨xcs7_, xga7, xgg7, xex7, xcc7, oget, otk, xmr7⟩, xk7_InvalidDevice⟩
        simp only [beq_eq_false_iff_ne.mpr q7] at hc
        by_cases q12 : c = 12
        · subst q12
          cases hc
          exact ⟨⟨xcs12_, xga12, xgg12, xex12, xcc12, oget, otk, xmr12⟩, xk12_InvalidDevice⟩
        simp only [beq_eq_false_iff_ne.mpr q12] at hc
        by_cases q5 : c = 5
        · subst q5
          cases hc
          exact ⟨⟨xcs5_, xga5, xgg5, xex5, xcc5, oget, otk, xmr5⟩, xk5_InvalidDevice⟩
        simp only [beq_eq_false_iff_ne.mpr q5] at hc
        by_cases q10 : c = 10
        · subst q10
          cases hc
          exact ⟨⟨xcs10_, xga10, xgg10, xex10, xcc10, oget, otk, xmr10⟩, xk10_InvalidDevice⟩
        simp only [beq_eq_false_iff_ne.mpr q10] at hc
        by_cases q2 : c = 2
        · subst q2
          cases hc
          exact ⟨⟨xcs2_, xga2, xgg2, xex2, xcc2, oget, otk, xmr2⟩, xk2_InvalidDevice⟩
        simp only [beq_eq_false_iff_ne.mpr q2] at hc
        by_cases q9 : c = 9
        · subst q9
          cases hc
          exact ⟨⟨xcs9_, xga9, xgg9, xex9, xcc9, oget, otk, xmr9⟩, xk9_InvalidDevice⟩
        simp only [beq_eq_false_iff_ne.mpr q9] at hc
        by_cases q1 : c = 1
        · subst q1
          cases hc
          exact ⟨⟨xcs1_, xga1, xgg1, xex1, xcc1, oget, otk, xmr1⟩, xk1_InvalidDevice⟩
        simp only [beq_eq_false_iff_ne.mpr q1] at hc
        by_cases q8 : c = 8
        · subst q8
          cases hc
          exact ⟨⟨xcs8_, xga8, xgg8, xex8, xcc8, oget, otk, xmr8⟩, xk8_InvalidDevice⟩
        simp only [beq_eq_false_iff_ne.mpr q8] at hc
        by_cases q13 : c = 13
        · subst q13
          cases hc
          exact ⟨⟨xcs13_, xga13, xgg13, xex13, xcc13, oget, otk, xmr13⟩, xk13_InvalidDevice⟩
        simp only [beq_eq_false_iff_ne.mpr q13] at hc
        by_cases q11 : c = 11
        · subst q11
          cases hc
          exact ⟨⟨xcs11_, xga11, xgg11, xex11, xcc11, oget, otk, xmr11⟩, xk11_InvalidDevice⟩
        simp only [beq_eq_false_iff_ne.mpr q11] at hc
        by_cases q6 : c = 6
        · subst q6
          cases hc
          exact ⟨⟨xcs6_, xga6, xgg6, xex6, xcc6, oget, otk, xmr6⟩, xk6_InvalidDevice⟩
        simp only [beq_eq_false_iff_ne.mpr q6] at hc
        by_cases q15 : c = 15
        · subst q15
          cases hc
          exact ⟨⟨xcs15_, xga15, xgg15, xex15, xcc15, oget, otk, xmr15⟩, xk15_InvalidDevice⟩
        simp only [beq_eq_false_iff_ne.mpr q15] at hc
        by_cases q16 : c = 16
        · subst q16
          cases hc
          exact ⟨⟨xcs16_, xga16, xgg16, xex16, xcc16, oget, otk, xmr16⟩, xk16_InvalidDevice⟩
        simp only [beq_eq_false_iff_ne.mpr q16] at hc
        by_cases q3 : c = 3
        · subst q3
          cases hc
          exact ⟨⟨xcs3_, xga3, xgg3, xex3, xcc3, oget, otk, xmr3⟩, xk3_InvalidDevice⟩
        simp only [beq_eq_false_iff_ne.mpr q3] at hc
        cases hc
      kx_InvalidEdit := fun c r hc => by
        simp only [tab_InvalidEdit, List.lookup_cons, List.lookup_nil] at hc
        by_cases q14 : c = 14
        · subst q14
          cases hc
          exact ⟨⟨xcs14_, xga14, xgg14, xex14, xcc14, oget, otk, xmr14⟩, xk14_InvalidEdit⟩
        simp only [beq_eq_false_iff_ne.mpr q14] at hc
        by_cases q7 : c = 7
        · subst q7
          cases hc
          exact ⟨⟨xcs7_, xga7, xgg7, xex7, xcc7, oget, otk, xmr7⟩, xk7_InvalidEdit⟩
        simp only [beq_eq_false_iff_ne.mpr q7] at hc
        by_cases q12 : c = 12
        · subst q12
          cases hc
          exact ⟨⟨xcs12_, xga12, xgg12, xex12, xcc12, oget, otk, xmr12⟩, xk12_InvalidEdit⟩
        simp only [beq_eq_false_iff_ne.mpr q12] at hc
        by_cases q5 : c = 5
        · subst q5
          cases hc
          exact ⟨⟨xcs5_, xga5, xgg5, xex5, xcc5, oget, otk, xmr5⟩, xk5_InvalidEdit⟩
        simp only [beq_eq_false_iff_ne.mpr q5] at hc
        by_cases q10 : c = 10
        · subst q10
          cases hc
          exact ⟨⟨xcs10_, xga10, xgg10, xex10, xcc10, oget, otk, xmr10⟩, xk10_InvalidEdit⟩
        simp only [beq_eq_false_iff_ne.mpr q10] at hc
        by_cases q2 : c = 2
        · subst q2
          cases hc
          exact ⟨⟨xcs2_, xga2, xgg2, xex2, xcc2, oget, otk, xmr2⟩, xk2_InvalidEdit⟩
        simp only [beq_eq_false_iff_ne.mpr q2] at hc
        by_cases q9 : c = 9
        · subst q9
          cases hc
          exact ⟨⟨xcs9_, xga9, xgg9, xex9, xcc9, oget, otk, xmr9⟩, xk9_InvalidEdit⟩
        simp only [beq_eq_false_iff_ne.mpr q9] at hc
        by_cases q1 : c = 1
        · subst q1
          cases hc
          exact ⟨⟨xcs1_, xga1, xgg1, xex1, xcc1, oget, otk, xmr1⟩, xk1_InvalidEdit⟩
        simp only [beq_eq_false_iff_ne.mpr q1] at hc
        by_cases q8 : c = 8
        · subst q8
          cases hc
          exact ⟨⟨xcs8_, xga8, xgg8, xex8, xcc8, oget, otk, xmr8⟩, xk8_InvalidEdit⟩
        simp only [beq_eq_false_iff_ne.mpr q8] at hc
        by_cases q13 : c = 13
        · subst q13
          cases hc
          exact ⟨⟨xcs13_, xga13, xgg13, xex13, xcc13, oget, otk, xmr13⟩, xk13_InvalidEdit⟩
        simp only [beq_eq_false_iff_ne.mpr q13] at hc
        by_cases q11 : c = 11
        · subst q11
          cases hc
          exact ⟨⟨xcs11_, xga11, xgg11, xex11, xcc11, oget, otk, xmr11⟩, xk11_InvalidEdit⟩
        simp only [beq_eq_false_iff_ne.mpr q11] at hc
        by_cases q6 : c = 6
        · subst q6
          cases hc
          exact ⟨⟨xcs6_, xga6, xgg6, xex6, xcc6, oget, otk, xmr6⟩, xk6_InvalidEdit⟩
        simp only [beq_eq_false_iff_ne.mpr q6] at hc
        by_cases q15 : c = 15
        · subst q15
          cases hc
          exact ⟨⟨xcs15_, xga15, xgg15, xex15, xcc15, oget, otk, xmr15⟩, xk15_InvalidEdit⟩
        simp only [beq_eq_false_iff_ne.mpr q15] at hc
        by_cases q16 : c = 16
        · subst q16
          cases hc
          exact ⟨⟨xcs16_, xga16, xgg16, xex16, xcc16, oget, otk, xmr16⟩, xk16_InvalidEdit⟩
        simp only [beq_eq_false_iff_ne.mpr q16] at hc
        by_cases q3 : c = 3
        · subst q3
          cases hc
          exact ⟨⟨xcs3_, xga3, xgg3, xex3, xcc3, oget, otk, xmr3⟩, xk3_InvalidEdit⟩
        simp only [beq_eq_false_iff_ne.mpr q3] at hc
        cases hc
      kx_InvalidItem := fun c r hc => by
        simp only [tab_InvalidItem, List.lookup_cons, List.lookup_nil] at hc
        by_cases q14 : c = 14
        · subst q14
          cases hc
          exact ⟨⟨xcs14_, xga14, xgg14, xex14, xcc14, oget, otk, xmr14⟩, xk14_InvalidItem⟩
        simp only [beq_eq_false_iff_ne.mpr q14] at hc
        by_cases q7 : c = 7
        · subst q7
          cases hc
          exact ⟨⟨xcs7_, xga7, xgg7, xex7, xcc7, oget, otk, xmr7⟩, xk7_InvalidItem⟩
        simp only [beq_eq_false_iff_ne.mpr q7] at hc
        by_cases q12 : c = 12
        · subst q12
          cases hc
          exact ⟨⟨xcs12_, xga12, xgg12, xex12, xcc12, oget, otk, xmr12⟩, xk12_InvalidItem⟩
        simp only [beq_eq_false_iff_ne.mpr q12] at hc
        by_cases q5 : c = 5
        · subst q5
          cases hc
          exact ⟨⟨xcs5_, xga5, xgg5, xex5, xcc5, oget, otk, xmr5⟩, xk5_InvalidItem⟩
        simp only [beq_eq_false_iff_ne.mpr q5] at hc
        by_cases q10 : c = 10
        · subst q10
          cases hc
          exact ⟨⟨xcs10_, xga10, xgg10, xex10, xcc10, oget, otk, xmr10⟩, xk10_InvalidItem⟩
        simp only [beq_eq_false_iff_ne.mpr q10] at hc
        by_cases q2 : c = 2
        · subst q2
          cases hc
          exact ⟨⟨xcs2_, xga2, xgg2, xex2, xcc2, oget, otk, xmr2⟩, xk2_InvalidItem⟩
        simp only [beq_eq_false_iff_ne.mpr q2] at hc
        by_cases q9 : c = 9
        · subst q9
          cases hc
          exact ⟨⟨xcs9_, xga9, xgg9, xex9, xcc9, oget, otk, xmr9⟩, xk9_InvalidItem⟩
        simp only [beq_eq_false_iff_ne.mpr q9] at hc
        by_cases q1 : c = 1
        · subst q1
          cases hc
          exact ⟨⟨xcs1_, xga1, xgg1, xex1, xcc1, oget, otk, xmr1⟩, xk1_InvalidItem⟩
        simp only [beq_eq_false_iff_ne.mpr q1] at hc
        by_cases q8 : c = 8
        · subst q8
          cases hc
          exact ⟨⟨xcs8_, xga8, xgg8, xex8, xcc8, oget, otk, xmr8⟩, xk8_InvalidItem⟩
        simp only [beq_eq_false_iff_ne.mpr q8] at hc
        by_cases q13 : c = 13
        · subst q13
          cases hc
          exact ⟨⟨xcs13_, xga13, xgg13, xex13, xcc13, oget, otk, xmr13⟩, xk13_InvalidItem⟩
        simp only [beq_eq_false_iff_ne.mpr q13] at hc
        by_cases q11 : c = 11
        · subst q11
          cases hc
          exact ⟨⟨xcs11_, xga11, xgg11, xex11, xcc11, oget, otk, xmr11⟩, xk11_InvalidItem⟩
        simp only [beq_eq_false_iff_ne.mpr q11] at hc
        by_cases q6 : c = 6
        · subst q6
          cases hc
          exact ⟨⟨xcs6_, xga6, xgg6, xex6, xcc6, oget, otk, xmr6⟩, xk6_InvalidItem⟩
        simp only [beq_eq_false_iff_ne.mpr q6] at hc
        by_cases q15 : c = 15
        · subst q15
          cases hc
          exact ⟨⟨xcs15_, xga15, xgg15, xex15, xcc15, oget, otk, xmr15⟩, xk15_InvalidItem⟩
        simp only [beq_eq_false_iff_ne.mpr q15] at hc
        by_cases q16 : c = 16
        · subst q16
          cases hc
          exact ⟨⟨xcs16_, xga16, xgg16, xex16, xcc16, oget, otk, xmr16⟩, xk16_InvalidItem⟩
        simp only [beq_eq_false_iff_ne.mpr q16] at hc
        by_cases q3 : c = 3
        · subst q3
          cases hc
          exact ⟨⟨xcs3_, xga3, xgg3, xex3, xcc3, oget, otk, xmr3⟩, xk3_InvalidItem⟩
        simp only [beq_eq_false_iff_ne.mpr q3] at hc
        cases hc
      kx_InvalidMove := fun c r hc => by
        simp only [tab_InvalidMove, List.lookup_cons, List.lookup_nil] at hc
        by_cases q14 : c = 14
        · subst q14
          cases hc
          exact ⟨⟨xcs14_, xga14, xgg14, xex14, xcc14, oget, otk, xmr14⟩, xk14_InvalidMove⟩
        simp only [beq_eq_false_iff_ne.mpr q14] at hc
        by_cases q7 : c = 7
        · subst q7
          cases hc
          exact ⟨⟨xcs7_, xga7, xgg7, xex7, xcc7, oget, otk, xmr7⟩, xk7_InvalidMove⟩
        simp only [beq_eq_false_iff_ne.mpr q7] at hc
        by_cases q12 : c = 12
        · subst q12
          cases hc
          exact ⟨⟨xcs12_, xga12, xgg12, xex12, xcc12, oget, otk, xmr12⟩, xk12_InvalidMove⟩
        simp only [beq_eq_false_iff_ne.mpr q12] at hc
        by_cases q5 : c = 5
        · subst q5
          cases hc
          exact ⟨⟨xcs5_, xga5, xgg5, xex5, xcc5, oget, otk, xmr5⟩, xk5_InvalidMove⟩
        simp only [beq_eq_false_iff_ne.mpr q5] at hc
        by_cases q10 : c = 10
        · subst q10
          cases hc
          exact ⟨⟨xcs10_, xga10, xgg10, xex10, xcc10, oget, otk, xmr10⟩, xk10_InvalidMove⟩
        simp only [beq_eq_false_iff_ne.mpr q10] at hc
        by_cases q2 : c = 2
        · subst q2
          cases hc
          exact ⟨⟨xcs2_, xga2, xgg2, xex2, xcc2, oget, otk, xmr2⟩, xk2_InvalidMove⟩
        simp only [beq_eq_false_iff_ne.mpr q2] at hc
        by_cases q9 : c = 9
        · subst q9
          cases hc
          exact ⟨⟨xcs9_, xga9, xgg9, xex9, xcc9, oget, otk, xmr9⟩, xk9_InvalidMove⟩
        simp only [beq_eq_false_iff_ne.mpr q9] at hc
        by_cases q1 : c = 1
        · subst q1
          cases hc
          exact ⟨⟨xcs1_, xga1, xgg1, xex1, xcc1, oget, otk, xmr1⟩, xk1_InvalidMove⟩
        simp only [beq_eq_false_iff_ne.mpr q1] at hc
        by_cases q8 : c = 8
        · subst q8
          cases hc
          exact ⟨⟨xcs8_, xga8, xgg8, xex8, xcc8, oget, otk, xmr8⟩, xk8_InvalidMove⟩
        simp only [beq_eq_false_iff_ne.mpr q8] at hc
        by_cases q13 : c = 13
        · subst q13
          cases hc
          exact ⟨⟨xcs13_, xga13, xgg13, xex13, xcc13, oget, otk, xmr13⟩, xk13_InvalidMove⟩
        simp only [beq_eq_false_iff_ne.mpr q13] at hc
        by_cases q11 : c = 11
        · subst q11
          cases hc
          exact ⟨⟨xcs11_, xga11, xgg11, xex11, xcc11, oget, otk, xmr11⟩, xk11_InvalidMove⟩
        simp only [beq_eq_false_iff_ne.mpr q11] at hc
        by_cases q6 : c = 6
        · subst q6
          cases hc
          exact ⟨⟨xcs6_, xga6, xgg6, xex6, xcc6, oget, otk, xmr6⟩, xk6_InvalidMove⟩
        simp only [beq_eq_false_iff_ne.mpr q6] at hc
        by_cases q15 : c = 15
        · subst q15
          cases hc
          exact ⟨⟨xcs15_, xga15, xgg15, xex15, xcc15, oget, otk, xmr15⟩, xk15_InvalidMove⟩
        simp only [beq_eq_false_iff_ne.mpr q15] at hc
        by_cases q16 : c = 16
        · subst q16
          cases hc
          exact ⟨⟨xcs16_, xga16, xgg16, xex16, xcc16, oget, otk, xmr16⟩, xk16_InvalidMove⟩
        simp only [beq_eq_false_iff_ne.mpr q16] at hc
        by_cases q3 : c = 3
        · subst q3
          cases hc
          exact ⟨⟨xcs3_, xga3, xgg3, xex3, xcc3, oget, otk, xmr3⟩, xk3_InvalidMove⟩
        simp only [beq_eq_false_iff_ne.mpr q3] at hc
        cases hc
      kx_InvalidNumber := fun c r hc => by
        simp only [tab_InvalidNumber, List.lookup_cons, List.lookup_nil] at hc
        by_cases q14 : c = 14
        · subst q14
          cases hc
          exact ⟨⟨xcs14_, xga14, xgg14, xex14, xcc14, oget, otk, xmr14⟩, xk14_InvalidNumber⟩
        simp only [beq_eq_false_iff_ne.mpr q14] at hc
        by_cases q7 : c = 7
        · subst q7
          cases hc
          exact ⟨⟨xcs7_, xga7, xgg7, xex7, xcc7, oget, otk, xmr7⟩, xk7_InvalidNumber⟩
        simp only [beq_eq_false_iff_ne.mpr q7] at hc
        by_cases q12 : c = 12
        · subst q12
          cases hc
          exact ⟨⟨xcs12_, xga12, xgg12, xex12, xcc12, oget, otk, xmr12⟩, xk12_InvalidNumber⟩
        simp only [beq_eq_false_iff_ne.mpr q12] at hc
        by_cases q5 : c = 5
        · subst q5
          cases hc
          exact ⟨⟨xcs5_, xga5, xgg5, xex5, xcc5, oget, otk, xmr5⟩, xk5_InvalidNumber⟩
        simp only [beq_eq_false_iff_ne.mpr q5] at hc
        by_cases q10 : c = 10
        · subst q10
          cases hc
          exact ⟨⟨xcs10_, xga10, xgg10, xex10, xcc10, oget, otk, xmr10⟩, xk10_InvalidNumber⟩
        simp only [beq_eq_false_iff_ne.mpr q10] at hc
        by_cases q2 : c = 2
        · subst q2
          cases hc
          exact ⟨⟨xcs2_, xga2, xgg2, xex2, xcc2, oget, otk, xmr2⟩, xk2_InvalidNumber⟩
        simp only [beq_eq_false_iff_ne.mpr q2] at hc
        by_cases q9 : c = 9
        · subst q9
          cases hc
          exact ⟨⟨xcs9_, xga9, xgg9, xex9, xcc9, oget, otk, xmr9⟩, xk9_InvalidNumber⟩
        simp only [beq_eq_false_iff_ne.mpr q9] at hc
        by_cases q1 : c = 1
        · subst q1
          cases hc
          exact ⟨⟨xcs1_, xga1, xgg1, xex1, xcc1, oget, otk, xmr1⟩, xk1_InvalidNumber⟩
        simp only [beq_eq_false_iff_ne.mpr q1] at hc
        by_cases q8 : c = 8
        · subst q8
          cases hc
          exact ⟨⟨xcs8_, xga8, xgg8, xex8, xcc8, oget, otk, xmr8⟩, xk8_InvalidNumber⟩
        simp only [beq_eq_false_iff_ne.mpr q8] at hc
        by_cases q13 : c = 13
        · subst q13
          cases hc
          exact ⟨⟨xcs13_, xga13, xgg13, xex13, xcc13, oget, otk, xmr13⟩, xk13_InvalidNumber⟩
        simp only [beq_eq_false_iff_ne.mpr q13] at hc
        by_cases q11 : c = 11
        · subst q11
          cases hc
          exact ⟨⟨xcs11_, xga11, xgg11, xex11, xcc11, oget, otk, xmr11⟩, xk11_InvalidNumber⟩
        simp only [beq_eq_false_iff_ne.mpr q11] at hc
        by_cases q6 : c = 6
        · subst q6
          cases hc
          exact ⟨⟨xcs6_, xga6, xgg6, xex6, xcc6, oget, otk, xmr6⟩, xk6_InvalidNumber⟩
        simp only [beq_eq_false_iff_ne.mpr q6] at hc
        by_cases q15 : c = 15
        · subst q15
          cases hc
          exact ⟨⟨xcs15_, xga15, xgg15, xex15, xcc15, oget, otk, xmr15⟩, xk15_InvalidNumber⟩
        simp only [beq_eq_false_iff_ne.mpr q15] at hc
        by_cases q16 : c = 16
        · subst q16
          cases hc
          exact ⟨⟨xcs16_, xga16, xgg16, xex16, xcc16, oget, otk, xmr16⟩, xk16_InvalidNumber⟩
        simp only [beq_eq_false_iff_ne.mpr q16] at hc
        by_cases q3 : c = 3
        · subst q3
          cases hc
          exact ⟨⟨xcs3_, xga3, xgg3, xex3, xcc3, oget, otk, xmr3⟩, xk3_InvalidNumber⟩
        simp only [beq_eq_false_iff_ne.mpr q3] at hc
        cases hc
      kx_InvalidState := fun c r hc => by
        simp only [tab_InvalidState, List.lookup_cons, List.lookup_nil] at hc
        by_cases q14 : c = 14
        · subst q14
          cases hc
          exact ⟨⟨xcs14_, xga14, xgg14, xex14, xcc14, oget, otk, xmr14⟩, xk14_InvalidState⟩
        simp only [beq_eq_false_iff_ne.mpr q14] at hc
        by_cases q7 : c = 7
        · subst q7
          cases hc
          exact ⟨⟨xcs7_, xga7, xgg7, xex7, xcc7, oget, otk, xmr7⟩, xk7_InvalidState⟩
        simp only [beq_eq_false_iff_ne.mpr q7] at hc
        by_cases q12 : c = 12
        · subst q12
          cases hc
          exact ⟨⟨xcs12_, xga12, xgg12, xex12, xcc12, oget, otk, xmr12⟩, xk12_InvalidState⟩
        simp only [beq_eq_false_iff_ne.mpr q12] at hc
        by_cases q5 : c = 5
        · subst q5
          cases hc
          exact ⟨⟨xcs5_, xga5, xgg5, xex5, xcc5, oget, otk, xmr5⟩, xk5_InvalidState⟩
        simp only [beq_eq_false_iff_ne.mpr q5] at hc
        by_cases q10 : c = 10
        · subst q10
          cases hc
          exact ⟨⟨xcs10_, xga10, xgg10, xex10, xcc10, oget, otk, xmr10⟩, xk10_InvalidState⟩
        simp only [beq_eq_false_iff_ne.mpr q10] at hc
        by_cases q2 : c = 2
        · subst q2
          cases hc
          exact ⟨⟨xcs2_, xga2, xgg2, xex2, xcc2, oget, otk, xmr2⟩, xk2_InvalidState⟩
        simp only [beq_eq_false_iff_ne.mpr q2] at hc
        by_cases q9 : c = 9
        · subst q9
          cases hc
          exact ⟨⟨xcs9_, xga9, xgg9, xex9, xcc9, oget, otk, xmr9⟩, xk9_InvalidState⟩
        simp only [beq_eq_false_iff_ne.mpr q9] at hc
        by_cases q1 : c = 1
        · subst q1
          cases hc
          exact ⟨⟨xcs1_, xga1, xgg1, xex1, xcc1, oget, otk, xmr1⟩, xk1_InvalidState⟩
        simp only [beq_eq_false_iff_ne.mpr q1] at hc
        by_cases q8 : c = 8
        · subst q8
          cases hc
          exact ⟨⟨xcs8_, xga8, xgg8, xex8, xcc8, oget, otk, xmr8⟩, xk8_InvalidState⟩
        simp only [beq_eq_false_iff_ne.mpr q8] at hc
        by_cases q13 : c = 13
        · subst q13
          cases hc
          exact ⟨⟨xcs13_, xga13, xgg13, xex13, xcc13, oget, otk, xmr13⟩, xk13_InvalidState⟩
        simp only [beq_eq_false_iff_ne.mpr q13] at hc
        by_cases q11 : c = 11
        · subst q11
          cases hc
          exact ⟨⟨xcs11_, xga11, xgg11, xex11, xcc11, oget, otk, xmr11⟩, xk11_InvalidState⟩
        simp only [beq_eq_false_iff_ne.mpr q11] at hc
        by_cases q6 : c = 6
        · subst q6
          cases hc
          exact ⟨⟨xcs6_, xga6, xgg6, xex6, xcc6, oget, otk, xmr6⟩, xk6_InvalidState⟩
        simp only [beq_eq_false_iff_ne.mpr q6] at hc
        by_cases q15 : c = 15
        · subst q15
          cases hc
          exact ⟨⟨xcs15_, xga15, xgg15, xex15, xcc15, oget, otk, xmr15⟩, xk15_InvalidState⟩
        simp only [beq_eq_false_iff_ne.mpr q15] at hc
        by_cases q16 : c = 16
        · subst q16
          cases hc
          exact ⟨⟨xcs16_, xga16, xgg16, xex16, xcc16, oget, otk, xmr16⟩, xk16_InvalidState⟩
        simp only [beq_eq_false_iff_ne.mpr q16] at hc
        by_cases q3 : c = 3
        · subst q3
          cases hc
          exact ⟨⟨xcs3_, xga3, xgg3, xex3, xcc3, oget, otk, xmr3⟩, xk3_InvalidState⟩
        simp only [beq_eq_false_iff_ne.mpr q3] at hc
        cases hc
      kx_InvalidStep := fun c r hc => by
        simp only [tab_InvalidStep, List.lookup_cons, List.lookup_nil] at hc
        by_cases q14 : c = 14
        · subst q14
          cases hc
          exact ⟨⟨xcs14_, xga14, xgg14, xex14, xcc14, oget, otk, xmr14⟩, xk14_InvalidStep⟩
        simp only [beq_eq_false_iff_ne.mpr q14] at hc
        by_cases q7 : c = 7
        · subst q7
          cases hc
          exact ⟨⟨xcs7_, xga7, xgg7, xex7, xcc7, oget, otk, xmr7⟩, xk7_InvalidStep⟩
        simp only [beq_eq_false_iff_ne.mpr q7] at hc
        by_cases q12 : c = 12
        · subst q12
          cases hc
          exact ⟨⟨xcs12_, xga12, xgg12, xex12, xcc12, oget, otk, xmr12⟩, xk12_InvalidStep⟩
        simp only [beq_eq_false_iff_ne.mpr q12] at hc
        by_cases q5 : c = 5
        · subst q5
          cases hc
          exact ⟨⟨xcs5_, xga5, xgg5, xex5, xcc5, oget, otk, xmr5⟩, xk5_InvalidStep⟩
        simp only [beq_eq_false_iff_ne.mpr q5] at hc
        by_cases q10 : c = 10
        · subst q10
          cases hc
          exact ⟨⟨xcs10_, xga10, xgg10, xex10, xcc10, oget, otk, xmr10⟩, xk10_InvalidStep⟩
        simp only [beq_eq_false_iff_ne.mpr q10] at hc
        by_cases q2 : c = 2
        · subst q2
          cases hc
          exact ⟨⟨xcs2_, xga2, xgg2, xex2, xcc2, oget, otk, xmr2⟩, xk2_InvalidStep⟩
        simp only [beq_eq_false_iff_ne.mpr q2] at hc
        by_cases q9 : c = 9
        · subst q9
          cases hc
          exact ⟨⟨xcs9_, xga9, xgg9, xex9, xcc9, oget, otk, xmr9⟩, xk9_InvalidStep⟩
        simp only [beq_eq_false_iff_ne.mpr q9] at hc
        by_cases q1 : c = 1
        · subst q1
          cases hc
          exact ⟨⟨xcs1_, xga1, xgg1, xex1, xcc1, oget, otk, xmr1⟩, xk1_InvalidStep⟩
        simp only [beq_eq_false_iff_ne.mpr q1] at hc
        by_cases q8 : c = 8
        · subst q8
          cases hc
          exact ⟨⟨xcs8_, xga8, xgg8, xex8, xcc8, oget, otk, xmr8⟩, xk8_InvalidStep⟩
        simp only [beq_eq_false_iff_ne.mpr q8] at hc
        by_cases q13 : c = 13
        · subst q13
          cases hc
          exact ⟨⟨xcs13_, xga13, xgg13, xex13, xcc13, oget, otk, xmr13⟩, xk13_InvalidStep⟩
        simp only [beq_eq_false_iff_ne.mpr q13] at hc
        by_cases q11 : c = 11
        · subst q11
          cases hc
          exact ⟨⟨xcs11_, xga11, xgg11, xex11, xcc11, oget, otk, xmr11⟩, xk11_InvalidStep⟩
        simp only [beq_eq_false_iff_ne.mpr q11] at hc
        by_cases q6 : c = 6
        · subst q6
          cases hc
          exact ⟨⟨xcs6_, xga6, xgg6, xex6, xcc6, oget, otk, xmr6⟩, xk6_InvalidStep⟩
        simp only [beq_eq_false_iff_ne.mpr q6] at hc
        by_cases q15 : c = 15
        · subst q15
          cases hc
          exact ⟨⟨xcs15_, xga15, xgg15, xex15, xcc15, oget, otk, xmr15⟩, xk15_InvalidStep⟩
        simp only [beq_eq_false_iff_ne.mpr q15] at hc
        by_cases q16 : c = 16
        · subst q16
          cases hc
          exact ⟨⟨xcs16_, xga16, xgg16, xex16, xcc16, oget, otk, xmr16⟩, xk16_InvalidStep⟩
        simp only [beq_eq_false_iff_ne.mpr q16] at hc
        by_cases q3 : c = 3
        · subst q3
          cases hc
          exact ⟨⟨xcs3_, xga3, xgg3, xex3, xcc3, oget, otk, xmr3⟩, xk3_InvalidStep⟩
        simp only [beq_eq_false_iff_ne.mpr q3] at hc
        cases hc
      kx_InvalidStock := fun c r hc => by
        simp only [tab_InvalidStock, List.lookup_cons, List.lookup_nil] at hc
        by_cases q14 : c = 14
        · subst q14
          cases hc
          exact ⟨⟨xcs14_, xga14, xgg14, xex14, xcc14, oget, otk, xmr14⟩, xk14_InvalidStock⟩
        simp only [beq_eq_false_iff_ne.mpr q14] at hc
        by_cases q7 : c = 7
        · subst q7
          cases hc
          exact ⟨⟨xcs7_, xga7, xgg7, xex7, xcc7, oget, otk, xmr7⟩, xk7_InvalidStock⟩
        simp only [beq_eq_false_iff_ne.mpr q7] at hc
        by_cases q12 : c = 12
        · subst q12
          cases hc
          exact ⟨⟨xcs12_, xga12, xgg12, xex12, xcc12, oget, otk, xmr12⟩, xk12_InvalidStock⟩
        simp only [beq_eq_false_iff_ne.mpr q12] at hc
        by_cases q5 : c = 5
        · subst q5
          cases hc
          exact ⟨⟨xcs5_, xga5, xgg5, xex5, xcc5, oget, otk, xmr5⟩, xk5_InvalidStock⟩
        simp only [beq_eq_false_iff_ne.mpr q5] at hc
        by_cases q10 : c = 10
        · subst q10
          cases hc
          exact ⟨⟨xcs10_, xga10, xgg10, xex10, xcc10, oget, otk, xmr10⟩, xk10_InvalidStock⟩
        simp only [beq_eq_false_iff_ne.mpr q10] at hc
        by_cases q2 : c = 2
        · subst q2
          cases hc
          exact ⟨⟨xcs2_, xga2, xgg2, xex2, xcc2, oget, otk, xmr2⟩, xk2_InvalidStock⟩
        simp only [beq_eq_false_iff_ne.mpr q2] at hc
        by_cases q9 : c = 9
        · subst q9
          cases hc
          exact ⟨⟨xcs9_, xga9, xgg9, xex9, xcc9, oget, otk, xmr9⟩, xk9_InvalidStock⟩
        simp only [beq_eq_false_iff_ne.mpr q9] at hc
        by_cases q1 : c = 1
        · subst q1
          cases hc
          exact ⟨⟨xcs1_, xga1, xgg1, xex1, xcc1, oget, otk, xmr1⟩, xk1_InvalidStock⟩
        simp only [beq_eq_false_iff_ne.mpr q1] at hc
        by_cases q8 : c = 8
        · subst q8
          cases hc
          exact ⟨⟨xcs8_, xga8, xgg8, xex8, xcc8, oget, otk, xmr8⟩, xk8_InvalidStock⟩
        simp only [beq_eq_false_iff_ne.mpr q8] at hc
        by_cases q13 : c = 13
        · subst q13
          cases hc
          exact ⟨⟨xcs13_, xga13, xgg13, xex13, xcc13, oget, otk, xmr13⟩, xk13_InvalidStock⟩
        simp only [beq_eq_false_iff_ne.mpr q13] at hc
        by_cases q11 : c = 11
        · subst q11
          cases hc
          exact ⟨⟨xcs11_, xga11, xgg11, xex11, xcc11, oget, otk, xmr11⟩, xk11_InvalidStock⟩
        simp only [beq_eq_false_iff_ne.mpr q11] at hc
        by_cases q6 : c = 6
        · subst q6
          cases hc
          exact ⟨⟨xcs6_, xga6, xgg6, xex6, xcc6, oget, otk, xmr6⟩, xk6_InvalidStock⟩
        simp only [beq_eq_false_iff_ne.mpr q6] at hc
        by_cases q15 : c = 15
        · subst q15
          cases hc
          exact ⟨⟨xcs15_, xga15, xgg15, xex15, xcc15, oget, otk, xmr15⟩, xk15_InvalidStock⟩
        simp only [beq_eq_false_iff_ne.mpr q15] at hc
        by_cases q16 : c = 16
        · subst q16
          cases hc
          exact ⟨⟨xcs16_, xga16, xgg16, xex16, xcc16, oget, otk, xmr16⟩, xk16_InvalidStock⟩
        simp only [beq_eq_false_iff_ne.mpr q16] at hc
        by_cases q3 : c = 3
        · subst q3
          cases hc
          exact ⟨⟨xcs3_, xga3, xgg3, xex3, xcc3, oget, otk, xmr3⟩, xk3_InvalidStock⟩
        simp only [beq_eq_false_iff_ne.mpr q3] at hc
        cases hc
      kx_InvalidText := fun c r hc => by
        simp only [tab_InvalidText, List.lookup_cons, List.lookup_nil] at hc
        by_cases q14 : c = 14
        · subst q14
          cases hc
          exact ⟨⟨xcs14_, xga14, xgg14, xex14, xcc14, oget, otk, xmr14⟩, xk14_InvalidText⟩
        simp only [beq_eq_false_iff_ne.mpr q14] at hc
        by_cases q7 : c = 7
        · subst q7
          cases hc
          exact ⟨⟨xcs7_, xga7, xgg7, xex7, xcc7, oget, otk, xmr7⟩, xk7_InvalidText⟩
        simp only [beq_eq_false_iff_ne.mpr q7] at hc
        by_cases q12 : c = 12
        · subst q12
          cases hc
          exact ⟨⟨xcs12_, xga12, xgg12, xex12, xcc12, oget, otk, xmr12⟩, xk12_InvalidText⟩
        simp only [beq_eq_false_iff_ne.mpr q12] at hc
        by_cases q5 : c = 5
        · subst q5
          cases hc
          exact ⟨⟨xcs5_, xga5, xgg5, xex5, xcc5, oget, otk, xmr5⟩, xk5_InvalidText⟩
        simp only [beq_eq_false_iff_ne.mpr q5] at hc
        by_cases q10 : c = 10
        · subst q10
          cases hc
          exact ⟨⟨xcs10_, xga10, xgg10, xex10, xcc10, oget, otk, xmr10⟩, xk10_InvalidText⟩
        simp only [beq_eq_false_iff_ne.mpr q10] at hc
        by_cases q2 : c = 2
        · subst q2
          cases hc
          exact ⟨⟨xcs2_, xga2, xgg2, xex2, xcc2, oget, otk, xmr2⟩, xk2_InvalidText⟩
        simp only [beq_eq_false_iff_ne.mpr q2] at hc
        by_cases q9 : c = 9
        · subst q9
          cases hc
          exact ⟨⟨xcs9_, xga9, xgg9, xex9, xcc9, oget, otk, xmr9⟩, xk9_InvalidText⟩
        simp only [beq_eq_false_iff_ne.mpr q9] at hc
        by_cases q1 : c = 1
        · subst q1
          cases hc
          exact ⟨⟨xcs1_, xga1, xgg1, xex1, xcc1, oget, otk, xmr1⟩, xk1_InvalidText⟩
        simp only [beq_eq_false_iff_ne.mpr q1] at hc
        by_cases q8 : c = 8
        · subst q8
          cases hc
          exact ⟨⟨xcs8_, xga8, xgg8, xex8, xcc8, oget, otk, xmr8⟩, xk8_InvalidText⟩
        simp only [beq_eq_false_iff_ne.mpr q8] at hc
        by_cases q13 : c = 13
        · subst q13
          cases hc
          exact ⟨⟨xcs13_, xga13, xgg13, xex13, xcc13, oget, otk, xmr13⟩, xk13_InvalidText⟩
        simp only [beq_eq_false_iff_ne.mpr q13] at hc
        by_cases q11 : c = 11
        · subst q11
          cases hc
          exact ⟨⟨xcs11_, xga11, xgg11, xex11, xcc11, oget, otk, xmr11⟩, xk11_InvalidText⟩
        simp only [beq_eq_false_iff_ne.mpr q11] at hc
        by_cases q6 : c = 6
        · subst q6
          cases hc
          exact ⟨⟨xcs6_, xga6, xgg6, xex6, xcc6, oget, otk, xmr6⟩, xk6_InvalidText⟩
        simp only [beq_eq_false_iff_ne.mpr q6] at hc
        by_cases q15 : c = 15
        · subst q15
          cases hc
          exact ⟨⟨xcs15_, xga15, xgg15, xex15, xcc15, oget, otk, xmr15⟩, xk15_InvalidText⟩
        simp only [beq_eq_false_iff_ne.mpr q15] at hc
        by_cases q16 : c = 16
        · subst q16
          cases hc
          exact ⟨⟨xcs16_, xga16, xgg16, xex16, xcc16, oget, otk, xmr16⟩, xk16_InvalidText⟩
        simp only [beq_eq_false_iff_ne.mpr q16] at hc
        by_cases q3 : c = 3
        · subst q3
          cases hc
          exact ⟨⟨xcs3_, xga3, xgg3, xex3, xcc3, oget, otk, xmr3⟩, xk3_InvalidText⟩
        simp only [beq_eq_false_iff_ne.mpr q3] at hc
        cases hc
      kx_KeyError := fun c r hc => by
        simp only [tab_KeyError, List.lookup_cons, List.lookup_nil] at hc
        by_cases q14 : c = 14
        · subst q14
          cases hc
          exact ⟨⟨xcs14_, xga14, xgg14, xex14, xcc14, oget, otk, xmr14⟩, xk14_KeyError⟩
        simp only [beq_eq_false_iff_ne.mpr q14] at hc
        by_cases q7 : c = 7
        · subst q7
          cases hc
          exact ⟨⟨xcs7_, xga7, xgg7, xex7, xcc7, oget, otk, xmr7⟩, xk7_KeyError⟩
        simp only [beq_eq_false_iff_ne.mpr q7] at hc
        by_cases q12 : c = 12
        · subst q12
          cases hc
          exact ⟨⟨xcs12_, xga12, xgg12, xex12, xcc12, oget, otk, xmr12⟩, xk12_KeyError⟩
        simp only [beq_eq_false_iff_ne.mpr q12] at hc
        by_cases q5 : c = 5
        · subst q5
          cases hc
          exact ⟨⟨xcs5_, xga5, xgg5, xex5, xcc5, oget, otk, xmr5⟩, xk5_KeyError⟩
        simp only [beq_eq_false_iff_ne.mpr q5] at hc
        by_cases q10 : c = 10
        · subst q10
          cases hc
          exact ⟨⟨xcs10_, xga10, xgg10, xex10, xcc10, oget, otk, xmr10⟩, xk10_KeyError⟩
        simp only [beq_eq_false_iff_ne.mpr q10] at hc
        by_cases q2 : c = 2
        · subst q2
          cases hc
          exact ⟨⟨xcs2_, xga2, xgg2, xex2, xcc2, oget, otk, xmr2⟩, xk2_KeyError⟩
        simp only [beq_eq_false_iff_ne.mpr q2] at hc
        by_cases q9 : c = 9
        · subst q9
          cases hc
          exact ⟨⟨xcs9_, xga9, xgg9, xex9, xcc9, oget, otk, xmr9⟩, xk9_KeyError⟩
        simp only [beq_eq_false_iff_ne.mpr q9] at hc
        by_cases q1 : c = 1
        · subst q1
          cases hc
          exact ⟨⟨xcs1_, xga1, xgg1, xex1, xcc1, oget, otk, xmr1⟩, xk1_KeyError⟩
        simp only [beq_eq_false_iff_ne.mpr q1] at hc
        by_cases q8 : c = 8
        · subst q8
          cases hc
          exact ⟨⟨xcs8_, xga8, xgg8, xex8, xcc8, oget, otk, xmr8⟩, xk8_KeyError⟩
        simp only [beq_eq_false_iff_ne.mpr q8] at hc
        by_cases q13 : c = 13
        · subst q13
          cases hc
          exact ⟨⟨xcs13_, xga13, xgg13, xex13, xcc13, oget, otk, xmr13⟩, xk13_KeyError⟩
        simp only [beq_eq_false_iff_ne.mpr q13] at hc
        by_cases q11 : c = 11
        · subst q11
          cases hc
          exact ⟨⟨xcs11_, xga11, xgg11, xex11, xcc11, oget, otk, xmr11⟩, xk11_KeyError⟩
        simp only [beq_eq_false_iff_ne.mpr q11] at hc
        by_cases q6 : c = 6
        · subst q6
          cases hc
          exact ⟨⟨xcs6_, xga6, xgg6, xex6, xcc6, oget, otk, xmr6⟩, xk6_KeyError⟩
        simp only [beq_eq_false_iff_ne.mpr q6] at hc
        by_cases q15 : c = 15
        · subst q15
          cases hc
          exact ⟨⟨xcs15_, xga15, xgg15, xex15, xcc15, oget, otk, xmr15⟩, xk15_KeyError⟩
        simp only [beq_eq_false_iff_ne.mpr q15] at hc
        by_cases q16 : c = 16
        · subst q16
          cases hc
          exact ⟨⟨xcs16_, xga16, xgg16, xex16, xcc16, oget, otk, xmr16⟩, xk16_KeyError⟩
        simp only [beq_eq_false_iff_ne.mpr q16] at hc
        by_cases q3 : c = 3
        · subst q3
          cases hc
          exact ⟨⟨xcs3_, xga3, xgg3, xex3, xcc3, oget, otk, xmr3⟩, xk3_KeyError⟩
        simp only [beq_eq_false_iff_ne.mpr q3] at hc
        cases hc
      kx_LimitExceeded := fun c r hc => by
        simp only [tab_LimitExceeded, List.lookup_cons, List.lookup_nil] at hc
        by_cases q14 : c = 14
        · subst q14
          cases hc
          exact ⟨⟨xcs14_, xga14, xgg14, xex14, xcc14, oget, otk, xmr14⟩, xk14_LimitExceeded⟩
        simp only [beq_eq_false_iff_ne.mpr q14] at hc
        by_cases q7 : c = 7
        · subst q7
          cases hc
          exact ⟨⟨xcs7_, xga7, xgg7, xex7, xcc7, oget, otk, xmr7⟩, xk7_LimitExceeded⟩
        simp only [beq_eq_false_iff_ne.mpr q7] at hc
        by_cases q12 : c = 12
        · subst q12
          cases hc
          exact ⟨⟨xcs12_, xga12, xgg12, xex12, xcc12, oget, otk, xmr12⟩, xk12_LimitExceeded⟩
        simp only [beq_eq_false_iff_ne.mpr q12] at hc
        by_cases q5 : c = 5
        · subst q5
          cases hc
          exact ⟨⟨xcs5_, xga5, xgg5, xex5, xcc5, oget, otk, xmr5⟩, xk5_LimitExceeded⟩
        simp only [beq_eq_false_iff_ne.mpr q5] at hc
        by_cases q10 : c = 10
        · subst q10
          cases hc
          exact ⟨⟨xcs10_, xga10, xgg10, xex10, xcc10, oget, otk, xmr10⟩, xk10_LimitExceeded⟩
        simp only [beq_eq_false_iff_ne.mpr q10] at hc
        by_cases q2 : c = 2
        · subst q2
          cases hc
          exact ⟨⟨xcs2_, xga2, xgg2, xex2, xcc2, oget, otk, xmr2⟩, xk2_LimitExceeded⟩
        simp only [beq_eq_false_iff_ne.mpr q2] at hc
        by_cases q9 : c = 9
        · subst q9
          cases hc
          exact ⟨⟨xcs9_, xga9, xgg9, xex9, xcc9, oget, otk, xmr9⟩, xk9_LimitExceeded⟩
        simp only [beq_eq_false_iff_ne.mpr q9] at hc
        by_cases q1 : c = 1
        · subst q1
          cases hc
          exact ⟨⟨xcs1_, xga1, xgg1, xex1, xcc1, oget, otk, xmr1⟩, xk1_LimitExceeded⟩
        simp only [beq_eq_false_iff_ne.mpr q1] at hc
        by_cases q8 : c = 8
        · subst q8
          cases hc
          exact ⟨⟨xcs8_, xga8, xgg8, xex8, xcc8, oget, otk, xmr8⟩, xk8_LimitExceeded⟩
        simp only [beq_eq_false_iff_ne.mpr q8] at hc
        by_cases q13 : c = 13
        · subst q13
          cases hc
          exact ⟨⟨xcs13_, xga13, xgg13, xex13, xcc13, oget, otk, xmr13⟩, xk13_LimitExceeded⟩
        simp only [beq_eq_false_iff_ne.mpr q13] at hc
        by_cases q11 : c = 11
        · subst q11
          cases hc
          exact ⟨⟨xcs11_, xga11, xgg11, xex11, xcc11, oget, otk, xmr11⟩, xk11_LimitExceeded⟩
        simp only [beq_eq_false_iff_ne.mpr q11] at hc
        by_cases q6 : c = 6
        · subst q6
          cases hc
          exact ⟨⟨xcs6_, xga6, xgg6, xex6, xcc6, oget, otk, xmr6⟩, xk6_LimitExceeded⟩
        simp only [beq_eq_false_iff_ne.mpr q6] at hc
        by_cases q15 : c = 15
        · subst q15
          cases hc
          exact ⟨⟨xcs15_, xga15, xgg15, xex15, xcc15, oget, otk, xmr15⟩, xk15_LimitExceeded⟩
        simp only [beq_eq_false_iff_ne.mpr q15] at hc
        by_cases q16 : c = 16
        · subst q16
          cases hc
          exact ⟨⟨xcs16_, xga16, xgg16, xex16, xcc16, oget, otk, xmr16⟩, xk16_LimitExceeded⟩
        simp only [beq_eq_false_iff_ne.mpr q16] at hc
        by_cases q3 : c = 3
        · subst q3
          cases hc
          exact ⟨⟨xcs3_, xga3, xgg3, xex3, xcc3, oget, otk, xmr3⟩, xk3_LimitExceeded⟩
        simp only [beq_eq_false_iff_ne.mpr q3] at hc
        cases hc
      kx_LookupError := fun c r hc => by
        simp only [tab_LookupError, List.lookup_cons, List.lookup_nil] at hc
        by_cases q14 : c = 14
        · subst q14
          cases hc
          exact ⟨⟨xcs14_, xga14, xgg14, xex14, xcc14, oget, otk, xmr14⟩, xk14_LookupError⟩
        simp only [beq_eq_false_iff_ne.mpr q14] at hc
        by_cases q7 : c = 7
        · subst q7
          cases hc
          exact ⟨⟨xcs7_, xga7, xgg7, xex7, xcc7, oget, otk, xmr7⟩, xk7_LookupError⟩
        simp only [beq_eq_false_iff_ne.mpr q7] at hc
        by_cases q12 : c = 12
        · subst q12
          cases hc
          exact ⟨⟨xcs12_, xga12, xgg12, xex12, xcc12, oget, otk, xmr12⟩, xk12_LookupError⟩
        simp only [beq_eq_false_iff_ne.mpr q12] at hc
        by_cases q5 : c = 5
        · subst q5
          cases hc
          exact ⟨⟨xcs5_, xga5, xgg5, xex5, xcc5, oget, otk, xmr5⟩, xk5_LookupError⟩
        simp only [beq_eq_false_iff_ne.mpr q5] at hc
        by_cases q10 : c = 10
        · subst q10
          cases hc
          exact ⟨⟨xcs10_, xga10, xgg10, xex10, xcc10, oget, otk, xmr10⟩, xk10_LookupError⟩
        simp only [beq_eq_false_iff_ne.mpr q10] at hc
        by_cases q2 : c = 2
        · subst q2
          cases hc
          exact ⟨⟨xcs2_, xga2, xgg2, xex2, xcc2, oget, otk, xmr2⟩, xk2_LookupError⟩
        simp only [beq_eq_false_iff_ne.mpr q2] at hc
        by_cases q9 : c = 9
        · subst q9
          cases hc
          exact ⟨⟨xcs9_, xga9, xgg9, xex9, xcc9, oget, otk, xmr9⟩, xk9_LookupError⟩
        simp only [beq_eq_false_iff_ne.mpr q9] at hc
        by_cases q1 : c = 1
        · subst q1
          cases hc
          exact ⟨⟨xcs1_, xga1, xgg1, xex1, xcc1, oget, otk, xmr1⟩, xk1_LookupError⟩
        simp only [beq_eq_false_iff_ne.mpr q1] at hc
        by_cases q8 : c = 8
        · subst q8
          cases hc
          exact ⟨⟨xcs8_, xga8, xgg8, xex8, xcc8, oget, otk, xmr8⟩, xk8_LookupError⟩
        simp only [beq_eq_false_iff_ne.mpr q8] at hc
        by_cases q13 : c = 13
        · subst q13
          cases hc
          exact ⟨⟨xcs13_, xga13, xgg13, xex13, xcc13, oget, otk, xmr13⟩, xk13_LookupError⟩
        simp only [beq_eq_false_iff_ne.mpr q13] at hc
        by_cases q11 : c = 11
        · subst q11
          cases hc
          exact ⟨⟨xcs11_, xga11, xgg11, xex11, xcc11, oget, otk, xmr11⟩, xk11_LookupError⟩
        simp only [beq_eq_false_iff_ne.mpr q11] at hc
        by_cases q6 : c = 6
        · subst q6
          cases hc
          exact ⟨⟨xcs6_, xga6, xgg6, xex6, xcc6, oget, otk, xmr6⟩, xk6_LookupError⟩
        simp only [beq_eq_false_iff_ne.mpr q6] at hc
        by_cases q15 : c = 15
        · subst q15
          cases hc
          exact ⟨⟨xcs15_, xga15, xgg15, xex15, xcc15, oget, otk, xmr15⟩, xk15_LookupError⟩
        simp only [beq_eq_false_iff_ne.mpr q15] at hc
        by_cases q16 : c = 16
        · subst q16
          cases hc
          exact ⟨⟨xcs16_, xga16, xgg16, xex16, xcc16, oget, otk, xmr16⟩, xk16_LookupError⟩
        simp only [beq_eq_false_iff_ne.mpr q16] at hc
        by_cases q3 : c = 3
        · subst q3
          cases hc
          exact ⟨⟨xcs3_, xga3, xgg3, xex3, xcc3, oget, otk, xmr3⟩, xk3_LookupError⟩
        simp only [beq_eq_false_iff_ne.mpr q3] at hc
        cases hc
      kx_NotACrowd := fun c r hc => by
        simp only [tab_NotACrowd, List.lookup_cons, List.lookup_nil] at hc
        by_cases q14 : c = 14
        · subst q14
          cases hc
          exact ⟨⟨xcs14_, xga14, xgg14, xex14, xcc14, oget, otk, xmr14⟩, xk14_NotACrowd⟩
        simp only [beq_eq_false_iff_ne.mpr q14] at hc
        by_cases q7 : c = 7
        · subst q7
          cases hc
          exact ⟨⟨xcs7_, xga7, xgg7, xex7, xcc7, oget, otk, xmr7⟩, xk7_NotACrowd⟩
        simp only [beq_eq_false_iff_ne.mpr q7] at hc
        by_cases q12 : c = 12
        · subst q12
          cases hc
          exact ⟨⟨xcs12_, xga12, xgg12, xex12, xcc12, oget, otk, xmr12⟩, xk12_NotACrowd⟩
        simp only [beq_eq_false_iff_ne.mpr q12] at hc
        by_cases q5 : c = 5
        · subst q5
          cases hc
          exact ⟨⟨xcs5_, xga5, xgg5, xex5, xcc5, oget, otk, xmr5⟩, xk5_NotACrowd⟩
        simp only [beq_eq_false_iff_ne.mpr q5] at hc
        by_cases q10 : c = 10
        · subst q10
          cases hc
          exact ⟨⟨xcs10_, xga10, xgg10, xex10, xcc10, oget, otk, xmr10⟩, xk10_NotACrowd⟩
        simp only [beq_eq_false_iff_ne.mpr q10] at hc
        by_cases q2 : c = 2
        · subst q2
          cases hc
          exact ⟨⟨xcs2_, xga2, xgg2, xex2, xcc2, oget, otk, xmr2⟩, xk2_NotACrowd⟩
        simp only [beq_eq_false_iff_ne.mpr q2] at hc
        by_cases q9 : c = 9
        · subst q9
          cases hc
          exact ⟨⟨xcs9_, xga9, xgg9, xex9, xcc9, oget, otk, xmr9⟩, xk9_NotACrowd⟩
        simp only [beq_eq_false_iff_ne.mpr q9] at hc
        by_cases q1 : c = 1
        · subst q1
          cases hc
          exact ⟨⟨xcs1_, xga1, xgg1, xex1, xcc1, oget, otk, xmr1⟩, xk1_NotACrowd⟩
        simp only [beq_eq_false_iff_ne.mpr q1] at hc
        by_cases q8 : c = 8
        · subst q8
          cases hc
          exact ⟨⟨xcs8_, xga8, xgg8, xex8, xcc8, oget, otk, xmr8⟩, xk8_NotACrowd⟩
        simp only [beq_eq_false_iff_ne.mpr q8] at hc
        by_cases q13 : c = 13
        · subst q13
          cases hc
          exact ⟨⟨xcs13_, xga13, xgg13, xex13, xcc13, oget, otk, xmr13⟩, xk13_NotACrowd⟩
        simp only [beq_eq_false_iff_ne.mpr q13] at hc
        by_cases q11 : c = 11
        · subst q11
          cases hc
          exact ⟨⟨xcs11_, xga11, xgg11, xex11, xcc11, oget, otk, xmr11⟩, xk11_NotACrowd⟩
        simp only [beq_eq_false_iff_ne.mpr q11] at hc
        by_cases q6 : c = 6
        · subst q6
          cases hc
          exact ⟨⟨xcs6_, xga6, xgg6, xex6, xcc6, oget, otk, xmr6⟩, xk6_NotACrowd⟩
        simp only [beq_eq_false_iff_ne.mpr q6] at hc
        by_cases q15 : c = 15
        · subst q15
          cases hc
          exact ⟨⟨xcs15_, xga15, xgg15, xex15, xcc15, oget, otk, xmr15⟩, xk15_NotACrowd⟩
        simp only [beq_eq_false_iff_ne.mpr q15] at hc
        by_cases q16 : c = 16
        · subst q16
          cases hc
          exact ⟨⟨xcs16_, xga16, xgg16, xex16, xcc16, oget, otk, xmr16⟩, xk16_NotACrowd⟩
        simp only [beq_eq_false_iff_ne.mpr q16] at hc
        by_cases q3 : c = 3
        · subst q3
          cases hc
          exact ⟨⟨xcs3_, xga3, xgg3, xex3, xcc3, oget, otk, xmr3⟩, xk3_NotACrowd⟩
        simp only [beq_eq_false_iff_ne.mpr q3] at hc
        cases hc
      kx_NotRight := fun c r hc => by
        simp only [tab_NotRight, List.lookup_cons, List.lookup_nil] at hc
        by_cases q14 : c = 14
        · subst q14
          cases hc
          exact ⟨⟨xcs14_, xga14, xgg14, xex14, xcc14, oget, otk, xmr14⟩, xk14_NotRight⟩
        simp only [beq_eq_false_iff_ne.mpr q14] at hc
        by_cases q7 : c = 7
        · subst q7
          cases hc
          exact ⟨⟨xcs7_, xga7, xgg7, xex7, xcc7, oget, otk, xmr7⟩, xk7_NotRight⟩
        simp only [beq_eq_false_iff_ne.mpr q7] at hc
        by_cases q12 : c = 12
        · subst q12
          cases hc
          exact ⟨⟨xcs12_, xga12, xgg12, xex12, xcc12, oget, otk, xmr12⟩, xk12_NotRight⟩
        simp only [beq_eq_false_iff_ne.mpr q12] at hc
        by_cases q5 : c = 5
        · subst q5
          cases hc
          exact ⟨⟨xcs5_, xga5, xgg5, xex5, xcc5, oget, otk, xmr5⟩, xk5_NotRight⟩
        simp only [beq_eq_false_iff_ne.mpr q5] at hc
        by_cases q10 : c = 10
        · subst q10
          cases hc
          exact ⟨⟨xcs10_, xga10, xgg10, xex10, xcc10, oget, otk, xmr10⟩, xk10_NotRight⟩
        simp only [beq_eq_false_iff_ne.mpr q10] at hc
        by_cases q2 : c = 2
        · subst q2
          cases hc
          exact ⟨⟨xcs2_, xga2, xgg2, xex2, xcc2, oget, otk, xmr2⟩, xk2_NotRight⟩
        simp only [beq_eq_false_iff_ne.mpr q2] at hc
        by_cases q9 : c = 9
        · subst q9
          cases hc
          exact ⟨⟨xcs9_, xga9, xgg9, xex9, xcc9, oget, otk, xmr9⟩, xk9_NotRight⟩
        simp only [beq_eq_false_iff_ne.mpr q9] at hc
        by_cases q1 : c = 1
        · subst q1
          cases hc
          exact ⟨⟨xcs1_, xga1, xgg1, xex1, xcc1, oget, otk, xmr1⟩, xk1_NotRight⟩
        simp only [beq_eq_false_iff_ne.mpr q1] at hc
        by_cases q8 : c = 8
        · subst q8
          cases hc
          exact ⟨⟨xcs8_, xga8, xgg8, xex8, xcc8, oget, otk, xmr8⟩, xk8_NotRight⟩
        simp only [beq_eq_false_iff_ne.mpr q8] at hc
        by_cases q13 : c = 13
        · subst q13
          cases hc
          exact ⟨⟨xcs13_, xga13, xgg13, xex13, xcc13, oget, otk, xmr13⟩, xk13_NotRight⟩
        simp only [beq_eq_false_iff_ne.mpr q13] at hc
        by_cases q11 : c = 11
        · subst q11
          cases hc
          exact ⟨⟨xcs11_, xga11, xgg11, xex11, xcc11, oget, otk, xmr11⟩, xk11_NotRight⟩
        simp only [beq_eq_false_iff_ne.mpr q11] at hc
        by_cases q6 : c = 6
        · subst q6
          cases hc
          exact ⟨⟨xcs6_, xga6, xgg6, xex6, xcc6, oget, otk, xmr6⟩, xk6_NotRight⟩
        simp only [beq_eq_false_iff_ne.mpr q6] at hc
        by_cases q15 : c = 15
        · subst q15
          cases hc
          exact ⟨⟨xcs15_, xga15, xgg15, xex15, xcc15, oget, otk, xmr15⟩, xk15_NotRight⟩
        simp only [beq_eq_false_iff_ne.mpr q15] at hc
        by_cases q16 : c = 16
        · subst q16
          cases hc
          exact ⟨⟨xcs16_, xga16, xgg16, xex16, xcc16, oget, otk, xmr16⟩, xk16_NotRight⟩
        simp only [beq_eq_false_iff_ne.mpr q16] at hc
        by_cases q3 : c = 3
        · subst q3
          cases hc
          exact ⟨⟨xcs3_, xga3, xgg3, xex3, xcc3, oget, otk, xmr3⟩, xk3_NotRight⟩
        simp only [beq_eq_false_iff_ne.mpr q3] at hc
        cases hc
      kx_NothingToUndo := fun c r hc => by
        simp only [tab_NothingToUndo, List.lookup_cons, List.lookup_nil] at hc
        by_cases q14 : c = 14
        · subst q14
          cases hc
          exact ⟨⟨xcs14_, xga14, xgg14, xex14, xcc14, oget, otk, xmr14⟩, xk14_NothingToUndo⟩
        simp only [beq_eq_false_iff_ne.mpr q14] at hc
        by_cases q7 : c = 7
        · subst q7
          cases hc
          exact ⟨⟨xcs7_, xga7, xgg7, xex7, xcc7, oget, otk, xmr7⟩, xk7_NothingToUndo⟩
        simp only [beq_eq_false_iff_ne.mpr q7] at hc
        by_cases q12 : c = 12
        · subst q12
          cases hc
          exact ⟨⟨xcs12_, xga12, xgg12, xex12, xcc12, oget, otk, xmr12⟩, xk12_NothingToUndo⟩
        simp only [beq_eq_false_iff_ne.mpr q12] at hc
        by_cases q5 : c = 5
        · subst q5
          cases hc
          exact ⟨⟨xcs5_, xga5, xgg5, xex5, xcc5, oget, otk, xmr5⟩, xk5_NothingToUndo⟩
        simp only [beq_eq_false_iff_ne.mpr q5] at hc
        by_cases q10 : c = 10
        · subst q10
          cases hc
          exact ⟨⟨xcs10_, xga10, xgg10, xex10, xcc10, oget, otk, xmr10⟩, xk10_NothingToUndo⟩
        simp only [beq_eq_false_iff_ne.mpr q10] at hc
        by_cases q2 : c = 2
        · subst q2
          cases hc
          exact ⟨⟨xcs2_, xga2, xgg2, xex2, xcc2, oget, otk, xmr2⟩, xk2_NothingToUndo⟩
        simp only [beq_eq_false_iff_ne.mpr q2] at hc
        by_cases q9 : c = 9
        · subst q9
          cases hc
          exact ⟨⟨xcs9_, xga9, xgg9, xex9, xcc9, oget, otk, xmr9⟩, xk9_NothingToUndo⟩
        simp only [beq_eq_false_iff_ne.mpr q9] at hc
        by_cases q1 : c = 1
        · subst q1
          cases hc
          exact ⟨⟨xcs1_, xga1, xgg1, xex1, xcc1, oget, otk, xmr1⟩, xk1_NothingToUndo⟩
        simp only [beq_eq_false_iff_ne.mpr q1] at hc
        by_cases q8 : c = 8
        · subst q8
          cases hc
          exact ⟨⟨xcs8_, xga8, xgg8, xex8, xcc8, oget, otk, xmr8⟩, xk8_NothingToUndo⟩
        simp only [beq_eq_false_iff_ne.mpr q8] at hc
        by_cases q13 : c = 13
        · subst q13
          cases hc
          exact ⟨⟨xcs13_, xga13, xgg13, xex13, xcc13, oget, otk, xmr13⟩, xk13_NothingToUndo⟩
        simp only [beq_eq_false_iff_ne.mpr q13] at hc
        by_cases q11 : c = 11
        · subst q11
          cases hc
          exact ⟨⟨xcs11_, xga11, xgg11, xex11, xcc11, oget, otk, xmr11⟩, xk11_NothingToUndo⟩
        simp only [beq_eq_false_iff_ne.mpr q11] at hc
        by_cases q6 : c = 6
        · subst q6
          cases hc
          exact ⟨⟨xcs6_, xga6, xgg6, xex6, xcc6, oget, otk, xmr6⟩, xk6_NothingToUndo⟩
        simp only [beq_eq_false_iff_ne.mpr q6] at hc
        by_cases q15 : c = 15
        · subst q15
          cases hc
          exact ⟨⟨xcs15_, xga15, xgg15, xex15, xcc15, oget, otk, xmr15⟩, xk15_NothingToUndo⟩
        simp only [beq_eq_false_iff_ne.mpr q15] at hc
        by_cases q16 : c = 16
        · subst q16
          cases hc
          exact ⟨⟨xcs16_, xga16, xgg16, xex16, xcc16, oget, otk, xmr16⟩, xk16_NothingToUndo⟩
        simp only [beq_eq_false_iff_ne.mpr q16] at hc
        by_cases q3 : c = 3
        · subst q3
          cases hc
          exact ⟨⟨xcs3_, xga3, xgg3, xex3, xcc3, oget, otk, xmr3⟩, xk3_NothingToUndo⟩
        simp only [beq_eq_false_iff_ne.mpr q3] at hc
        cases hc
      kx_OverflowError := fun c r hc => by
        simp only [tab_OverflowError, List.lookup_cons, List.lookup_nil] at hc
        by_cases q14 : c = 14
        · subst q14
          cases hc
          exact ⟨⟨xcs14_, xga14, xgg14, xex14, xcc14, oget, otk, xmr14⟩, xk14_OverflowError⟩
        simp only [beq_eq_false_iff_ne.mpr q14] at hc
        by_cases q7 : c = 7
        · subst q7
          cases hc
          exact ⟨⟨xcs7_, xga7, xgg7, xex7, xcc7, oget, otk, xmr7⟩, xk7_OverflowError⟩
        simp only [beq_eq_false_iff_ne.mpr q7] at hc
        by_cases q12 : c = 12
        · subst q12
          cases hc
          exact ⟨⟨xcs12_, xga12, xgg12, xex12, xcc12, oget, otk, xmr12⟩, xk12_OverflowError⟩
        simp only [beq_eq_false_iff_ne.mpr q12] at hc
        by_cases q5 : c = 5
        · subst q5
          cases hc
          exact ⟨⟨xcs5_, xga5, xgg5, xex5, xcc5, oget, otk, xmr5⟩, xk5_OverflowError⟩
        simp only [beq_eq_false_iff_ne.mpr q5] at hc
        by_cases q10 : c = 10
        · subst q10
          cases hc
          exact ⟨⟨xcs10_, xga10, xgg10, xex10, xcc10, oget, otk, xmr10⟩, xk10_OverflowError⟩
        simp only [beq_eq_false_iff_ne.mpr q10] at hc
        by_cases q2 : c = 2
        · subst q2
          cases hc
          exact ⟨⟨xcs2_, xga2, xgg2, xex2, xcc2, oget, otk, xmr2⟩, xk2_OverflowError⟩
        simp only [beq_eq_false_iff_ne.mpr q2] at hc
        by_cases q9 : c = 9
        · subst q9
          cases hc
          exact ⟨⟨xcs9_, xga9, xgg9, xex9, xcc9, oget, otk, xmr9⟩, xk9_OverflowError⟩
        simp only [beq_eq_false_iff_ne.mpr q9] at hc
        by_cases q1 : c = 1
        · subst q1
          cases hc
          exact ⟨⟨xcs1_, xga1, xgg1, xex1, xcc1, oget, otk, xmr1⟩, xk1_OverflowError⟩
        simp only [beq_eq_false_iff_ne.mpr q1] at hc
        by_cases q8 : c = 8
        · subst q8
          cases hc
          exact ⟨⟨xcs8_, xga8, xgg8, xex8, xcc8, oget, otk, xmr8⟩, xk8_OverflowError⟩
        simp only [beq_eq_false_iff_ne.mpr q8] at hc
        by_cases q13 : c = 13
        · subst q13
          cases hc
          exact ⟨⟨xcs13_, xga13, xgg13, xex13, xcc13, oget, otk, xmr13⟩, xk13_OverflowError⟩
        simp only [beq_eq_false_iff_ne.mpr q13] at hc
        by_cases q11 : c = 11
        · subst q11
          cases hc
          exact ⟨⟨xcs11_, xga11, xgg11, xex11, xcc11, oget, otk, xmr11⟩, xk11_OverflowError⟩
        simp only [beq_eq_false_iff_ne.mpr q11] at hc
        by_cases q6 : c = 6
        · subst q6
          cases hc
          exact ⟨⟨xcs6_, xga6, xgg6, xex6, xcc6, oget, otk, xmr6⟩, xk6_OverflowError⟩
        simp only [beq_eq_false_iff_ne.mpr q6] at hc
        by_cases q15 : c = 15
        · subst q15
          cases hc
          exact ⟨⟨xcs15_, xga15, xgg15, xex15, xcc15, oget, otk, xmr15⟩, xk15_OverflowError⟩
        simp only [beq_eq_false_iff_ne.mpr q15] at hc
        by_cases q16 : c = 16
        · subst q16
          cases hc
          exact ⟨⟨xcs16_, xga16, xgg16, xex16, xcc16, oget, otk, xmr16⟩, xk16_OverflowError⟩
        simp only [beq_eq_false_iff_ne.mpr q16] at hc
        by_cases q3 : c = 3
        · subst q3
          cases hc
          exact ⟨⟨xcs3_, xga3, xgg3, xex3, xcc3, oget, otk, xmr3⟩, xk3_OverflowError⟩
        simp only [beq_eq_false_iff_ne.mpr q3] at hc
        cases hc
      kx_RuntimeError := fun c r hc => by
        simp only [tab_RuntimeError, List.lookup_cons, List.lookup_nil] at hc
        by_cases q14 : c = 14
        · subst q14
          cases hc
          exact ⟨⟨xcs14_, xga14, xgg14, xex14, xcc14, oget, otk, xmr14⟩, xk14_RuntimeError⟩
        simp only [beq_eq_false_iff_ne.mpr q14] at hc
        by_cases q7 : c = 7
        · subst q7
          cases hc
          exact ⟨⟨xcs7_, xga7, xgg7, xex7, xcc7, oget, otk, xmr7⟩, xk7_RuntimeError⟩
        simp only [beq_eq_false_iff_ne.mpr q7] at hc
        by_cases q12 : c = 12
        · subst q12
          cases hc
          exact ⟨⟨xcs12_, xga12, xgg12, xex12, xcc12, oget, otk, xmr12⟩, xk12_RuntimeError⟩
        simp only [beq_eq_false_iff_ne.mpr q12] at hc
        by_cases q5 : c = 5
        · subst q5
          cases hc
          exact ⟨⟨xcs5_, xga5, xgg5, xex5, xcc5, oget, otk, xmr5⟩, xk5_RuntimeError⟩
        simp only [beq_eq_false_iff_ne.mpr q5] at hc
        by_cases q10 : c = 10
        · subst q10
          cases hc
          exact ⟨⟨xcs10_, xga10, xgg10, xex10, xcc10, oget, otk, xmr10⟩, xk10_RuntimeError⟩
        simp only [beq_eq_false_iff_ne.mpr q10] at hc
        by_cases q2 : c = 2
        · subst q2
          cases hc
          exact ⟨⟨xcs2_, xga2, xgg2, xex2, xcc2, oget, otk, xmr2⟩, xk2_RuntimeError⟩
        simp only [beq_eq_false_iff_ne.mpr q2] at hc
        by_cases q9 : c = 9
        · subst q9
          cases hc
          exact ⟨⟨xcs9_, xga9, xgg9, xex9, xcc9, oget, otk, xmr9⟩, xk9_RuntimeError⟩
        simp only [beq_eq_false_iff_ne.mpr q9] at hc
        by_cases q1 : c = 1
        · subst q1
          cases hc
          exact ⟨⟨xcs1_, xga1, xgg1, xex1, xcc1, oget, otk, xmr1⟩, xk1_RuntimeError⟩
        simp only [beq_eq_false_iff_ne.mpr q1] at hc
        by_cases q8 : c = 8
        · subst q8
          cases hc
          exact ⟨⟨xcs8_, xga8, xgg8, xex8, xcc8, oget, otk, xmr8⟩, xk8_RuntimeError⟩
        simp only [beq_eq_false_iff_ne.mpr q8] at hc
        by_cases q13 : c = 13
        · subst q13
          cases hc
          exact ⟨⟨xcs13_, xga13, xgg13, xex13, xcc13, oget, otk, xmr13⟩, xk13_RuntimeError⟩
        simp only [beq_eq_false_iff_ne.mpr q13] at hc
        by_cases q11 : c = 11
        · subst q11
          cases hc
          exact ⟨⟨xcs11_, xga11, xgg11, xex11, xcc11, oget, otk, xmr11⟩, xk11_RuntimeError⟩
        simp only [beq_eq_false_iff_ne.mpr q11] at hc
        by_cases q6 : c = 6
        · subst q6
          cases hc
          exact ⟨⟨xcs6_, xga6, xgg6, xex6, xcc6, oget, otk, xmr6⟩, xk6_RuntimeError⟩
        simp only [beq_eq_false_iff_ne.mpr q6] at hc
        by_cases q15 : c = 15
        · subst q15
          cases hc
          exact ⟨⟨xcs15_, xga15, xgg15, xex15, xcc15, oget, otk, xmr15⟩, xk15_RuntimeError⟩
        simp only [beq_eq_false_iff_ne.mpr q15] at hc
        by_cases q16 : c = 16
        · subst q16
          cases hc
          exact ⟨⟨xcs16_, xga16, xgg16, xex16, xcc16, oget, otk, xmr16⟩, xk16_RuntimeError⟩
        simp only [beq_eq_false_iff_ne.mpr q16] at hc
        by_cases q3 : c = 3
        · subst q3
          cases hc
          exact ⟨⟨xcs3_, xga3, xgg3, xex3, xcc3, oget, otk, xmr3⟩, xk3_RuntimeError⟩
        simp only [beq_eq_false_iff_ne.mpr q3] at hc
        cases hc
      kx_UnknownName := fun c r hc => by
        simp only [tab_UnknownName, List.lookup_cons, List.lookup_nil] at hc
        by_cases q14 : c = 14
        · subst q14
          cases hc
          exact ⟨⟨xcs14_, xga14, xgg14, xex14, xcc14, oget, otk, xmr14⟩, xk14_UnknownName⟩
        simp only [beq_eq_false_iff_ne.mpr q14] at hc
        by_cases q7 : c = 7
        · subst q7
          cases hc
          exact ⟨⟨xcs7_, xga7, xgg7, xex7, xcc7, oget, otk, xmr7⟩, xk7_UnknownName⟩
        simp only [beq_eq_false_iff_ne.mpr q7] at hc
        by_cases q12 : c = 12
        · subst q12
          cases hc
          exact ⟨⟨xcs12_, xga12, xgg12, xex12, xcc12, oget, otk, xmr12⟩, xk12_UnknownName⟩
        simp only [beq_eq_false_iff_ne.mpr q12] at hc
        by_cases q5 : c = 5
        · subst q5
          cases hc
          exact ⟨⟨xcs5_, xga5, xgg5, xex5, xcc5, oget, otk, xmr5⟩, xk5_UnknownName⟩
        simp only [beq_eq_false_iff_ne.mpr q5] at hc
        by_cases q10 : c = 10
        · subst q10
          cases hc
          exact ⟨⟨xcs10_, xga10, xgg10, xex10, xcc10, oget, otk, xmr10⟩, xk10_UnknownName⟩
        simp only [beq_eq_false_iff_ne.mpr q10] at hc
        by_cases q2 : c = 2
        · subst q2
          cases hc
          exact ⟨⟨xcs2_, xga2, xgg2, xex2, xcc2, oget, otk, xmr2⟩, xk2_UnknownName⟩
        simp only [beq_eq_false_iff_ne.mpr q2] at hc
        by_cases q9 : c = 9
        · subst q9
          cases hc
          exact ⟨⟨xcs9_, xga9, xgg9, xex9, xcc9, oget, otk, xmr9⟩, xk9_UnknownName⟩
        simp only [beq_eq_false_iff_ne.mpr q9] at hc
        by_cases q1 : c = 1
        · subst q1
          cases hc
          exact ⟨⟨xcs1_, xga1, xgg1, xex1, xcc1, oget, otk, xmr1⟩, xk1_UnknownName⟩
        simp only [beq_eq_false_iff_ne.mpr q1] at hc
        by_cases q8 : c = 8
        · subst q8
          cases hc
          exact ⟨⟨xcs8_, xga8, xgg8, xex8, xcc8, oget, otk, xmr8⟩, xk8_UnknownName⟩
        simp only [beq_eq_false_iff_ne.mpr q8] at hc
        by_cases q13 : c = 13
        · subst q13
          cases hc
          exact ⟨⟨xcs13_, xga13, xgg13, xex13, xcc13, oget, otk, xmr13⟩, xk13_UnknownName⟩
        simp only [beq_eq_false_iff_ne.mpr q13] at hc
        by_cases q11 : c = 11
        · subst q11
          cases hc
          exact ⟨⟨xcs11_, xga11, xgg11, xex11, xcc11, oget, otk, xmr11⟩, xk11_UnknownName⟩
        simp only [beq_eq_false_iff_ne.mpr q11] at hc
        by_cases q6 : c = 6
        · subst q6
          cases hc
          exact ⟨⟨xcs6_, xga6, xgg6, xex6, xcc6, oget, otk, xmr6⟩, xk6_UnknownName⟩
        simp only [beq_eq_false_iff_ne.mpr q6] at hc
        by_cases q15 : c = 15
        · subst q15
          cases hc
          exact ⟨⟨xcs15_, xga15, xgg15, xex15, xcc15, oget, otk, xmr15⟩, xk15_UnknownName⟩
        simp only [beq_eq_false_iff_ne.mpr q15] at hc
        by_cases q16 : c = 16
        · subst q16
          cases hc
          exact ⟨⟨xcs16_, xga16, xgg16, xex16, xcc16, oget, otk, xmr16⟩, xk16_UnknownName⟩
        simp only [beq_eq_false_iff_ne.mpr q16] at hc
        by_cases q3 : c = 3
        · subst q3
          cases hc
          exact ⟨⟨xcs3_, xga3, xgg3, xex3, xcc3, oget, otk, xmr3⟩, xk3_UnknownName⟩
        simp only [beq_eq_false_iff_ne.mpr q3] at hc
        cases hc
      kx_ValueError := fun c r hc => by
        simp only [tab_ValueError, List.lookup_cons, List.lookup_nil] at hc
        by_cases q14 : c = 14
        · subst q14
          cases hc
          exact ⟨⟨xcs14_, xga14, xgg14, xex14, xcc14, oget, otk, xmr14⟩, xk14_ValueError⟩
        simp only [beq_eq_false_iff_ne.mpr q14] at hc
        by_cases q7 : c = 7
        · subst q7
          cases hc
          exact ⟨⟨xcs7_, xga7, xgg7, xex7, xcc7, oget, otk, xmr7⟩, xk7_ValueError⟩
        simp only [beq_eq_false_iff_ne.mpr q7] at hc
        by_cases q12 : c = 12
        · subst q12
          cases hc
          exact ⟨⟨xcs12_, xga12, xgg12, xex12, xcc12, oget, otk, xmr12⟩, xk12_ValueError⟩
        simp only [beq_eq_false_iff_ne.mpr q12] at hc
        by_cases q5 : c = 5
        · subst q5
          cases hc
          exact ⟨⟨xcs5_, xga5, xgg5, xex5, xcc5, oget, otk, xmr5⟩, xk5_ValueError⟩
        simp only [beq_eq_false_iff_ne.mpr q5] at hc
        by_cases q10 : c = 10
        · subst q10
          cases hc
          exact ⟨⟨xcs10_, xga10, xgg10, xex10, xcc10, oget, otk, xmr10⟩, xk10_ValueError⟩
        simp only [beq_eq_false_iff_ne.mpr q10] at hc
        by_cases q2 : c = 2
        · subst q2
          cases hc
          exact ⟨⟨xcs2_, xga2, xgg2, xex2, xcc2, oget, otk, xmr2⟩, xk2_ValueError⟩
        simp only [beq_eq_false_iff_ne.mpr q2] at hc
        by_cases q9 : c = 9
        · subst q9
          cases hc
          exact ⟨⟨xcs9_, xga9, xgg9, xex9, xcc9, oget, otk, xmr9⟩, xk9_ValueError⟩
        simp only [beq_eq_false_iff_ne.mpr q9] at hc
        by_cases q1 : c = 1
        · subst q1
          cases hc
          exact ⟨⟨xcs1_, xga1, xgg1, xex1, xcc1, oget, otk, xmr1⟩, xk1_ValueError⟩
        simp only [beq_eq_false_iff_ne.mpr q1] at hc
        by_cases q8 : c = 8
        · subst q8
          cases hc
          exact ⟨⟨xcs8_, xga8, xgg8, xex8, xcc8, oget, otk, xmr8⟩, xk8_ValueError⟩
        simp only [beq_eq_false_iff_ne.mpr q8] at hc
        by_cases q13 : c = 13
        · subst q13
          cases hc
          exact ⟨⟨xcs13_, xga13, xgg13, xex13, xcc13, oget, otk, xmr13⟩, xk13_ValueError⟩
        simp only [beq_eq_false_iff_ne.mpr q13] at hc
        by_cases q11 : c = 11
        · subst q11
          cases hc
          exact ⟨⟨xcs11_, xga11, xgg11, xex11, xcc11, oget, otk, xmr11⟩, xk11_ValueError⟩
        simp only [beq_eq_false_iff_ne.mpr q11] at hc
        by_cases q6 : c = 6
        · subst q6
          cases hc
          exact ⟨⟨xcs6_, xga6, xgg6, xex6, xcc6, oget, otk, xmr6⟩, xk6_ValueError⟩
        simp only [beq_eq_false_iff_ne.mpr q6] at hc
        by_cases q15 : c = 15
        · subst q15
          cases hc
          exact ⟨⟨xcs15_, xga15, xgg15, xex15, xcc15, oget, otk, xmr15⟩, xk15_ValueError⟩
        simp only [beq_eq_false_iff_ne.mpr q15] at hc
        by_cases q16 : c = 16
        · subst q16
          cases hc
          exact ⟨⟨xcs16_, xga16, xgg16, xex16, xcc16, oget, otk, xmr16⟩, xk16_ValueError⟩
        simp only [beq_eq_false_iff_ne.mpr q16] at hc
        by_cases q3 : c = 3
        · subst q3
          cases hc
          exact ⟨⟨xcs3_, xga3, xgg3, xex3, xcc3, oget, otk, xmr3⟩, xk3_ValueError⟩
        simp only [beq_eq_false_iff_ne.mpr q3] at hc
        cases hc
      xf := fun c f hcf => by
        simp only [xflT, Bool.or_eq_true, Bool.and_eq_true, decide_eq_true_eq] at hcf
        rcases hcf with (((((((((((((((((⟨rfl, rfl⟩ | ⟨rfl, rfl⟩) | ⟨rfl, rfl⟩) | ⟨rfl, rfl⟩) | ⟨rfl, rfl⟩) | ⟨rfl, rfl⟩) | ⟨rfl, rfl⟩) | ⟨rfl, rfl⟩) | ⟨rfl, rfl⟩) | ⟨rfl, rfl⟩) | ⟨rfl, rfl⟩) | ⟨rfl, rfl⟩) | ⟨rfl, rfl⟩) | ⟨rfl, rfl⟩) | ⟨rfl, rfl⟩) | ⟨rfl, rfl⟩) | ⟨rfl, rfl⟩) | ⟨rfl, rfl⟩)
        · exact ⟨⟨xga14, xgg14, xex14, xhi14⟩, xnf14_0⟩
        · exact ⟨⟨xga7, xgg7, xex7, xhi7⟩, xnf7_0⟩
        · exact ⟨⟨xga7, xgg7, xex7, xhi7⟩, xnf7_1⟩
        · exact ⟨⟨xga12, xgg12, xex12, xhi12⟩, xnf12_0⟩
        · exact ⟨⟨xga5, xgg5, xex5, xhi5⟩, xnf5_0⟩
        · exact ⟨⟨xga10, xgg10, xex10, xhi10⟩, xnf10_0⟩
        · exact ⟨⟨xga2, xgg2, xex2, xhi2⟩, xnf2_0⟩
        · exact ⟨⟨xga9, xgg9, xex9, xhi9⟩, xnf9_0⟩
        · exact ⟨⟨xga1, xgg1, xex1, xhi1⟩, xnf1_0⟩
        · exact ⟨⟨xga8, xgg8, xex8, xhi8⟩, xnf8_0⟩
        · exact ⟨⟨xga13, xgg13, xex13, xhi13⟩, xnf13_0⟩
        · exact ⟨⟨xga11, xgg11, xex11, xhi11⟩, xnf11_0⟩
        · exact ⟨⟨xga6, xgg6, xex6, xhi6⟩, xnf6_0⟩
        · exact ⟨⟨xga6, xgg6, xex6, xhi6⟩, xnf6_1⟩
        · exact ⟨⟨xga15, xgg15, xex15, xhi15⟩, xnf15_0⟩
        · exact ⟨⟨xga15, xgg15, xex15, xhi15⟩, xnf15_1⟩
        · exact ⟨⟨xga16, xgg16, xex16, xhi16⟩, xnf16_0⟩
        · exact ⟨⟨xga3, xgg3, xex3, xhi3⟩, xnf3_0⟩ }
  have L : ∀ base, Law0 PySem.Challenge.pw_takendown_k01_error_classes w K mg base (⟨K, fun i => [C0, C1, C2, C3, 0, C5, C6, C7, C8, C9, C10, C11, C12, C13, C14, C15, C16].getD i 0, fun i => [0, 0, 0, 0, 0, 0, 0, 0, 0, 0, 0, 0, 0, 0, 0, 0, 0, 0, 0, 0, 0, 0, 0, 0, 0, f25, 0, 0, 0, 0, f30, 0, f32, f33, f34, f35, f36].getD i 0⟩ : GG) prg := fun base => ⟨T.k, T.fld, T.met, T.cls⟩
  refine ⟨(⟨K, fun i => [C0, C1, C2, C3, 0, C5, C6, C7, C8, C9, C10, C11, C12, C13, C14, C15, C16].getD i 0, fun i => [0, 0, 0, 0, 0, 0, 0, 0, 0, 0, 0, 0, 0, 0, 0, 0, 0, 0, 0, 0, 0, 0, 0, 0, 0, f25, 0, 0, 0, 0, f30, 0, f32, f33, f34, f35, f36].getD i 0⟩ : GG), e, fun base hK hN => fnG_all (fun k ih f hf => ?_) 60 30⟩
  match f, hf with
  | 25, _ => exact fnG_plain (ps := ["_law_cell", "_law_salt", "_law_sizes"]) (L base) rfl l25 c25 sc__law_numbers (fun us hl => match us, hl with | [_, _, _], _ => rfl) rfl rfl rfl ih (d__law_numbers T)
  | 32, _ => exact fnG_plain (ps := ["_law_one", "_law_two"]) (L base) rfl l32 c32 sc__law_made (fun us hl => match us, hl with | [_, _], _ => rfl) rfl rfl rfl ih (d__law_made T)
  | 33, _ => exact fnG_plain (ps := ["_law_one", "_law_two"]) (L base) rfl l33 c33 sc__law_named (fun us hl => match us, hl with | [_, _], _ => rfl) rfl rfl rfl ih (d__law_named T)
  | 34, _ => exact fnG_plain (ps := ["_law_some"]) (L base) rfl l34 c34 sc__law_fields (fun us hl => match us, hl with | [_], _ => rfl) rfl rfl rfl ih (d__law_fields T)
  | 35, _ => exact fnG_plain (ps := ["_law_e"]) (L base) rfl l35 c35 sc__law_kinds (fun us hl => match us, hl with | [_], _ => rfl) rfl rfl rfl ih (d__law_kinds T)
  | 36, _ => exact fnG_plain (ps := ["_law_e"]) (L base) rfl l36 c36 sc__law_bases (fun us hl => match us, hl with | [_], _ => rfl) rfl rfl rfl ih (d__law_bases T)
  | 30, _ => exact fnG_plain (ps := ["_law_script"]) (L base) rfl l30 c30 sc_law (fun us hl => match us, hl with | [_], _ => rfl) rfl rfl rfl ih (d_law T)
  | 0, hf => exact (hf rfl).elim
  | 1, hf => exact (hf rfl).elim
  | 2, hf => exact (hf rfl).elim
  | 3, hf => exact (hf rfl).elim
  | 4, hf => exact (hf rfl).elim
  | 5, hf => exact (hf rfl).elim
  | 6, hf => exact (hf rfl).elim
  | 7, hf => exact (hf rfl).elim
  | 8, hf => exact (hf rfl).elim
  | 9, hf => exact (hf rfl).elim
  | 10, hf => exact (hf rfl).elim
  | 11, hf => exact (hf rfl).elim
  | 12, hf => exact (hf rfl).elim
  | 13, hf => exact (hf rfl).elim
  | 14, hf => exact (hf rfl).elim
  | 15, hf => exact (hf rfl).elim
  | 16, hf => exact (hf rfl).elim
  | 17, hf => exact (hf rfl).elim
  | 18, hf => exact (hf rfl).elim
  | 19, hf => exact (hf rfl).elim
  | 20, hf => exact (hf rfl).elim
  | 21, hf => exact (hf rfl).elim
  | 22, hf => exact (hf rfl).elim
  | 23, hf => exact (hf rfl).elim
  | 24, hf => exact (hf rfl).elim
  | 26, hf => exact (hf rfl).elim
  | 27, hf => exact (hf rfl).elim
  | 28, hf => exact (hf rfl).elim
  | 29, hf => exact (hf rfl).elim
  | 31, hf => exact (hf rfl).elim
  | m + 37, hf => exact (hf rfl).elim
end LW
set_option Elab.async false
set_option linter.all false
set_option maxRecDepth 100000
set_option maxHeartbeats 2000000
/-! TD, part R: running code by rewriting. -/
namespace TD
open PySem L2
section
variable {α β γ : Type}
def bR (r : Option (Res α × Mem)) (k : α → Mem → Option (Res β × Mem)) : Option (Res β × Mem) :=
  match r with
  | none => none
  | some (.ok a, M) => k a M
  | some (.ex x, M) => some (.ex x, M)
def sR (e : Env) (r : Option (Res α × Mem)) (k : α → Mem → Option (Flw × Mem)) : Option (Flw × Mem) :=
  match r with
  | none => none
  | some (.ok a, M) => k a M
  | some (.ex x, M) => some (.ex x e, M)
def tR (r : Option (Flw × Mem)) (k : Env → Mem → Option (Flw × Mem)) : Option (Flw × Mem) :=
  match r with
  | none => none
  | some (.next e, M) => k e M
  | some (f, M) => some (f, M)
variable {k : α → Mem → Option (Res β × Mem)} {ks : α → Mem → Option (Flw × Mem)} {kt : Env → Mem → Option (Flw × Mem)} {e : Env} {M : Mem} {a : α} {x : Xc} {v : Vl}
@[scoped simp] theorem bR_ok : bR (some (.ok a, M)) k = k a M := rfl
@[scoped simp] theorem bR_ex : bR (some (.ex x, M)) k = some (.ex x, M) := rfl
@[scoped simp] theorem bR_none : bR none k = none := rfl
theorem bR_congr {r r' : Option (Res α × Mem)} (h : r = r') : bR r k = bR r' k := by rw [h]
@[scoped simp] theorem sR_ok : sR e (some (.ok a, M)) ks = ks a M := rfl
@[scoped simp] theorem sR_ex : sR e (some (.ex x, M)) ks = some (.ex x e, M) := rfl
@[scoped simp] theorem sR_none : sR e none ks = none := rfl
theorem sR_congr {r r' : Option (Res α × Mem)} (h : r = r') : sR e r ks = sR e r' ks := by rw [h]
@[scoped simp] theorem tR_next : tR (some (.next e, M)) kt = kt e M := rfl
@[scoped simp] theorem tR_ret : tR (some (.ret v, M)) kt = some (.ret v, M) := rfl
@[scoped simp] theorem tR_brk : tR (some (.brk e, M)) kt = some (.brk e, M) := rfl
@[scoped simp] theorem tR_cnt : tR (some (.cnt e, M)) kt = some (.cnt e, M) := rfl
@[scoped simp] theorem tR_ex : tR (some (.ex x e, M)) kt = some (.ex x e, M) := rfl
@[scoped simp] theorem tR_none : tR none kt = none := rfl
theorem tR_congr {r r' : Option (Flw × Mem)} (h : r = r') : tR r kt = tR r' kt := by rw [h]
@[scoped simp] theorem bR_ite {c : Prop} [Decidable c] {r r' : Option (Res α × Mem)} : bR (if c then r else r') k = if c then bR r k else bR r' k := by split <;> rfl
@[scoped simp] theorem sR_ite {c : Prop} [Decidable c] {r r' : Option (Res α × Mem)} : sR e (if c then r else r') ks = if c then sR e r ks else sR e r' ks := by split <;> rfl
@[scoped simp] theorem tR_ite {c : Prop} [Decidable c] {r r' : Option (Flw × Mem)} : tR (if c then r else r') kt = if c then tR r kt else tR r' kt := by split <;> rfl
theorem bind_at {m : EM α} {k : α → EM β} : EM.bind m k M = bR (m M) k := rfl
theorem seqE_at {m : EM α} {k : α → SM} : seqE e m k M = sR e (m M) k := rfl
theorem then_at {m : SM} {k : Env → SM} : SM.then m k M = tR (m M) k := rfl
@[scoped simp] theorem ite_at {c : Prop} [Decidable c] {m m' : EM α} : (if c then m else m') M = if c then m M else m' M := by split <;> rfl
@[scoped simp] theorem ite_atS {c : Prop} [Decidable c] {m m' : SM} : (if c then m else m') M = if c then m M else m' M := by split <;> rfl
@[scoped simp] theorem pure_at : EM.pure a M = some (.ok a, M) := rfl
@[scoped simp] theorem spure_at {f : Flw} : SM.pure f M = some (f, M) := rfl
@[scoped simp] theorem fail_at : (EM.fail : EM α) M = none := rfl
@[scoped simp] theorem o_some : EM.o (some a) M = some (.ok a, M) := rfl
@[scoped simp] theorem o_none : EM.o (none : Option α) M = none := rfl
@[scoped simp] theorem o_ite {c : Prop} [Decidable c] {r r' : Option α} : EM.o (if c then r else r') M = if c then EM.o r M else EM.o r' M := by split <;> rfl
end
section
variable {T : Tab} {rp : D → Option Str} {cl : Cl} {e : Env} {M : Mem} {a b c : CE} {i j : Nat} {d : D} {es : CL} {x y : Vl} {dx dy : D}
@[scoped simp] theorem getV_at {s : List (Option Vl)} {xx : Option Xc} {v : Vl} (h : s[i]? = some (some v)) : getV ⟨s, xx⟩ i M = some (.ok v, M) := by
  unfold getV; simp only [h]
@[scoped simp] theorem runE_var : runE T rp cl (.var i) e M = getV e i M := rfl
@[scoped simp] theorem runE_con : runE T rp cl (.con d) e M = some (.ok (.d d), M) := rfl
@[scoped simp] theorem runE_glb : runE T rp cl (.glb d) e M = some (.ok (.d d), M) := rfl
@[scoped simp] theorem runE_tup : runE T rp cl (.tup es) e M = bR (runL T rp cl es e M) fun vs M => bR (toDs vs M) fun ds M => mkTup ds M := rfl
@[scoped simp] theorem runE_lst : runE T rp cl (.lst es) e M = bR (runL T rp cl es e M) fun vs M => bR (toDs vs M) fun ds M => mkLst ds M := rfl
@[scoped simp] theorem runE_new : runE T rp cl (.new es) e M = bR (runL T rp cl es e M) fun vs M => bR (toDs vs M) fun ds M => mkNew ds M := rfl
@[scoped simp] theorem runE_bin {op : Operator} : runE T rp cl (.bin op a b) e M = bR (runE T rp cl a e M) fun x M => bR (runE T rp cl b e M) fun y M => opB op x y M := rfl
@[scoped simp] theorem runE_neg : runE T rp cl (.neg a) e M = bR (runE T rp cl a e M) fun x M => opN x M := rfl
@[scoped simp] theorem runE_cmp {op : CmpOp} : runE T rp cl (.cmp op a b) e M = bR (runE T rp cl a e M) fun x M => bR (runE T rp cl b e M) fun y M => opC op x y M := rfl
@[scoped simp] theorem runE_chn {op op' : CmpOp} : runE T rp cl (.chn op op' a b c) e M = bR (runE T rp cl a e M) fun x M => bR (runE T rp cl b e M) fun y M => bR (opC op x y M) fun r M => bR (boolOf r M) fun k M =>
      if k = true then bR (runE T rp cl c e M) fun z M => opC op' y z M else some (.ok (.d (.bl false)), M) := by
  show EM.bind _ _ M = _
  simp only [bind_at]
  congr 1; funext x M; congr 1; funext y M; congr 1; funext r M; congr 1; funext k M
  cases k <;> rfl
@[scoped simp] theorem runE_and : runE T rp cl (.and a b) e M = bR (runE T rp cl a e M) fun x M => bR (boolOf x M) fun k M => if k = true then runE T rp cl b e M else some (.ok (.d (.bl false)), M) := by
  show EM.bind _ _ M = _
  simp only [bind_at]
  congr 1; funext x M; congr 1; funext k M
  cases k <;> rfl
@[scoped simp] theorem runE_or : runE T rp cl (.or a b) e M = bR (runE T rp cl a e M) fun x M => bR (boolOf x M) fun k M => if k = true then some (.ok (.d (.bl true)), M) else runE T rp cl b e M := by
  show EM.bind _ _ M = _
  simp only [bind_at]
  congr 1; funext x M; congr 1; funext k M
  cases k <;> rfl
@[scoped simp] theorem runE_not : runE T rp cl (.not a) e M = bR (runE T rp cl a e M) fun x M => bR (boolOf x M) fun k M => some (.ok (.d (.bl (!k))), M) := rfl
@[scoped simp] theorem runE_ite {t : CT} : runE T rp cl (.ite t a b) e M = bR (runT T rp cl t e M) fun k M => if k = true then runE T rp cl a e M else runE T rp cl b e M := by
  show EM.bind _ _ M = _
  simp only [bind_at]
  congr 1; funext k M
  cases k <;> rfl
@[scoped simp] theorem runE_call {f : Fi} : runE T rp cl (.call f es) e M = bR (runL T rp cl es e M) fun vs M => cl f vs M := rfl
@[scoped simp] theorem runE_blt {f : BI} : runE T rp cl (.blt f es) e M = bR (runL T rp cl es e M) fun vs M => bltV rp f vs M := rfl
@[scoped simp] theorem runE_isi {t : Ty} : runE T rp cl (.isi a t) e M = bR (runE T rp cl a e M) fun x M => isiV T t x M := rfl
@[scoped simp] theorem runE_met {m : Str} : runE T rp cl (.met m a es) e M = bR (runE T rp cl a e M) fun x M => bR (metE T m x M) fun f M => bR (runL T rp cl es e M) fun vs M => cl (.fn f) (x :: vs) M := rfl
@[scoped simp] theorem runE_smet {f : Nat} : runE T rp cl (.smet f es) e M = bR (runL T rp cl es e M) fun vs M => cl (.fn f) vs M := rfl
@[scoped simp] theorem runE_fld {f : Str} : runE T rp cl (.fld a f) e M = bR (runE T rp cl a e M) fun x M => fieldOf T f x M := rfl
@[scoped simp] theorem runE_ix : runE T rp cl (.ix a b) e M = bR (runE T rp cl a e M) fun x M => bR (runE T rp cl b e M) fun y M => opI x y M := rfl
@[scoped simp] theorem runE_sl {lo hi : CO} : runE T rp cl (.sl a lo hi) e M = bR (runE T rp cl a e M) fun x M => bR (runO T rp cl lo e M) fun l M => bR (runO T rp cl hi e M) fun h M => bR (peekW x M) fun dx M => EM.o ((slD dx l h).map .d) M := rfl
def lcF (T : Tab) (rp : D → Option Str) (cl : Cl) (g : CG) (t : CTs) (c : CE) (own : List Nat) (e : Env) (x : D) : EM (Option D) := match asg g x (e.wipe own) with
      | none => EM.fail
      | some e' => EM.bind (runTs T rp cl t e') fun k => if k then EM.bind (runE T rp cl c e') fun v => EM.bind (toD v) fun d => EM.pure (some d) else EM.pure none
@[scoped simp] theorem runE_lc {g : CG} {it : CI} {t : CTs} {own : List Nat} : runE T rp cl (.lc g it t c own) e M = bR (runI T rp cl it e M) fun xs M => bR (lcGo (lcF T rp cl g t c own e) xs M) fun ds M => mkLst ds M := rfl
theorem lcF_at {g : CG} {t : CTs} {own : List Nat} {x : D} {e' : Env} (h : asg g x (e.wipe own) = some e') : lcF T rp cl g t c own e x M = bR (runTs T rp cl t e' M) fun k M => if k = true then bR (runE T rp cl c e' M) fun v M => bR (toD v M) fun d M => some (.ok (some d), M) else some (.ok none, M) := by
  unfold lcF
  simp only [h, bind_at]
  congr 1; funext k M
  cases k <;> rfl
@[scoped simp] theorem runE_obin : runE T rp cl (.obin a b) e M = bR (runE T rp cl a e M) fun x M => bR (runE T rp cl b e M) fun y M => obinV T cl x y M := rfl
@[scoped simp] theorem runE_rev : runE T rp cl (.rev a) e M = bR (runE T rp cl a e M) fun x M => bR (peek x M) fun d M => EM.o ((revD d).map .d) M := rfl
@[scoped simp] theorem runE_xf {f : Str} : runE T rp cl (.xf f) e M = EM.o ((e.x.bind fun x => if T.xfl x.cls f then x.fs.lookup f else none).map .d) M := rfl
@[scoped simp] theorem runE_kin {neg : Bool} {n : Nat} {kvs : List (Str × D)} : runE T rp cl (.kin neg a n kvs) e M = bR (runE T rp cl a e M) fun x M => bR (peek x M) fun dx M => EM.o ((kget kvs dx).map fun o => .d (.bl (if neg then !o.isSome else o.isSome))) M := rfl
@[scoped simp] theorem runE_kix {n : Nat} {kvs : List (Str × D)} : runE T rp cl (.kix n kvs a) e M = bR (runE T rp cl a e M) fun x M => bR (peek x M) fun dx M => EM.o (((kget kvs dx).bind id).map .d) M := rfl
@[scoped simp] theorem runL_nil : runL T rp cl .nil e M = some (.ok [], M) := rfl
@[scoped simp] theorem runL_cons : runL T rp cl (.cons a es) e M = bR (runE T rp cl a e M) fun v M => bR (runL T rp cl es e M) fun vs M => some (.ok (v :: vs), M) := rfl
@[scoped simp] theorem runL_star : runL T rp cl (.star a es) e M = bR (runE T rp cl a e M) fun v M => bR (peek v M) fun d M => bR (EM.o (items d) M) fun xs M => bR (runL T rp cl es e M) fun vs M => some (.ok (xs.map .d ++ vs), M) := rfl
@[scoped simp] theorem runO_none : runO T rp cl .none e M = some (.ok none, M) := rfl
@[scoped simp] theorem runO_some : runO T rp cl (.some a) e M = bR (runE T rp cl a e M) fun v M => bR (intOf v M) fun i M => some (.ok (some i), M) := rfl
@[scoped simp] theorem runT_val : runT T rp cl (.val a) e M = bR (runE T rp cl a e M) fun v M => bR (peek v M) fun d M => EM.o (truD d) M := rfl
@[scoped simp] theorem runT_tst : runT T rp cl (.tst a) e M = bR (runE T rp cl a e M) fun v M => boolOf v M := rfl
@[scoped simp] theorem runT_and {t u : CT} : runT T rp cl (.and t u) e M = bR (runT T rp cl t e M) fun k M => if k = true then runT T rp cl u e M else some (.ok false, M) := by
  show EM.bind _ _ M = _
  simp only [bind_at]
  congr 1; funext k M
  cases k <;> rfl
@[scoped simp] theorem runT_or {t u : CT} : runT T rp cl (.or t u) e M = bR (runT T rp cl t e M) fun k M => if k = true then some (.ok true, M) else runT T rp cl u e M := by
  show EM.bind _ _ M = _
  simp only [bind_at]
  congr 1; funext k M
  cases k <;> rfl
@[scoped simp] theorem runT_not {t : CT} : runT T rp cl (.not t) e M = bR (runT T rp cl t e M) fun k M => some (.ok (!k), M) := rfl
@[scoped simp] theorem runTs_nil : runTs T rp cl .nil e M = some (.ok true, M) := rfl
@[scoped simp] theorem runTs_one {t : CT} : runTs T rp cl (.one t) e M = runT T rp cl t e M := rfl
@[scoped simp] theorem runI_seq : runI T rp cl (.seq a) e M = bR (runE T rp cl a e M) fun v M => bR (toD v M) fun d M => EM.o ((items d).bind fun xs => if szOk xs.length then some xs else none) M := rfl
@[scoped simp] theorem runI_rng : runI T rp cl (.rng a) e M = bR (runE T rp cl a e M) fun v M => bR (intOf v M) fun i M => EM.o (if decide (-(2 ^ 62) ≤ i) && decide (i ≤ 16777216) then some (rngGo i.toNat 0) else none) M := rfl
@[scoped simp] theorem runI_enm : runI T rp cl (.enm a) e M = bR (runE T rp cl a e M) fun v M => bR (toD v M) fun d M => EM.o ((items d).bind fun xs => if szOk xs.length then some (zipEnum 0 xs) else none) M := rfl
def charsV (v : Vl) : EM (List D) := match v with
      | .d (.str x) => EM.o (if szOk x.length then some (x.cps.toList.map fun c => .str ⟨#[c]⟩) else none)
      | _ => EM.fail
@[scoped simp] theorem runI_chars : runI T rp cl (.chars a) e M = bR (runE T rp cl a e M) fun v M => charsV v M := rfl
@[scoped simp] theorem charsV_str {x : Str} : charsV (.d (.str x)) M = EM.o (if szOk x.length then some (x.cps.toList.map fun c => .str ⟨#[c]⟩) else none) M := rfl
@[scoped simp] theorem toDs_nil : toDs [] M = some (.ok [], M) := rfl
@[scoped simp] theorem toDs_cons {vs : List Vl} : toDs (x :: vs) M = bR (toD x M) fun d M => bR (toDs vs M) fun ds M => some (.ok (d :: ds), M) := rfl
@[scoped simp] theorem toD_d : toD (.d d) M = some (.ok d, M) := rfl
@[scoped simp] theorem toD_loc {n : Nat} : toD (.loc n) M = freeze n M := rfl
@[scoped simp] theorem peek_d : peek (.d d) M = some (.ok d, M) := rfl
@[scoped simp] theorem peekW_d : peekW (.d d) M = some (.ok d, M) := rfl
theorem toDs_map : ∀ (xs : List D) (M : Mem), toDs (xs.map .d) M = some (.ok xs, M)
  | [], _ => rfl
  | x :: xs, M => by simp [toDs_map xs M]
@[scoped simp] theorem mkTup_at {ds : List D} : mkTup ds M = if szOk ds.length then some (.ok (.d (.tup ds)), M) else none := by unfold mkTup; cases szOk ds.length <;> rfl
@[scoped simp] theorem mkLst_at {ds : List D} : mkLst ds M = if szOk ds.length then some (.ok (.d (.lst ds)), M) else none := by unfold mkLst; cases szOk ds.length <;> rfl
@[scoped simp] theorem mkNew_at {ds : List D} : mkNew ds M = if szOk ds.length then some (.ok (.loc M.length), M ++ [.lst ds]) else none := by unfold mkNew; cases szOk ds.length <;> rfl
@[scoped simp] theorem opB_d {op : Operator} : opB op (.d dx) (.d dy) M = EM.o ((binD op dx dy).map .d) M := rfl
@[scoped simp] theorem opC_d {op : CmpOp} : opC op (.d dx) (.d dy) M = EM.o ((cmpD op dx dy).map fun b => .d (.bl b)) M := rfl
@[scoped simp] theorem opI_d : opI (.d dx) (.d dy) M = EM.o ((ixD dx dy).map .d) M := rfl
@[scoped simp] theorem opN_d : opN (.d dx) M = EM.o ((negD dx).map .d) M := rfl
@[scoped simp] theorem boolOf_d {k : Bool} : boolOf (.d (.bl k)) M = some (.ok k, M) := rfl
@[scoped simp] theorem intOf_d {k : Int} : intOf (.d (.int k)) M = some (.ok k, M) := rfl
@[scoped simp] theorem isiV_d {t : Ty} : isiV T t (.d dx) M = EM.o (((noX dx).bind (isiO T t)).map fun b => .d (.bl b)) M := by
  unfold isiV
  show (match (noX dx).bind (isiO T t) with
  | some b => some (Res.ok (Vl.d (D.bl b)), M)
  | none => none) = _
  cases (noX dx).bind (isiO T t) <;> rfl
@[scoped simp] theorem noX_non : noX .non = some .non := rfl
@[scoped simp] theorem noX_bl {b : Bool} : noX (.bl b) = some (.bl b) := rfl
@[scoped simp] theorem noX_int {b : Int} : noX (.int b) = some (.int b) := rfl
@[scoped simp] theorem noX_str {b : Str} : noX (.str b) = some (.str b) := rfl
@[scoped simp] theorem noX_tup {b : List D} : noX (.tup b) = some (.tup b) := rfl
@[scoped simp] theorem noX_lst {b : List D} : noX (.lst b) = some (.lst b) := rfl
@[scoped simp] theorem noX_dic {b : List (D × D)} : noX (.dic b) = some (.dic b) := rfl
@[scoped simp] theorem noX_obj {c : Nat} {b : List (Str × D)} : noX (.obj c b) = some (.obj c b) := rfl
@[scoped simp] theorem runE_mkx {k : Nat} {fs : List Str} {kw : Bool} : runE T rp cl (.mkx k fs kw es) e M = bR (runL T rp cl es e M) fun vs M => bR (toDs vs M) fun ds M => EM.o (if fs.length = ds.length then some (.d (.exc k (fs.zip (if kw then ds.reverse else ds)))) else none) M := rfl
@[scoped simp] theorem runE_xfld {f : Str} : runE T rp cl (.xfld a f) e M = bR (runE T rp cl a e M) fun x M => xfldV T f x M := rfl
@[scoped simp] theorem runE_isx {tab : List (Nat × Bool)} : runE T rp cl (.isx a tab) e M = bR (runE T rp cl a e M) fun x M => isxV tab x M := rfl
@[scoped simp] theorem xfldV_exc {f : Str} {k : Nat} {fs : List (Str × D)} : xfldV T f (.d (.exc k fs)) M = EM.o (if T.xfl k f then (fs.lookup f).map .d else none) M := rfl
@[scoped simp] theorem isxV_exc {tab : List (Nat × Bool)} {k : Nat} {fs : List (Str × D)} : isxV tab (.d (.exc k fs)) M = EM.o ((tab.lookup k).map fun b => .d (.bl b)) M := rfl
@[scoped simp] theorem bltV_at {f : BI} {vs : List Vl} : bltV rp f vs M = bR (peeks vs M) fun ds M => EM.o ((bltD rp f ds).map .d) M := rfl
@[scoped simp] theorem peeks_nil : peeks [] M = some (.ok [], M) := rfl
@[scoped simp] theorem peeks_cons {vs : List Vl} : peeks (x :: vs) M = bR (peekW x M) fun d M => bR (peeks vs M) fun ds M => some (.ok (d :: ds), M) := rfl
theorem szOk_of {n : Nat} (h : n ≤ 16777216) : szOk n = true := by simp [szOk, h]
end
/-! ### statements -/
section
variable {T : Tab} {rp : D → Option Str} {XT : XTab} {cl : Cl} {e : Env} {M : Mem} {c : CE} {es : CL} {g : CG}
@[scoped simp] theorem runSs_nil : runSs T rp XT cl .nil e M = some (.next e, M) := rfl
@[scoped simp] theorem runSs_cons {s : CS} {r : CSs} : runSs T rp XT cl (.cons s r) e M = tR (runS T rp XT cl s e M) fun e M => runSs T rp XT cl r e M := rfl
@[scoped simp] theorem runS_pass : runS T rp XT cl .pass e M = some (.next e, M) := rfl
@[scoped simp] theorem runS_expr : runS T rp XT cl (.expr c) e M = sR e (runE T rp cl c e M) fun _ M => some (.next e, M) := rfl
@[scoped simp] theorem runS_ret : runS T rp XT cl (.ret c) e M = sR e (runE T rp cl c e M) fun v M => some (.ret v, M) := rfl
@[scoped simp] theorem runS_retN : runS T rp XT cl .retN e M = some (.ret (.d .non), M) := rfl
@[scoped simp] theorem runS_set : runS T rp XT cl (.set g c) e M = sR e (bR (runE T rp cl c e M) fun v M => asgV g v e M) fun e' M => some (.next e', M) := rfl
@[scoped simp] theorem runS_par {is : List Nat} : runS T rp XT cl (.par is es) e M = sR e (bR (runL T rp cl es e M) fun vs M => EM.o (parS is vs e) M) fun e' M => some (.next e', M) := rfl
@[scoped simp] theorem runS_fld {o : CE} {f : Str} : runS T rp XT cl (.fld o f c) e M = sR e (bR (runE T rp cl c e M) fun v M => bR (runE T rp cl o e M) fun x M => setField T f v x M) fun _ M => some (.next e, M) := rfl
@[scoped simp] theorem runS_sub {o i : CE} : runS T rp XT cl (.sub o i c) e M = sR e (bR (runE T rp cl c e M) fun v M => bR (runE T rp cl o e M) fun x M => bR (runE T rp cl i e M) fun y M => subV x y v M) fun _ M => some (.next e, M) := rfl
@[scoped simp] theorem runS_mut {m : BM} {o : CE} : runS T rp XT cl (.mut m o es) e M = sR e (bR (runE T rp cl o e M) fun x M => bR (lstE x M) fun _ M => bR (runL T rp cl es e M) fun vs M => mutV m x vs M) fun _ M => some (.next e, M) := rfl
@[scoped simp] theorem runS_ife {t : CT} {a b : CSs} : runS T rp XT cl (.ife t a b) e M = sR e (runT T rp cl t e M) fun k M => if k = true then runSs T rp XT cl a e M else runSs T rp XT cl b e M := by
  show seqE e _ _ M = _
  simp only [seqE_at]
  congr 1; funext k M
  cases k <;> rfl
def forR (T : Tab) (rp : D → Option Str) (XT : XTab) (cl : Cl) (g : CG) (b : CSs) (xs : List D) (e : Env) : SM := forGo g (fun e' => runSs T rp XT cl b e') xs e
@[scoped simp] theorem runS_fors {it : CI} {b : CSs} : runS T rp XT cl (.fors g it b) e M = sR e (runI T rp cl it e M) fun xs M => forR T rp XT cl g b xs e M := rfl
@[scoped simp] theorem runS_raise {k : Nat} : runS T rp XT cl (.raise k es) e M = sR e (bR (runL T rp cl es e M) fun vs M => bR (toDs vs M) fun ds M => EM.o (mkX XT k ds) M) fun x M => some (.ex x e, M) := rfl
def hR (r : Option (Flw × Mem)) (k : Xc → Env → Mem → Option (Flw × Mem)) : Option (Flw × Mem) :=
  match r with
  | some (.ex x e1, M1) => k x e1 M1
  | r => r
section
variable {k : Xc → Env → Mem → Option (Flw × Mem)} {v : Vl} {x : Xc}
@[scoped simp] theorem hR_ex : hR (some (.ex x e, M)) k = k x e M := rfl
@[scoped simp] theorem hR_next : hR (some (.next e, M)) k = some (.next e, M) := rfl
@[scoped simp] theorem hR_ret : hR (some (.ret v, M)) k = some (.ret v, M) := rfl
@[scoped simp] theorem hR_brk : hR (some (.brk e, M)) k = some (.brk e, M) := rfl
@[scoped simp] theorem hR_cnt : hR (some (.cnt e, M)) k = some (.cnt e, M) := rfl
@[scoped simp] theorem hR_none : hR none k = none := rfl
theorem hR_congr {r r' : Option (Flw × Mem)} (h : r = r') : hR r k = hR r' k := by rw [h]
@[scoped simp] theorem hR_ite {c : Prop} [Decidable c] {r r' : Option (Flw × Mem)} : hR (if c then r else r') k = if c then hR r k else hR r' k := by split <;> rfl
end
@[scoped simp] theorem runS_tryx {b : CSs} {hs : CHs} : runS T rp XT cl (.tryx b hs) e M = hR (runSs T rp XT cl b e M) fun x e M => runH T rp XT cl hs x e M := by
  show (match runSs T rp XT cl b e M with
    | some (.ex x e1, M1) => runH T rp XT cl hs x e1 M1
    | r => r) = _
  rfl
@[scoped simp] theorem runS_brk : runS T rp XT cl .brk e M = some (.brk e, M) := rfl
@[scoped simp] theorem runS_cnt : runS T rp XT cl .cnt e M = some (.cnt e, M) := rfl
@[scoped simp] theorem asgV_name {i : Nat} {v : Vl} : asgV (.name i) v e M = some (.ok (e.set i v), M) := rfl
@[scoped simp] theorem asgV_tup {gs : CGs} {v : Vl} : asgV (.tup gs) v e M = bR (toD v M) fun d M => EM.o (asg (.tup gs) d e) M := rfl
@[scoped simp] theorem asg_name {i : Nat} {d : D} : asg (.name i) d e = some (e.set i (.d d)) := rfl
@[scoped simp] theorem asg_tup {gs : CGs} {xs : List D} : asg (.tup gs) (.tup xs) e = asgs gs xs e := rfl
@[scoped simp] theorem asg_lst {gs : CGs} {xs : List D} : asg (.tup gs) (.lst xs) e = asgs gs xs e := rfl
@[scoped simp] theorem asgs_nil : asgs .nil [] e = some e := rfl
@[scoped simp] theorem asgs_cons {gs : CGs} {x : D} {xs : List D} : asgs (.cons g gs) (x :: xs) e = (asg g x e).bind fun e' => asgs gs xs e' := rfl
@[scoped simp] theorem set_at {s : List (Option Vl)} {xx : Option Xc} {i : Nat} {v : Vl} : Env.set ⟨s, xx⟩ i v = ⟨s.set i (some v), none⟩ := rfl
@[scoped simp] theorem parS_nil : parS [] [] e = some e := rfl
@[scoped simp] theorem parS_cons {i : Nat} {is : List Nat} {v : Vl} {vs : List Vl} : parS (i :: is) (v :: vs) e = parS is vs (e.set i v) := rfl
@[scoped simp] theorem wipe_at {s : List (Option Vl)} {xx : Option Xc} {vs : List Nat} : Env.wipe ⟨s, xx⟩ vs = ⟨wipeS s vs, none⟩ := rfl
@[scoped simp] theorem wipeS_nil {s : List (Option Vl)} : wipeS s [] = s := rfl
@[scoped simp] theorem wipeS_cons {s : List (Option Vl)} {v : Nat} {vs : List Nat} : wipeS s (v :: vs) = (wipeS s vs).set v none := rfl
end
/-! ### a loop by its invariant -/
def WS (r : Option (Flw × Mem)) (Q : Flw → Mem → Prop) : Prop := ∃ f M, r = some (f, M) ∧ Q f M
theorem for_inv {T : Tab} {rp : D → Option Str} {XT : XTab} {cl : Cl} {g : CG} {b : CSs} {Q : Flw → Mem → Prop} (I : List D → Env → Mem → Prop)
    (step : ∀ x xs e M, I (x :: xs) e M → ∃ e1, asg g x e = some e1 ∧ ∃ f M', runSs T rp XT cl b e1 M = some (f, M') ∧ match f with
      | .next e2 => I xs e2 M'
      | .cnt e2 => I xs e2 M'
      | .brk e2 => Q (.next e2) M'
      | .ret v => Q (.ret v) M'
      | .ex x e2 => Q (.ex x e2) M')
    (done : ∀ e M, I [] e M → Q (.next e) M) : ∀ (xs : List D) (e : Env) (M : Mem), I xs e M → ∃ f M', forR T rp XT cl g b xs e M = some (f, M') ∧ Q f M'
  | [], e, M, h => ⟨_, _, rfl, done e M h⟩
  | x :: xs, e, M, h => by
    obtain ⟨e1, h1, f, M', h2, h3⟩ := step x xs e M h
    have key : forR T rp XT cl g b (x :: xs) e M = (match asg g x e with
      | none => none
      | some e1 => match runSs T rp XT cl b e1 M with
        | none => none
        | some (.next e2, M2) => forR T rp XT cl g b xs e2 M2
        | some (.cnt e2, M2) => forR T rp XT cl g b xs e2 M2
        | some (.brk e2, M2) => some (.next e2, M2)
        | some (.ret v, M2) => some (.ret v, M2)
        | some (.ex x e2, M2) => some (.ex x e2, M2)) := rfl
    rw [key, h1]
    simp only [h2]
    cases f with
    | next e2 => exact for_inv I step done xs e2 M' h3
    | cnt e2 => exact for_inv I step done xs e2 M' h3
    | brk e2 => exact ⟨_, _, rfl, h3⟩
    | ret v => exact ⟨_, _, rfl, h3⟩
    | ex x e2 => exact ⟨_, _, rfl, h3⟩
/-- a comprehension without state -/
theorem lc_go {f : D → EM (Option D)} {p : D → Option D} {M : Mem} : ∀ (xs : List D), (∀ x ∈ xs, f x M = some (.ok (p x), M)) → lcGo f xs M = some (.ok (xs.filterMap p), M)
  | [], _ => rfl
  | x :: xs, h => by
    show EM.bind (noEx (f x)) (fun o => EM.bind (lcGo f xs) fun ys => EM.pure (match o with | some y => y :: ys | none => ys)) M = _
    rw [bind_at]
    have : noEx (f x) M = some (.ok (p x), M) := by unfold noEx; rw [h x (List.mem_cons_self ..)]
    rw [this, bR_ok, bind_at, lc_go xs fun y hy => h y (List.mem_cons_of_mem _ hy), bR_ok, List.filterMap_cons]
    cases p x <;> rfl
end TD
set_option Elab.async false
set_option linter.all false
set_option maxRecDepth 100000
set_option maxHeartbeats 2000000
/-! TD, part S: data by rewriting (printed by genS.py). -/
namespace TD
open PySem L2
@[scoped simp] theorem ofString_inj {a b : String} : Str.ofString a = Str.ofString b ↔ a = b := by
  constructor
  · intro h
    rw [Str.ofString_eq_toList, Str.ofString_eq_toList] at h
    injection h with h
    have h2 : a.toList.map Char.toNat = b.toList.map Char.toNat := by simpa using congrArg Array.toList h
    have inj : ∀ (l m : List Char), l.map Char.toNat = m.map Char.toNat → l = m := by
      intro l
      induction l with
      | nil => intro m h; cases m with
        | nil => rfl
        | cons _ _ => cases h
      | cons c l ih => intro m h; cases m with
        | nil => cases h
        | cons d m =>
          rw [List.map_cons, List.map_cons] at h
          injection h with h1 h2
          rw [ih m h2, Char.toNat_inj.mp h1]
    exact String.toList_inj.mp (inj _ _ h2)
  · intro h
    rw [h]
section
variable {f : Nat → Nat → Bool} {T : Tab} {rp : D → Option Str} {M : Mem} {b c : Bool} {i j : Int} {x y : Str} {xs ys : List D} {kv kw : List (D × D)} {cn cm : Nat} {fs gs : List (Str × D)} {d d' : D} {n : Nat}
@[scoped simp] theorem isiD_int_non : isiD f .int .non = false := rfl
@[scoped simp] theorem isiD_int_bl : isiD f .int (.bl b) = true := rfl
@[scoped simp] theorem isiD_int_int : isiD f .int (.int i) = true := rfl
@[scoped simp] theorem isiD_int_str : isiD f .int (.str x) = false := rfl
@[scoped simp] theorem isiD_int_tup : isiD f .int (.tup xs) = false := rfl
@[scoped simp] theorem isiD_int_lst : isiD f .int (.lst xs) = false := rfl
@[scoped simp] theorem isiD_int_dic : isiD f .int (.dic kv) = false := rfl
@[scoped simp] theorem isiD_int_obj : isiD f .int (.obj cn fs) = false := rfl
@[scoped simp] theorem isiD_bool_non : isiD f .bool .non = false := rfl
@[scoped simp] theorem isiD_bool_bl : isiD f .bool (.bl b) = true := rfl
@[scoped simp] theorem isiD_bool_int : isiD f .bool (.int i) = false := rfl
@[scoped simp] theorem isiD_bool_str : isiD f .bool (.str x) = false := rfl
@[scoped simp] theorem isiD_bool_tup : isiD f .bool (.tup xs) = false := rfl
@[scoped simp] theorem isiD_bool_lst : isiD f .bool (.lst xs) = false := rfl
@[scoped simp] theorem isiD_bool_dic : isiD f .bool (.dic kv) = false := rfl
@[scoped simp] theorem isiD_bool_obj : isiD f .bool (.obj cn fs) = false := rfl
@[scoped simp] theorem isiD_str_non : isiD f .str .non = false := rfl
@[scoped simp] theorem isiD_str_bl : isiD f .str (.bl b) = false := rfl
@[scoped simp] theorem isiD_str_int : isiD f .str (.int i) = false := rfl
@[scoped simp] theorem isiD_str_str : isiD f .str (.str x) = true := rfl
@[scoped simp] theorem isiD_str_tup : isiD f .str (.tup xs) = false := rfl
@[scoped simp] theorem isiD_str_lst : isiD f .str (.lst xs) = false := rfl
@[scoped simp] theorem isiD_str_dic : isiD f .str (.dic kv) = false := rfl
@[scoped simp] theorem isiD_str_obj : isiD f .str (.obj cn fs) = false := rfl
@[scoped simp] theorem isiD_tuple_non : isiD f .tuple .non = false := rfl
@[scoped simp] theorem isiD_tuple_bl : isiD f .tuple (.bl b) = false := rfl
@[scoped simp] theorem isiD_tuple_int : isiD f .tuple (.int i) = false := rfl
@[scoped simp] theorem isiD_tuple_str : isiD f .tuple (.str x) = false := rfl
@[scoped simp] theorem isiD_tuple_tup : isiD f .tuple (.tup xs) = true := rfl
@[scoped simp] theorem isiD_tuple_lst : isiD f .tuple (.lst xs) = false := rfl
@[scoped simp] theorem isiD_tuple_dic : isiD f .tuple (.dic kv) = false := rfl
@[scoped simp] theorem isiD_tuple_obj : isiD f .tuple (.obj cn fs) = false := rfl
@[scoped simp] theorem isiD_list_non : isiD f .list .non = false := rfl
@[scoped simp] theorem isiD_list_bl : isiD f .list (.bl b) = false := rfl
@[scoped simp] theorem isiD_list_int : isiD f .list (.int i) = false := rfl
@[scoped simp] theorem isiD_list_str : isiD f .list (.str x) = false := rfl
@[scoped simp] theorem isiD_list_tup : isiD f .list (.tup xs) = false := rfl
@[scoped simp] theorem isiD_list_lst : isiD f .list (.lst xs) = true := rfl
@[scoped simp] theorem isiD_list_dic : isiD f .list (.dic kv) = false := rfl
@[scoped simp] theorem isiD_list_obj : isiD f .list (.obj cn fs) = false := rfl
@[scoped simp] theorem isiD_dict_non : isiD f .dict .non = false := rfl
@[scoped simp] theorem isiD_dict_bl : isiD f .dict (.bl b) = false := rfl
@[scoped simp] theorem isiD_dict_int : isiD f .dict (.int i) = false := rfl
@[scoped simp] theorem isiD_dict_str : isiD f .dict (.str x) = false := rfl
@[scoped simp] theorem isiD_dict_tup : isiD f .dict (.tup xs) = false := rfl
@[scoped simp] theorem isiD_dict_lst : isiD f .dict (.lst xs) = false := rfl
@[scoped simp] theorem isiD_dict_dic : isiD f .dict (.dic kv) = true := rfl
@[scoped simp] theorem isiD_dict_obj : isiD f .dict (.obj cn fs) = false := rfl
@[scoped simp] theorem isiD_cls_non : isiD f (.cls n) .non = false := rfl
@[scoped simp] theorem isiD_cls_bl : isiD f (.cls n) (.bl b) = false := rfl
@[scoped simp] theorem isiD_cls_int : isiD f (.cls n) (.int i) = false := rfl
@[scoped simp] theorem isiD_cls_str : isiD f (.cls n) (.str x) = false := rfl
@[scoped simp] theorem isiD_cls_tup : isiD f (.cls n) (.tup xs) = false := rfl
@[scoped simp] theorem isiD_cls_lst : isiD f (.cls n) (.lst xs) = false := rfl
@[scoped simp] theorem isiD_cls_dic : isiD f (.cls n) (.dic kv) = false := rfl
@[scoped simp] theorem isiD_cls_obj : isiD f (.cls n) (.obj cn fs) = f cn n := rfl
@[scoped simp] theorem isiO_non {t : Ty} : isiO T t .non = some (isiD T.isb t .non) := rfl
@[scoped simp] theorem isiO_bl {t : Ty} : isiO T t (.bl b) = some (isiD T.isb t (.bl b)) := rfl
@[scoped simp] theorem isiO_int {t : Ty} : isiO T t (.int i) = some (isiD T.isb t (.int i)) := rfl
@[scoped simp] theorem isiO_str {t : Ty} : isiO T t (.str x) = some (isiD T.isb t (.str x)) := rfl
@[scoped simp] theorem isiO_tup {t : Ty} : isiO T t (.tup xs) = some (isiD T.isb t (.tup xs)) := rfl
@[scoped simp] theorem isiO_lst {t : Ty} : isiO T t (.lst xs) = some (isiD T.isb t (.lst xs)) := rfl
@[scoped simp] theorem isiO_dic {t : Ty} : isiO T t (.dic kv) = some (isiD T.isb t (.dic kv)) := rfl
@[scoped simp] theorem isiO_obj {t : Ty} : isiO T t (.obj cn fs) = if T.isb cn cn then some (isiD T.isb t (.obj cn fs)) else none := rfl
@[scoped simp] theorem truD_non : truD .non = some false := rfl
@[scoped simp] theorem truD_bl : truD (.bl b) = some b := rfl
@[scoped simp] theorem truD_int : truD (.int i) = some (i != 0) := rfl
@[scoped simp] theorem truD_str : truD (.str x) = if szOk x.length then some ((x.length : Int) != 0) else none := rfl
@[scoped simp] theorem truD_tup : truD (.tup xs) = some (!xs.isEmpty) := rfl
@[scoped simp] theorem truD_lst : truD (.lst xs) = some (!xs.isEmpty) := rfl
@[scoped simp] theorem bltD_len {ds : List D} : bltD rp .len ds = lenD ds := rfl
@[scoped simp] theorem bltD_max2 {ds : List D} : bltD rp .max2 ds = maxD ds := rfl
@[scoped simp] theorem bltD_min2 {ds : List D} : bltD rp .min2 ds = minD ds := rfl
@[scoped simp] theorem bltD_int {ds : List D} : bltD rp .int ds = intD ds := rfl
@[scoped simp] theorem bltD_tuple {ds : List D} : bltD rp .tuple ds = tupleD ds := rfl
@[scoped simp] theorem bltD_list {ds : List D} : bltD rp .list ds = listD ds := rfl
@[scoped simp] theorem bltD_all {ds : List D} : bltD rp .all ds = allD ds := rfl
@[scoped simp] theorem bltD_sum {ds : List D} : bltD rp .sum ds = sumD ds := rfl
@[scoped simp] theorem bltD_repr {ds : List D} : bltD rp .repr ds = reprD rp ds := rfl
@[scoped simp] theorem szOk_def : szOk n = decide (n ≤ 16777216) := rfl
@[scoped simp] theorem reprD_1 : reprD rp [d] = (rp d).map .str := rfl
@[scoped simp] theorem lenD_str : lenD [.str x] = if szOk x.length then some (.int x.length) else none := rfl
@[scoped simp] theorem lenD_tup : lenD [.tup xs] = some (.int xs.length) := rfl
@[scoped simp] theorem lenD_lst : lenD [.lst xs] = some (.int xs.length) := rfl
@[scoped simp] theorem lenD_dic : lenD [.dic kv] = some (.int kv.length) := rfl
@[scoped simp] theorem maxD_2 : maxD [.int i, .int j] = some (.int (if j > i then j else i)) := rfl
@[scoped simp] theorem minD_2 : minD [.int i, .int j] = some (.int (if j < i then j else i)) := rfl
@[scoped simp] theorem intD_int : intD [.int i] = some (.int i) := rfl
@[scoped simp] theorem intD_bl : intD [.bl b] = some (.int (if b then 1 else 0)) := rfl
@[scoped simp] theorem tupleD_lst : tupleD [.lst xs] = some (.tup xs) := rfl
@[scoped simp] theorem tupleD_tup : tupleD [.tup xs] = some (.tup xs) := rfl
@[scoped simp] theorem listD_lst : listD [.lst xs] = some (.lst xs) := rfl
@[scoped simp] theorem listD_tup : listD [.tup xs] = some (.lst xs) := rfl
@[scoped simp] theorem allD_lst : allD [.lst xs] = (allBl xs).map .bl := rfl
@[scoped simp] theorem sumD_lst : sumD [.lst xs] = (sumI xs).map .int := rfl
@[scoped simp] theorem items_tup : items (.tup xs) = some xs := rfl
@[scoped simp] theorem items_lst : items (.lst xs) = some xs := rfl
@[scoped simp] theorem revD_lst : revD (.lst xs) = some (.lst xs.reverse) := rfl
@[scoped simp] theorem negD_int : negD (.int i) = some (.int (-i)) := rfl
@[scoped simp] theorem flat_non : flat n .non = true := by cases n <;> rfl
@[scoped simp] theorem flat_bl : flat n (.bl b) = true := by cases n <;> rfl
@[scoped simp] theorem flat_int : flat n (.int i) = true := by cases n <;> rfl
@[scoped simp] theorem flat_str : flat n (.str x) = true := by cases n <;> rfl
@[scoped simp] theorem flat_tup : flat (n + 1) (.tup xs) = flats n xs := rfl
@[scoped simp] theorem flat_lst : flat (n + 1) (.lst xs) = flats n xs := rfl
@[scoped simp] theorem flats_nil : flats n [] = true := by cases n <;> rfl
@[scoped simp] theorem flats_cons : flats n (d :: xs) = (flat n d && flats n xs) := by cases n <;> rfl
@[scoped simp] theorem allOk_nil : allOk [] = true := rfl
@[scoped simp] theorem allOk_cons : allOk (d :: xs) = (okEq d && allOk xs) := rfl
@[scoped simp] theorem anyEq_nil : anyEq d [] = false := rfl
@[scoped simp] theorem anyEq_cons : anyEq d (d' :: xs) = (eqD d' d || anyEq d xs) := rfl
@[scoped simp] theorem eqDs_nil : eqDs [] [] = true := rfl
@[scoped simp] theorem eqDs_cons : eqDs (d :: xs) (d' :: ys) = (eqD d d' && eqDs xs ys) := rfl
@[scoped simp] theorem eqDs_nc : eqDs [] (d' :: ys) = false := rfl
@[scoped simp] theorem eqDs_cn : eqDs (d :: xs) [] = false := rfl
@[scoped simp] theorem binD_add : binD .Add (.int i) (.int j) = some (.int (i + j)) := rfl
@[scoped simp] theorem binD_sub : binD .Sub (.int i) (.int j) = some (.int (i - j)) := rfl
@[scoped simp] theorem binD_addS : binD .Add (.str x) (.str y) = if szOk (x.length + y.length) then some (.str (x ++ y)) else none := rfl
@[scoped simp] theorem binD_addT : binD .Add (.tup xs) (.tup ys) = if szOk (xs.length + ys.length) then some (.tup (xs ++ ys)) else none := rfl
@[scoped simp] theorem binD_addL : binD .Add (.lst xs) (.lst ys) = if szOk (xs.length + ys.length) then some (.lst (xs ++ ys)) else none := rfl
@[scoped simp] theorem binD_mul : binD .Mult (.int i) (.int j) = if mulOk i j then some (.int (i * j)) else none := rfl
@[scoped simp] theorem binD_mulL : binD .Mult (.lst xs) (.int j) = if decide (-(2 ^ 62) ≤ j) && decide (j < 2 ^ 62) && szOk (xs.length * j.toNat) then some (.lst (List.replicate j.toNat xs).flatten) else none := rfl
@[scoped simp] theorem binD_mulS : binD .Mult (.str x) (.int j) = if decide (0 ≤ j) && decide (j < 1000) && decide (x.length ≤ 1000) then some (.str ⟨(List.replicate j.toNat x.cps.toList).flatten.toArray⟩) else none := rfl
@[scoped simp] theorem binD_div : binD .FloorDiv (.int i) (.int j) = if decide (0 < j) && decide (j < 2 ^ 1000) then some (.int (i / j)) else none := rfl
@[scoped simp] theorem binD_mod : binD .Mod (.int i) (.int j) = if decide (0 < j) then some (.int (i % j)) else none := rfl
@[scoped simp] theorem binD_pow : binD .Pow (.int i) (.int j) = if decide (0 ≤ j) && decide (j ≤ 64) && decide (-(2 ^ 64) < i) && decide (i < 2 ^ 64) then some (.int (i ^ j.toNat)) else none := rfl
@[scoped simp] theorem inD_tup : inD d (.tup ys) = if okEq d && allOk ys then some (anyEq d ys) else none := rfl
@[scoped simp] theorem inD_lst : inD d (.lst ys) = if okEq d && allOk ys then some (anyEq d ys) else none := rfl
@[scoped simp] theorem inD_chr {k : Nat} : inD (.str ⟨#[k]⟩) (.str y) = some (decide (k ∈ y.cps.toList)) := rfl
@[scoped simp] theorem cmpD_eq : cmpD .Eq d d' = if okEq d && okEq d' then some (eqD d d') else none := by cases d <;> cases d' <;> rfl
@[scoped simp] theorem cmpD_ne : cmpD .NotEq d d' = if okEq d && okEq d' then some (!eqD d d') else none := by cases d <;> cases d' <;> rfl
@[scoped simp] theorem cmpD_lt : cmpD .Lt (.int i) (.int j) = some (decide (i < j)) := rfl
@[scoped simp] theorem cmpD_le : cmpD .LtE (.int i) (.int j) = some (decide (i ≤ j)) := rfl
@[scoped simp] theorem cmpD_gt : cmpD .Gt (.int i) (.int j) = some (decide (j < i)) := rfl
@[scoped simp] theorem cmpD_ge : cmpD .GtE (.int i) (.int j) = some (decide (j ≤ i)) := rfl
@[scoped simp] theorem cmpD_in : cmpD .In d d' = inD d d' := by cases d <;> cases d' <;> rfl
@[scoped simp] theorem cmpD_nin : cmpD .NotIn d d' = (inD d d').map (! ·) := by cases d <;> cases d' <;> rfl
def isNonB : D → Bool
  | .non => true
  | _ => false
@[scoped simp] theorem cmpD_is : cmpD .Is d .non = some (isNonB d) := by cases d <;> rfl
@[scoped simp] theorem cmpD_isn : cmpD .IsNot d .non = some (!isNonB d) := by cases d <;> rfl
@[scoped simp] theorem isNonB_non : isNonB .non = true := rfl
@[scoped simp] theorem isNonB_bl : isNonB (.bl b) = false := rfl
@[scoped simp] theorem isNonB_int : isNonB (.int i) = false := rfl
@[scoped simp] theorem isNonB_str : isNonB (.str x) = false := rfl
@[scoped simp] theorem isNonB_tup : isNonB (.tup xs) = false := rfl
@[scoped simp] theorem isNonB_lst : isNonB (.lst xs) = false := rfl
@[scoped simp] theorem isNonB_obj : isNonB (.obj cn fs) = false := rfl
@[scoped simp] theorem ixD_tup : ixD (.tup xs) (.int i) = atI xs i := rfl
@[scoped simp] theorem ixD_lst : ixD (.lst xs) (.int i) = atI xs i := rfl
@[scoped simp] theorem ixD_str : ixD (.str x) (.int i) = if szOk x.length then (atI x.cps.toList i).map fun c => .str ⟨#[c]⟩ else none := rfl
theorem atI_nat {α : Type} {l : List α} {k : Nat} : atI l (k : Int) = l[k]? := by
  unfold atI ixN
  by_cases h : k < l.length
  · simp [h]
  · simp [h]
@[scoped simp] theorem atI_lit {α : Type} {l : List α} {k : Nat} : atI l (no_index (OfNat.ofNat k : Int)) = l[k]? := atI_nat (k := k)
@[scoped simp] theorem atI_0 {α : Type} {l : List α} : atI l 0 = l[0]? := atI_nat (k := 0)
@[scoped simp] theorem atI_1 {α : Type} {l : List α} : atI l 1 = l[1]? := atI_nat (k := 1)
@[scoped simp] theorem atI_2 {α : Type} {l : List α} : atI l 2 = l[2]? := atI_nat (k := 2)
@[scoped simp] theorem atI_3 {α : Type} {l : List α} : atI l 3 = l[3]? := atI_nat (k := 3)
@[scoped simp] theorem atI_m1 {α : Type} {l : List α} : atI l (-1) = l.getLast? := by
  unfold atI ixN
  cases l with
  | nil => rfl
  | cons a l =>
    have : (-1 + ((a :: l).length : Int)).toNat = l.length := by simp; omega
    rw [if_neg (by omega), if_pos (by simp; omega), Option.bind_some, this, List.getLast?_eq_getElem?]
    rfl
@[scoped simp] theorem sIx_none' {k : Nat} : HT.sIx n k none = k := rfl
@[scoped simp] theorem sIx_natS {k l : Nat} : HT.sIx n k (some ((l : Int) + 1)) = min (l + 1) n := HT.sIx_nat n k (l + 1)
@[scoped simp] theorem sIx_natC {k l : Nat} : HT.sIx n k (some (l : Int)) = min l n := HT.sIx_nat n k l
@[scoped simp] theorem sIx_lit {k l : Nat} : HT.sIx n k (some (no_index (OfNat.ofNat l : Int))) = min l n := HT.sIx_nat n k l
@[scoped simp] theorem sIx_0 {k : Nat} : HT.sIx n k (some 0) = 0 := by have := HT.sIx_nat n k 0; simpa using this
@[scoped simp] theorem sIx_1 {k : Nat} : HT.sIx n k (some 1) = min 1 n := HT.sIx_nat n k 1
@[scoped simp] theorem sIx_m1 {k : Nat} : HT.sIx n k (some (-1)) = n - 1 := by
  unfold HT.sIx
  simp
  omega
@[scoped simp] theorem drop_min {α : Type} {l : List α} {k : Nat} : l.drop (min k l.length) = l.drop k := by
  by_cases h : k ≤ l.length
  · rw [Nat.min_eq_left h]
  · rw [Nat.min_eq_right (by omega), List.drop_length, List.drop_eq_nil_of_le (by omega)]
@[scoped simp] theorem take_min {α : Type} {l : List α} {k : Nat} : l.take (min k l.length) = l.take k := by
  by_cases h : k ≤ l.length
  · rw [Nat.min_eq_left h]
  · rw [Nat.min_eq_right (by omega), List.take_length, List.take_of_length_le (by omega)]
@[scoped simp] theorem drop_all {α : Type} {l : List α} {k : Nat} : (l.drop k).take (l.length - min k l.length) = l.drop k := by
  rw [List.take_of_length_le]
  rw [List.length_drop]
  omega
theorem slD_T {lo hi : Option Int} : slD (.tup xs) lo hi = some (.tup ((xs.drop (HT.sIx xs.length 0 lo)).take (HT.sIx xs.length xs.length hi - HT.sIx xs.length 0 lo))) := rfl
@[scoped simp] theorem slD_T_fromS {k : Nat} : slD (.tup xs) (some ((k : Int) + 1)) none = some (.tup (xs.drop (k + 1))) := by simp only [slD_T, sIx_natS, sIx_none', drop_min, drop_all]
@[scoped simp] theorem slD_T_from {k : Nat} : slD (.tup xs) (some (k : Int)) none = some (.tup (xs.drop k)) := by simp only [slD_T, sIx_natC, sIx_none', drop_min, drop_all]
@[scoped simp] theorem slD_T_fromL {k : Nat} : slD (.tup xs) (some (no_index (OfNat.ofNat k : Int))) none = some (.tup (xs.drop k)) := slD_T_from
@[scoped simp] theorem slD_T_to {k : Nat} : slD (.tup xs) none (some (k : Int)) = some (.tup (xs.take k)) := by simp only [slD_T, sIx_natC, sIx_none', List.drop_zero, Nat.sub_zero, take_min]
@[scoped simp] theorem slD_T_toL {k : Nat} : slD (.tup xs) none (some (no_index (OfNat.ofNat k : Int))) = some (.tup (xs.take k)) := slD_T_to
@[scoped simp] theorem slD_T_m1 : slD (.tup xs) none (some (-1)) = some (.tup xs.dropLast) := by simp only [slD_T, sIx_m1, sIx_none', List.drop_zero, Nat.sub_zero, List.dropLast_eq_take]
theorem slD_L {lo hi : Option Int} : slD (.lst xs) lo hi = some (.lst ((xs.drop (HT.sIx xs.length 0 lo)).take (HT.sIx xs.length xs.length hi - HT.sIx xs.length 0 lo))) := rfl
@[scoped simp] theorem slD_L_fromS {k : Nat} : slD (.lst xs) (some ((k : Int) + 1)) none = some (.lst (xs.drop (k + 1))) := by simp only [slD_L, sIx_natS, sIx_none', drop_min, drop_all]
@[scoped simp] theorem slD_L_from {k : Nat} : slD (.lst xs) (some (k : Int)) none = some (.lst (xs.drop k)) := by simp only [slD_L, sIx_natC, sIx_none', drop_min, drop_all]
@[scoped simp] theorem slD_L_fromL {k : Nat} : slD (.lst xs) (some (no_index (OfNat.ofNat k : Int))) none = some (.lst (xs.drop k)) := slD_L_from
@[scoped simp] theorem slD_L_to {k : Nat} : slD (.lst xs) none (some (k : Int)) = some (.lst (xs.take k)) := by simp only [slD_L, sIx_natC, sIx_none', List.drop_zero, Nat.sub_zero, take_min]
@[scoped simp] theorem slD_L_toL {k : Nat} : slD (.lst xs) none (some (no_index (OfNat.ofNat k : Int))) = some (.lst (xs.take k)) := slD_L_to
@[scoped simp] theorem slD_L_m1 : slD (.lst xs) none (some (-1)) = some (.lst xs.dropLast) := by simp only [slD_L, sIx_m1, sIx_none', List.drop_zero, Nat.sub_zero, List.dropLast_eq_take]
@[scoped simp] theorem charsEq {k : Nat} : Str.length ⟨#[k]⟩ = 1 := rfl
@[scoped simp] theorem eqD_non_non : eqD .non .non = true := rfl
@[scoped simp] theorem eqD_non_bl : eqD .non (.bl c) = false := rfl
@[scoped simp] theorem eqD_non_int : eqD .non (.int j) = false := rfl
@[scoped simp] theorem eqD_non_str : eqD .non (.str y) = false := rfl
@[scoped simp] theorem eqD_non_tup : eqD .non (.tup ys) = false := rfl
@[scoped simp] theorem eqD_non_lst : eqD .non (.lst ys) = false := rfl
@[scoped simp] theorem eqD_non_dic : eqD .non (.dic kw) = false := rfl
@[scoped simp] theorem eqD_non_obj : eqD .non (.obj cm gs) = false := rfl
@[scoped simp] theorem eqD_bl_non : eqD (.bl b) .non = false := rfl
@[scoped simp] theorem eqD_bl_bl : eqD (.bl b) (.bl c) = (b == c) := rfl
@[scoped simp] theorem eqD_bl_int : eqD (.bl b) (.int j) = ((if b then 1 else 0) == j) := rfl
@[scoped simp] theorem eqD_bl_str : eqD (.bl b) (.str y) = false := rfl
@[scoped simp] theorem eqD_bl_tup : eqD (.bl b) (.tup ys) = false := rfl
@[scoped simp] theorem eqD_bl_lst : eqD (.bl b) (.lst ys) = false := rfl
@[scoped simp] theorem eqD_bl_dic : eqD (.bl b) (.dic kw) = false := rfl
@[scoped simp] theorem eqD_bl_obj : eqD (.bl b) (.obj cm gs) = false := rfl
@[scoped simp] theorem eqD_int_non : eqD (.int i) .non = false := rfl
@[scoped simp] theorem eqD_int_bl : eqD (.int i) (.bl c) = (i == (if c then 1 else 0)) := rfl
@[scoped simp] theorem eqD_int_int : eqD (.int i) (.int j) = (i == j) := rfl
@[scoped simp] theorem eqD_int_str : eqD (.int i) (.str y) = false := rfl
@[scoped simp] theorem eqD_int_tup : eqD (.int i) (.tup ys) = false := rfl
@[scoped simp] theorem eqD_int_lst : eqD (.int i) (.lst ys) = false := rfl
@[scoped simp] theorem eqD_int_dic : eqD (.int i) (.dic kw) = false := rfl
@[scoped simp] theorem eqD_int_obj : eqD (.int i) (.obj cm gs) = false := rfl
@[scoped simp] theorem eqD_str_non : eqD (.str x) .non = false := rfl
@[scoped simp] theorem eqD_str_bl : eqD (.str x) (.bl c) = false := rfl
@[scoped simp] theorem eqD_str_int : eqD (.str x) (.int j) = false := rfl
@[scoped simp] theorem eqD_str_str : eqD (.str x) (.str y) = decide (x = y) := rfl
@[scoped simp] theorem eqD_str_tup : eqD (.str x) (.tup ys) = false := rfl
@[scoped simp] theorem eqD_str_lst : eqD (.str x) (.lst ys) = false := rfl
@[scoped simp] theorem eqD_str_dic : eqD (.str x) (.dic kw) = false := rfl
@[scoped simp] theorem eqD_str_obj : eqD (.str x) (.obj cm gs) = false := rfl
@[scoped simp] theorem eqD_tup_non : eqD (.tup xs) .non = false := rfl
@[scoped simp] theorem eqD_tup_bl : eqD (.tup xs) (.bl c) = false := rfl
@[scoped simp] theorem eqD_tup_int : eqD (.tup xs) (.int j) = false := rfl
@[scoped simp] theorem eqD_tup_str : eqD (.tup xs) (.str y) = false := rfl
@[scoped simp] theorem eqD_tup_tup : eqD (.tup xs) (.tup ys) = eqDs xs ys := rfl
@[scoped simp] theorem eqD_tup_lst : eqD (.tup xs) (.lst ys) = false := rfl
@[scoped simp] theorem eqD_tup_dic : eqD (.tup xs) (.dic kw) = false := rfl
@[scoped simp] theorem eqD_tup_obj : eqD (.tup xs) (.obj cm gs) = false := rfl
@[scoped simp] theorem eqD_lst_non : eqD (.lst xs) .non = false := rfl
@[scoped simp] theorem eqD_lst_bl : eqD (.lst xs) (.bl c) = false := rfl
@[scoped simp] theorem eqD_lst_int : eqD (.lst xs) (.int j) = false := rfl
@[scoped simp] theorem eqD_lst_str : eqD (.lst xs) (.str y) = false := rfl
@[scoped simp] theorem eqD_lst_tup : eqD (.lst xs) (.tup ys) = false := rfl
@[scoped simp] theorem eqD_lst_lst : eqD (.lst xs) (.lst ys) = eqDs xs ys := rfl
@[scoped simp] theorem eqD_lst_dic : eqD (.lst xs) (.dic kw) = false := rfl
@[scoped simp] theorem eqD_lst_obj : eqD (.lst xs) (.obj cm gs) = false := rfl
@[scoped simp] theorem eqD_dic_non : eqD (.dic kv) .non = false := rfl
@[scoped simp] theorem eqD_dic_bl : eqD (.dic kv) (.bl c) = false := rfl
@[scoped simp] theorem eqD_dic_int : eqD (.dic kv) (.int j) = false := rfl
@[scoped simp] theorem eqD_dic_str : eqD (.dic kv) (.str y) = false := rfl
@[scoped simp] theorem eqD_dic_tup : eqD (.dic kv) (.tup ys) = false := rfl
@[scoped simp] theorem eqD_dic_lst : eqD (.dic kv) (.lst ys) = false := rfl
@[scoped simp] theorem eqD_dic_dic : eqD (.dic kv) (.dic kw) = false := rfl
@[scoped simp] theorem eqD_dic_obj : eqD (.dic kv) (.obj cm gs) = false := rfl
@[scoped simp] theorem eqD_obj_non : eqD (.obj cn fs) .non = false := rfl
@[scoped simp] theorem eqD_obj_bl : eqD (.obj cn fs) (.bl c) = false := rfl
@[scoped simp] theorem eqD_obj_int : eqD (.obj cn fs) (.int j) = false := rfl
@[scoped simp] theorem eqD_obj_str : eqD (.obj cn fs) (.str y) = false := rfl
@[scoped simp] theorem eqD_obj_tup : eqD (.obj cn fs) (.tup ys) = false := rfl
@[scoped simp] theorem eqD_obj_lst : eqD (.obj cn fs) (.lst ys) = false := rfl
@[scoped simp] theorem eqD_obj_dic : eqD (.obj cn fs) (.dic kw) = false := rfl
@[scoped simp] theorem eqD_obj_obj : eqD (.obj cn fs) (.obj cm gs) = false := rfl
end
end TD
set_option Elab.async false
set_option linter.all false
set_option maxRecDepth 100000
set_option maxHeartbeats 2000000
/-! what the common defs compute: frames, draws -/
namespace LW
open PySem L2 TD
theorem okCut_mono {b b' : Nat} (h : b ≤ b') : ∀ {M : Mem}, okCut b M = true → okCut b' M = true
  | [], _ => rfl
  | .ins c fs :: r, q => by
    unfold okCut at q ⊢
    rw [Bool.and_eq_true] at q ⊢
    refine ⟨?_, okCut_mono h q.2⟩
    rw [List.all_eq_true] at q ⊢
    intro f hf
    have := q.1 f hf
    cases e : f.2 with
    | d x => rfl
    | loc n =>
      rw [e] at this
      simp [noLoc] at this ⊢
      omega
  | .lst _ :: r, q => okCut_mono h (M := r) q
  | .dic _ :: r, q => okCut_mono h (M := r) q
  | .frz _ :: r, q => okCut_mono h (M := r) q
  | .scr _ :: r, q => okCut_mono h (M := r) q
theorem okCut_app {b : Nat} : ∀ {M N : Mem}, okCut b M = true → okCut b N = true → okCut b (M ++ N) = true
  | [], _, _, q => q
  | .ins c fs :: r, N, q, q2 => by
    show okCut b (.ins c fs :: (r ++ N)) = true
    unfold okCut at q ⊢
    rw [Bool.and_eq_true] at q ⊢
    exact ⟨q.1, okCut_app q.2 q2⟩
  | .lst _ :: r, N, q, q2 => okCut_app (M := r) q q2
  | .dic _ :: r, N, q, q2 => okCut_app (M := r) q q2
  | .frz _ :: r, N, q, q2 => okCut_app (M := r) q q2
  | .scr _ :: r, N, q, q2 => okCut_app (M := r) q q2
def MOk (M : Mem) : Prop := okCut M.length M = true
theorem MOk.app {M N : Mem} (h : MOk M) (h2 : okCut (M ++ N).length N = true) : MOk (M ++ N) :=
  okCut_app (okCut_mono (by simp) h) h2
theorem MOk.lst {M : Mem} {xs : List D} (h : MOk M) : MOk (M ++ [.lst xs]) := h.app rfl
theorem MOk.ins {M : Mem} {c : Nat} (h : MOk M) : MOk (M ++ [.ins c []]) := h.app rfl
theorem okCut_set {b : Nat} {mo : MO} (hm : okCut b [mo] = true) : ∀ {M : Mem} {p : Nat}, okCut b M = true → okCut b (M.set p mo) = true
  | [], _, h => h
  | x :: M, 0, h => by
    have h2 : okCut b M = true := by
      cases x with
      | ins c fs => unfold okCut at h; rw [Bool.and_eq_true] at h; exact h.2
      | _ => exact h
    exact okCut_app (M := [mo]) hm h2
  | x :: M, p + 1, h => by
    show okCut b (x :: M.set p mo) = true
    cases x with
    | ins c fs =>
      unfold okCut at h ⊢
      rw [Bool.and_eq_true] at h ⊢
      exact ⟨h.1, okCut_set hm h.2⟩
    | _ => exact okCut_set hm (M := M) h
theorem MOk.set {M : Mem} {p : Nat} {xs : List D} (h : MOk M) : MOk (M.set p (.lst xs)) := by
  unfold MOk at *
  rw [List.length_set]
  exact okCut_set rfl h
theorem call_fn {P : Prg} {n f : Nat} {F : Fn} {vs : List Vl} {M : Mem} (hF : P.fn f = some F) (hs : F.star = false) (hl : vs.length = F.np) :
    callN P (n + 1) (.fn f) vs M = endF M.length F.mode (runSs P.T P.rp P.XT (callN P n) F.body ⟨vs.map some ++ List.replicate F.ns none, none⟩ M) := by
  show (match P.fn f with
    | none => none
    | some F => match bindF F vs M with
      | some (.ok ws, M0) => endF M.length F.mode (runSs P.T P.rp P.XT (callN P n) F.body ⟨ws.map some ++ List.replicate F.ns none, none⟩ M0)
      | _ => none) = _
  rw [hF]
  simp only [bindF, hs, hl, if_true, Bool.false_eq_true, if_false]
  rfl
theorem call_star {P : Prg} {n f : Nat} {F : Fn} {vs : List Vl} {xs : List D} {M : Mem} (hF : P.fn f = some F) (hs : F.star = true) (hl : vs.length = F.np) (hx : xs.length ≤ 16777216) :
    callN P (n + 1) (.fn f) (vs ++ xs.map Vl.d) M = endF M.length F.mode (runSs P.T P.rp P.XT (callN P n) F.body ⟨(vs ++ [Vl.d (.tup xs)]).map some ++ List.replicate F.ns none, none⟩ M) := by
  show (match P.fn f with
    | none => none
    | some F => match bindF F (vs ++ xs.map Vl.d) M with
      | some (.ok ws, M0) => endF M.length F.mode (runSs P.T P.rp P.XT (callN P n) F.body ⟨ws.map some ++ List.replicate F.ns none, none⟩ M0)
      | _ => none) = _
  rw [hF]
  have : bindF F (vs ++ xs.map Vl.d) M = some (.ok (vs ++ [Vl.d (.tup xs)]), M) := by
    unfold bindF
    rw [if_pos hs, if_pos (by simp; omega), ← hl, List.drop_left, List.take_left]
    show EM.bind (toDs (xs.map Vl.d)) _ M = _
    rw [bind_at, toDs_map, bR_ok, if_pos (by simp [szOk, hx])]
    rfl
  simp only [this]
def mkEnd (b : Nat) (fz : Bool) (r : Option (Res Vl × Mem)) : Option (Res Vl × Mem) :=
  match r with
  | some (.ok (.d .non), M1) => if fz then match freeze b M1 with
      | some (.ok d, M2) => if okCut b (M2.take b) then some (.ok (.d d), M2.take b) else none
      | _ => none
    else some (.ok (.loc b), M1)
  | some (.ex x, M1) => if okCut b (M1.take b) then some (.ex x, M1.take b) else none
  | _ => none
theorem call_mk {P : Prg} {n c : Nat} {C : Cd} {vs : List Vl} {M : Mem} (hC : P.cd c = some C) : callN P (n + 1) (.mk c) vs M = mkEnd M.length C.frz (callN P n (.fn C.init) (.loc M.length :: vs) (M ++ [.ins c []])) := by
  conv => lhs; unfold callN
  simp only [hC]
  generalize callN P n (.fn C.init) (.loc M.length :: vs) (M ++ [.ins c []]) = r
  rcases r with _ | ⟨r, M1⟩
  · rfl
  · rcases r with v | x
    · rcases v with d | l
      · cases d with
        | non =>
          unfold mkEnd
          cases C.frz
          · rfl
          · first
            | rfl
            | (simp only [if_true]
               generalize freeze M.length M1 = q
               rcases q with _ | ⟨q, M2⟩
               · rfl
               · cases q <;> rfl)
        | _ => rfl
      · rfl
    · rfl
theorem end_d {M E : Mem} {d : D} (h : MOk M) : endF M.length 0 (some (.ret (.d d), M ++ E)) = some (.ok (.d d), M) := by
  simp [endF, fin, MOk] at *
  simp [h]
theorem end_d0 {M : Mem} {d : D} (h : MOk M) : endF M.length 0 (some (.ret (.d d), M)) = some (.ok (.d d), M) := by
  have := end_d (E := []) (d := d) h
  simpa using this
theorem end_n0 {M : Mem} {e : TD.Env} (h : MOk M) : endF M.length 0 (some (.next e, M)) = some (.ok (.d .non), M) := by
  simp [endF, fin, MOk] at *
  simp [h]
theorem end_x {M E : Mem} {x : Xc} {e : TD.Env} {m : Nat} (h : MOk M) : endF M.length m (some (.ex x e, M ++ E)) = some (.ex x, M) := by
  simp [endF, MOk] at *
  simp [h]
theorem end_x0 {M : Mem} {x : Xc} {e : TD.Env} {m : Nat} (h : MOk M) : endF M.length m (some (.ex x e, M)) = some (.ex x, M) := by
  simp [endF, MOk] at *
  simp [h]
/-- the frame's memory has the same length, what lay there may have changed -/
theorem end_dM {b : Nat} {M : Mem} {d : D} (h : MOk M) (hb : M.length = b) : endF b 0 (some (.ret (.d d), M)) = some (.ok (.d d), M) := by
  subst hb
  exact end_d0 h
theorem end_loc {M E : Mem} {xs : List D} (h : MOk M) : endF M.length 0 (some (.ret (.loc M.length), M ++ .lst xs :: E)) = some (.ok (.d (.lst xs)), M) := by
  simp [endF, fin, MOk] at *
  simp [h, freeze]
theorem lc_map {α : Type} {f : D → EM (Option D)} {g : α → D} {h : α → D} {M : Mem} : ∀ (l : List α), (∀ c ∈ l, f (g c) M = some (.ok (some (h c)), M)) → lcGo f (l.map g) M = some (.ok (l.map h), M)
  | [], _ => rfl
  | x :: xs, q => by
    show EM.bind (noEx (f (g x))) (fun o => EM.bind (lcGo f (xs.map g)) fun ys => EM.pure (match o with | some y => y :: ys | none => ys)) M = _
    have : noEx (f (g x)) M = some (.ok (some (h x)), M) := by unfold noEx; rw [q x (List.mem_cons_self ..)]
    rw [bind_at, this, bR_ok, bind_at, lc_map xs fun y hy => q y (List.mem_cons_of_mem _ hy), bR_ok]
    rfl
theorem lc_filt {α : Type} {f : D → EM (Option D)} {g : α → D} {h : α → D} {q : α → Bool} {M : Mem} : ∀ (l : List α), (∀ c ∈ l, f (g c) M = some (.ok (if q c then some (h c) else none), M)) → lcGo f (l.map g) M = some (.ok ((l.filter q).map h), M)
  | [], _ => rfl
  | x :: xs, w => by
    show EM.bind (noEx (f (g x))) (fun o => EM.bind (lcGo f (xs.map g)) fun ys => EM.pure (match o with | some y => y :: ys | none => ys)) M = _
    have : noEx (f (g x)) M = some (.ok (if q x then some (h x) else none), M) := by unfold noEx; rw [w x (List.mem_cons_self ..)]
    rw [bind_at, this, bR_ok, bind_at, lc_filt xs fun y hy => w y (List.mem_cons_of_mem _ hy), bR_ok, List.filter_cons]
    cases q x <;> rfl
def consO (o : Option D) (ys : List D) : List D := match o with | some y => y :: ys | none => ys
/-- a comprehension with state -/
theorem lc_st {f : D → EM (Option D)} (I : Mem → Prop) (R : D → Prop) (st : ∀ x M, I M → ∃ o M', f x M = some (.ok o, M') ∧ I M' ∧ ∀ y, o = some y → R y) :
    ∀ (xs : List D) (M : Mem), I M → ∃ ys M', lcGo f xs M = some (.ok ys, M') ∧ I M' ∧ ys.length ≤ xs.length ∧ ∀ y ∈ ys, R y
  | [], M, h => ⟨[], M, rfl, h, Nat.le_refl _, fun y hy => by simp at hy⟩
  | x :: xs, M, h => by
    obtain ⟨o, M1, h1, h2, h3⟩ := st x M h
    obtain ⟨ys, M2, h4, h5, h6, h7⟩ := lc_st I R st xs M1 h2
    have : noEx (f x) M = some (.ok o, M1) := by unfold noEx; rw [h1]
    refine ⟨consO o ys, M2, ?_, h5, ?_, ?_⟩
    · show EM.bind (noEx (f x)) (fun o => EM.bind (lcGo f xs) fun ys => EM.pure (match o with | some y => y :: ys | none => ys)) M = _
      rw [bind_at, this, bR_ok, bind_at, h4, bR_ok]
      rfl
    · cases o with
      | none => simp [consO]; omega
      | some y => simp [consO]; omega
    · cases o with
      | none => exact h7
      | some y =>
        intro z hz
        rcases List.mem_cons.mp hz with e | e
        · rw [e]; exact h3 y rfl
        · exact h7 z e
theorem allBl_map {α : Type} {p : α → Bool} : ∀ (l : List α), allBl (l.map fun c => D.bl (p c)) = some (l.all p)
  | [] => rfl
  | c :: l => by
    show (allBl (l.map fun c => D.bl (p c))).map (p c && ·) = _
    rw [allBl_map l]
    rfl
mutual
/-- small data -/
def sm : Nat → D → Bool
  | _, .non => true
  | _, .bl _ => true
  | _, .int _ => true
  | _, .str x => decide (x.length ≤ 1000)
  | n + 1, .tup xs => decide (xs.length ≤ 1000) && sms n xs
  | n + 1, .lst xs => decide (xs.length ≤ 1000) && sms n xs
  | _, _ => false
def sms : Nat → List D → Bool
  | _, [] => true
  | n, x :: xs => sm n x && sms n xs
end
mutual
theorem sm_flat : ∀ {n m : Nat} {x : D}, n ≤ m → sm n x = true → flat m x = true
  | _, _, .non, _, _ => by simp
  | _, _, .bl _, _, _ => by simp
  | _, _, .int _, _, _ => by simp
  | _, _, .str _, _, _ => by simp
  | 0, _, .tup _, _, h => by simp [sm] at h
  | 0, _, .lst _, _, h => by simp [sm] at h
  | n + 1, m + 1, .tup xs, l, h => by
    simp [sm] at h
    simp
    exact sms_flats (by omega) h.2
  | n + 1, m + 1, .lst xs, l, h => by
    simp [sm] at h
    simp
    exact sms_flats (by omega) h.2
  | n, _, .dic _, _, h => by cases n <;> simp [sm] at h
  | n, _, .obj _ _, _, h => by cases n <;> simp [sm] at h
theorem sms_flats : ∀ {n m : Nat} {x : List D}, n ≤ m → sms n x = true → flats m x = true
  | _, _, [], _, _ => by simp
  | n, m, x :: xs, l, h => by
    simp [sms] at h
    simp
    exact ⟨sm_flat l h.1, sms_flats l h.2⟩
end
theorem sms_mem {n : Nat} : ∀ {xs : List D}, sms n xs = true ↔ ∀ x ∈ xs, sm n x = true
  | [] => by simp [sms]
  | x :: xs => by simp [sms, sms_mem (xs := xs)]
theorem allOk_of : ∀ {xs : List D}, (∀ x ∈ xs, flat 20 x = true) → allOk xs = true
  | [], _ => rfl
  | x :: xs, h => by
    simp
    exact ⟨h x (List.mem_cons_self ..), allOk_of fun y hy => h y (List.mem_cons_of_mem _ hy)⟩
theorem flats_mem {n : Nat} : ∀ {xs : List D}, flats n xs = true ↔ ∀ x ∈ xs, flat n x = true
  | [] => by simp
  | x :: xs => by simp [flats_mem (xs := xs)]
end LW
namespace LW
open PySem L2 TD
def aR {β : Type} (o : Option TD.Env) (k : TD.Env → Option β) : Option β :=
  match o with
  | none => none
  | some e => k e
def nR (r : Option (Flw × Mem)) (k : TD.Env → Mem → Option (Flw × Mem)) : Option (Flw × Mem) :=
  match r with
  | none => none
  | some (.next e, M) => k e M
  | some (.cnt e, M) => k e M
  | some (.brk e, M) => some (.next e, M)
  | some (.ret v, M) => some (.ret v, M)
  | some (.ex x e, M) => some (.ex x e, M)
section
variable {β : Type} {k : TD.Env → Option β} {kt : TD.Env → Mem → Option (Flw × Mem)} {e : TD.Env} {M : Mem} {v : Vl} {x : Xc}
@[scoped simp] theorem aR_some : aR (some e) k = k e := rfl
@[scoped simp] theorem nR_next : nR (some (.next e, M)) kt = kt e M := rfl
@[scoped simp] theorem nR_cnt : nR (some (.cnt e, M)) kt = kt e M := rfl
@[scoped simp] theorem nR_brk : nR (some (.brk e, M)) kt = some (.next e, M) := rfl
@[scoped simp] theorem nR_ret : nR (some (.ret v, M)) kt = some (.ret v, M) := rfl
@[scoped simp] theorem nR_ex : nR (some (.ex x e, M)) kt = some (.ex x e, M) := rfl
@[scoped simp] theorem nR_none : nR none kt = none := rfl
@[scoped simp] theorem nR_ite {c : Prop} [Decidable c] {r r' : Option (Flw × Mem)} : nR (if c then r else r') kt = if c then nR r kt else nR r' kt := by split <;> rfl
@[scoped simp] theorem forR_nil {T : Tab} {rp : D → Option Str} {XT : XTab} {cl : Cl} {g : CG} {b : CSs} : forR T rp XT cl g b [] e M = some (.next e, M) := rfl
@[scoped simp] theorem forR_cons {T : Tab} {rp : D → Option Str} {XT : XTab} {cl : Cl} {g : CG} {b : CSs} {y : D} {ys : List D} : forR T rp XT cl g b (y :: ys) e M = aR (asg g y e) fun e1 => nR (runSs T rp XT cl b e1 M) fun e2 M2 => forR T rp XT cl g b ys e2 M2 := rfl
end
/-! ### numbers drawn -/
theorem rngGo_eq : ∀ (n : Nat) (k : Nat), rngGo n (k : Int) = (List.range' k n).map fun i => D.int (i : Nat)
  | 0, _ => rfl
  | n + 1, k => by
    show D.int k :: rngGo n ((k : Int) + 1) = _
    have := rngGo_eq n (k + 1)
    rw [List.range'_succ, List.map_cons, ← this]
    rfl
/-- drawn numbers for sizes -/
def Drawn (vs ss : List Int) : Prop := vs.length = ss.length ∧ ∀ (i : Nat) (v s : Int), vs[i]? = some v → ss[i]? = some s → 0 ≤ v ∧ v < s
theorem mulOk_r {i j : Int} (h1 : -(2 ^ 64) < j) (h2 : j < 2 ^ 64) : mulOk i j = true := by
  simp only [mulOk, Bool.or_eq_true, Bool.and_eq_true, decide_eq_true_eq]
  exact .inr ⟨h1, h2⟩
theorem mulOk_l {i j : Int} (h1 : -(2 ^ 64) < i) (h2 : i < 2 ^ 64) : mulOk i j = true := by
  simp only [mulOk, Bool.or_eq_true, Bool.and_eq_true, decide_eq_true_eq]
  exact .inl ⟨h1, h2⟩
@[scoped simp] theorem lstE_last {M : Mem} {xs : List D} : lstE (.loc M.length) (M ++ [.lst xs]) = some (.ok (), M ++ [.lst xs]) := by
  simp [lstE, peek]
@[scoped simp] theorem mutV_app {M : Mem} {xs : List D} {v : D} : mutV .append (.loc M.length) [.d v] (M ++ [.lst xs]) = if xs.length < 16777216 then some (.ok (), M ++ [.lst (xs ++ [v])]) else none := by
  simp [mutV]
@[scoped simp] theorem mutV_ext {M : Mem} {xs ys : List D} : mutV .extend (.loc M.length) [.d (.lst ys)] (M ++ [.lst xs]) = if xs.length + ys.length ≤ 16777216 then some (.ok (), M ++ [.lst (xs ++ ys)]) else none := by
  simp [mutV]
theorem Drawn.snoc {vs ss : List Int} {k : Nat} {v s : Int} (h : Drawn vs (ss.take k)) (hk : ss[k]? = some s) (h0 : 0 ≤ v) (h1 : v < s) : Drawn (vs ++ [v]) (ss.take (k + 1)) := by
  have hk1 : k < ss.length := (List.getElem?_eq_some_iff.mp hk).1
  have hl : vs.length = k := by
    have := h.1
    rw [List.length_take] at this
    omega
  refine ⟨by simp [hl]; omega, fun i v' s' e1 e2 => ?_⟩
  by_cases hi : i < k
  · rw [List.getElem?_append_left (by omega)] at e1
    rw [List.getElem?_take_of_lt (by omega)] at e2
    exact h.2 i v' s' e1 (by rw [List.getElem?_take_of_lt hi]; exact e2)
  · have hik : i = k := by
      have := (List.getElem?_eq_some_iff.mp e1).1
      simp at this
      omega
    subst hik
    rw [List.getElem?_append_right (by omega)] at e1
    simp [hl] at e1
    rw [List.getElem?_take_of_lt (by omega), hk] at e2
    cases e2
    subst e1
    exact ⟨h0, h1⟩
theorem numbers_ok {n : Nat} {M : Mem} (hM : MOk M) (cell salt : Int) (ss : List Int) (hs0 : 0 ≤ salt) (hs1 : salt ≤ 1000000) (hl : ss.length ≤ 1000) (hp : ∀ s ∈ ss, 0 < s ∧ s < 2 ^ 1000) :
    ∃ vs : List Int, callN prg (n + 1) (.fn 25) [.d (.int cell), .d (.int salt), .d (.lst (ss.map .int))] M = some (.ok (.d (.lst (vs.map .int))), M) ∧ Drawn vs ss := by
  rw [call_fn (F := ⟨3, 5, c__law_numbers, 0, false⟩) rfl rfl rfl]
  unfold c__law_numbers
  have q1 : (ss.length : Int) ≤ 16777216 := by omega
  simp [szOk_of, q1]
  generalize hw : (if cell < -1 - cell then -1 - cell else cell) = whole
  obtain ⟨f, M', hr, hq⟩ := for_inv (T := prg.T) (rp := prg.rp) (XT := prg.XT) (cl := callN prg n) (g := .name 6) (b := l__law_numbers_1)
    (Q := fun f M' => ∃ vs : List Int, ∃ e, f = .next ⟨e, none⟩ ∧ e[5]? = some (some (.loc M.length)) ∧ M' = M ++ [.lst (vs.map .int)] ∧ Drawn vs ss)
    (fun xs e M' => ∃ (k : Nat) (vs : List Int) (left : Int) (a b : Option Vl), k ≤ ss.length ∧ xs = (List.range' k (ss.length - k)).map (fun i => D.int (i : Nat)) ∧
      e = ⟨[some (.d (.int cell)), some (.d (.int salt)), some (.d (.lst (ss.map .int))), some (.d (.int whole)), some (.d (.int left)), some (.loc M.length), a, b], none⟩ ∧ M' = M ++ [.lst (vs.map .int)] ∧ Drawn vs (ss.take k))
    (by
      rintro x xs e M' ⟨k, vs, left, a, b, hk, hxs, rfl, rfl, hd⟩
      obtain ⟨m, hm⟩ : ∃ m, ss.length - k = m + 1 := by
        cases q : ss.length - k with
        | zero => rw [q] at hxs; simp at hxs
        | succ m => exact ⟨m, rfl⟩
      rw [hm, List.range'_succ, List.map_cons] at hxs
      injection hxs with h1 h2
      subst h1
      obtain ⟨s, hs⟩ : ∃ s, ss[k]? = some s := ⟨_, List.getElem?_eq_getElem (by omega)⟩
      obtain ⟨hp1, hp2⟩ := hp s (List.mem_of_getElem? hs)
      have hvl : vs.length = k := by
        have := hd.1
        rw [List.length_take] at this
        omega
      have hat : atI (ss.map D.int) (k : Int) = some (D.int s) := by rw [TD.atI_nat, List.getElem?_map, hs]; rfl
      have hp2' : decide (s < 2 ^ 1000) = true := by simpa using hp2
      refine ⟨_, rfl, ?_⟩
      unfold l__law_numbers_1
      have hvl2 : vs.length < 16777216 := by omega
      by_cases c1 : (1000000000000000000 : Int) ≤ whole ∧ 0 < left
      · refine ⟨_, _, by simp [c1.1, c1.2, hat, hp1, hp2, hvl2]; exact ⟨rfl, rfl⟩, ?_⟩
        refine ⟨k + 1, vs ++ [left % s], left / s, some (.d (.int k)), b, by omega, ?_, rfl, by simp, hd.snoc hs (Int.emod_nonneg _ (by omega)) (Int.emod_lt_of_pos _ hp1)⟩
        rw [h2]
        congr 2
        omega
      · have c2 : ¬ (1000000000000000000 : Int) ≤ whole ∨ ¬ 0 < left := by
          by_cases z : (1000000000000000000 : Int) ≤ whole
          · exact .inr fun y => c1 ⟨z, y⟩
          · exact .inl z
        have m1 : mulOk 7919 salt = true := mulOk_l (by decide) (by decide)
        have m2 : mulOk 104729 ((k : Int) + 1) = true := mulOk_l (by decide) (by decide)
        have m3 : ∀ x, mulOk x ((k : Int) + 3) = true := fun x => mulOk_r (by omega) (by omega)
        have m4 : ∀ x, mulOk x 48271 = true := fun x => mulOk_r (by decide) (by decide)
        have a0 := Int.emod_nonneg whole (show (2147483629 : Int) ≠ 0 by decide)
        have a1 := Int.emod_lt_of_pos whole (show (0 : Int) < 2147483629 by decide)
        have b1 : -18446744073709551616 < whole % 2147483629 + 7919 * salt + 1 := by omega
        have b2 : whole % 2147483629 + 7919 * salt + 1 < 18446744073709551616 := by omega
        have b3 : ∀ x : Int, -18446744073709551616 < x % 2147483629 := fun x => by
          have := Int.emod_nonneg x (show (2147483629 : Int) ≠ 0 by decide)
          omega
        have b4 : ∀ x : Int, x % 2147483629 < 18446744073709551616 := fun x => by
          have := Int.emod_lt_of_pos x (show (0 : Int) < 2147483629 by decide)
          omega
        have b5 : decide ((16 : Int) < 2 ^ 1000) = true := by decide +kernel
        have key : ∃ v : Int, 0 ≤ v ∧ v < s ∧ ∃ z, runSs prg.T prg.rp prg.XT (callN prg n) l__law_numbers_1 ⟨[some (.d (.int cell)), some (.d (.int salt)), some (.d (.lst (ss.map .int))), some (.d (.int whole)), some (.d (.int left)), some (.loc M.length), some (.d (.int k)), b], none⟩ (M ++ [.lst (vs.map .int)]) = some (.next ⟨[some (.d (.int cell)), some (.d (.int salt)), some (.d (.lst (ss.map .int))), some (.d (.int whole)), some (.d (.int left)), some (.loc M.length), some (.d (.int k)), z], none⟩, M ++ [.lst (vs.map .int ++ [.int v])]) := by
          unfold l__law_numbers_1
          refine ⟨(((((whole % 2147483629 + 7919 * salt + 1) ^ 3 % 2147483647 + 104729 * ((k : Int) + 1)) * ((k : Int) + 3) % 2147483629) ^ 5 % 2147483647 * 48271 % 2147483629) / 16) % s, Int.emod_nonneg _ (by omega), Int.emod_lt_of_pos _ hp1, some (.d (.int ((((whole % 2147483629 + 7919 * salt + 1) ^ 3 % 2147483647 + 104729 * ((k : Int) + 1)) * ((k : Int) + 3) % 2147483629) ^ 5 % 2147483647 * 48271 % 2147483629))), ?_⟩
          have b5' : (16 : Int) < 2 ^ 1000 := of_decide_eq_true b5
          rcases c2 with c2 | c2
          · simp [c2, hat, hp1, hp2, hvl2, m1, m2, m3, m4, b1, b2, b3, b4, b5']
          · simp [c2, hat, hp1, hp2, hvl2, m1, m2, m3, m4, b1, b2, b3, b4, b5']
        obtain ⟨v, v0, v1, z, hrun⟩ := key
        refine ⟨_, _, hrun, ?_⟩
        refine ⟨k + 1, vs ++ [v], left, some (.d (.int k)), z, by omega, ?_, rfl, by simp, hd.snoc hs v0 v1⟩
        rw [h2]
        congr 2
        omega)
    (by
      rintro e M' ⟨k, vs, left, a, b, hk, hxs, rfl, rfl, hd⟩
      have : ss.length - k = 0 := by
        cases q : ss.length - k with
        | zero => rfl
        | succ m => rw [q, List.range'_succ] at hxs; simp at hxs
      have : k = ss.length := by omega
      subst this
      rw [List.take_length] at hd
      exact ⟨vs, _, rfl, rfl, rfl, hd⟩)
    (rngGo ss.length 0) _ _ ⟨0, [], whole, none, none, by omega, by rw [show (0 : Int) = ((0 : Nat) : Int) from rfl, rngGo_eq]; simp, rfl, rfl, by simp [Drawn]⟩
  simp only [List.map_nil] at hr
  rw [hr]
  obtain ⟨vs, e, rfl, he, rfl, hd⟩ := hq
  refine ⟨vs, ?_, hd⟩
  simp [he, end_loc hM]
end LW
namespace LW
open PySem L2 TD
/-- no own object in the making -/
def noIns (M : Mem) : Prop := ∀ mo ∈ M, ∀ c fs, mo ≠ .ins c fs
theorem noIns.cut {b : Nat} : ∀ {M : Mem}, noIns M → okCut b M = true
  | [], _ => rfl
  | .ins c fs :: r, h => (h _ (List.mem_cons_self ..) c fs rfl).elim
  | .lst _ :: r, h => noIns.cut (M := r) fun mo hm => h mo (List.mem_cons_of_mem _ hm)
  | .dic _ :: r, h => noIns.cut (M := r) fun mo hm => h mo (List.mem_cons_of_mem _ hm)
  | .frz _ :: r, h => noIns.cut (M := r) fun mo hm => h mo (List.mem_cons_of_mem _ hm)
  | .scr _ :: r, h => noIns.cut (M := r) fun mo hm => h mo (List.mem_cons_of_mem _ hm)
theorem noIns.ok {M : Mem} (h : noIns M) : MOk M := h.cut
theorem noIns.set {M : Mem} {p : Nat} {xs : List D} (h : noIns M) : noIns (M.set p (.lst xs)) := by
  intro mo hm c fs e
  rcases List.mem_or_eq_of_mem_set hm with h1 | h1
  · exact h mo h1 c fs e
  · rw [h1] at e; cases e
theorem noIns.lst {M : Mem} {xs : List D} (h : noIns M) : noIns (M ++ [.lst xs]) := by
  intro mo hm c fs e
  rcases List.mem_append.mp hm with h1 | h1
  · exact h mo h1 c fs e
  · rw [List.mem_singleton.mp h1] at e; cases e
theorem noIns.take {M : Mem} {b : Nat} (h : noIns M) : noIns (M.take b) := fun mo hm => h mo (List.mem_of_mem_take hm)
/-- a frame's end, whatever was made in it -/
theorem noIns.ret {M : Mem} {b : Nat} {d : D} (h : noIns M) : endF b 0 (some (.ret (.d d), M)) = some (.ok (.d d), M.take b) := by
  simp [endF, fin, h.take.cut]
def hdS : CSs → CS
  | .cons s _ => s
  | .nil => .pass
def tlS : CSs → CSs
  | .cons _ r => r
  | .nil => .nil
theorem runSs_hd {T : Tab} {rp : D → Option Str} {XT : XTab} {cl : Cl} {c : CSs} {e : TD.Env} {M : Mem} : runSs T rp XT cl c e M = tR (runS T rp XT cl (hdS c) e M) fun e M => runSs T rp XT cl (tlS c) e M := by
  cases c <;> rfl
theorem rngGo_len : ∀ (n : Nat) (i : Int), (rngGo n i).length = n
  | 0, _ => rfl
  | n + 1, i => by show (rngGo n (i + 1)).length + 1 = _; rw [rngGo_len]
end LW
set_option Elab.async false
set_option linter.all false
set_option maxRecDepth 100000
set_option maxHeartbeats 4000000
/-! k01: exceptions made by place and by name, their fields, their classes -/
namespace LW
open PySem L2 TD
theorem eqDs_nil_iff {l : List D} : eqDs l [] = decide (l = []) := by cases l <;> rfl
@[scoped simp] theorem flats_ints {n : Nat} : ∀ {l : List Int}, flats n (l.map .int) = true
  | [] => by simp
  | y :: l => by simp [flats_ints (l := l)]
def cellsOf (m : Nat) (ns : List Int) : List Int := ns.take m ++ if ns = [] then [7] else []
theorem cells_run {cl : Cl} {ns : List Int} {e : TD.Env} {k : Nat} (h : e.s[0]? = some (some (.loc 0))) (hk : k ≤ 100) (hn : ns.length ≤ 1000) :
    runI prg.T prg.rp cl (.enm (.bin .Add (.sl (.var 0) .none (.some (.con (.int k)))) (.bin .Mult (.lst (.cons (.con (.int 7)) .nil)) (.blt .int (.cons (.cmp .Eq (.var 0) (.lst .nil)) .nil))))) e [.scr (ns.map .int)] = some (.ok (zipEnum 0 ((cellsOf k ns).map .int)), [.scr (ns.map .int)]) := by
  obtain ⟨s, xx⟩ := e
  have h1 : peekW (.loc 0) [.scr (ns.map .int)] = some (.ok (.lst (ns.map .int)), [.scr (ns.map .int)]) := rfl
  have h2 : opC .Eq (.loc 0) (.d (.lst [])) [.scr (ns.map .int)] = some (.ok (.d (.bl (decide (ns = [])))), [.scr (ns.map .int)]) := by
    unfold opC
    rw [bind_at, h1]
    simp [eqDs_nil_iff, bind_at]
  have h3 : s[0]? = some (some (.loc 0)) := h
  have e1 : min k ns.length ≤ 16777216 := by omega
  have e2 : min k ns.length + 1 ≤ 16777216 := by omega
  cases ns with
  | nil =>
    simp at h1 h2
    simp [h3, h1, h2, cellsOf]
  | cons a ns =>
    simp at h1 h2 e1 e2
    simp [h3, h1, h2, cellsOf, e1, e2, List.map_take]
theorem noIns_scr {xs : List D} : noIns [.scr xs] := by
  intro mo hm c fs e
  rw [List.mem_singleton.mp hm] at e
  cases e
def ES (o t : D) : List D := [.exc 5 [("place", o)], .exc 6 [("name", o), ("place", t)], .exc 7 [("part", o), ("name", t)], .exc 1 [("index", o)], .exc 9 [("value", o)], .exc 10 [("move", o)], .exc 8 [("value", o)], .exc 12 [("edit", o)], .exc 13 [("line", o)], .exc 14 [("word", o)], .exc 2 [("value", o)], .exc 11 [("limit", o)], .exc 3 [("name", o)], .exc 15 [("word", o), ("paper", t)], .exc 16 [("name", o)]]
def dueL (o t : D) : List D := [.lst [o], .lst [o, t], .lst [o, t], .lst [o], .lst [o], .lst [o], .lst [o], .lst [o], .lst [o], .lst [o], .lst [o], .lst [o], .lst [o], .lst [o, t], .lst [o]]
section
variable {n : Nat} {M : Mem} {o t : D}
theorem made_ok (hM : MOk M) : callN prg (n + 1) (.fn 32) [.d o, .d t] M = some (.ok (.d (.lst (ES o t))), M) := by
  rw [call_fn (F := ⟨2, 1, c__law_made, 0, false⟩) rfl rfl rfl]
  unfold c__law_made
  simp [end_d0 hM, ES]
theorem named_ok (hM : MOk M) : callN prg (n + 1) (.fn 33) [.d o, .d t] M = some (.ok (.d (.lst (ES o t))), M) := by
  rw [call_fn (F := ⟨2, 1, c__law_named, 0, false⟩) rfl rfl rfl]
  unfold c__law_named
  simp [end_d0 hM, ES]
@[scoped simp] theorem xfl_5_place : prg.T.xfl 5 (Str.ofString "place") = true := by decide +kernel
@[scoped simp] theorem xfl_6_name : prg.T.xfl 6 (Str.ofString "name") = true := by decide +kernel
@[scoped simp] theorem xfl_6_place : prg.T.xfl 6 (Str.ofString "place") = true := by decide +kernel
@[scoped simp] theorem xfl_7_part : prg.T.xfl 7 (Str.ofString "part") = true := by decide +kernel
@[scoped simp] theorem xfl_7_name : prg.T.xfl 7 (Str.ofString "name") = true := by decide +kernel
@[scoped simp] theorem xfl_1_index : prg.T.xfl 1 (Str.ofString "index") = true := by decide +kernel
@[scoped simp] theorem xfl_9_value : prg.T.xfl 9 (Str.ofString "value") = true := by decide +kernel
@[scoped simp] theorem xfl_10_move : prg.T.xfl 10 (Str.ofString "move") = true := by decide +kernel
@[scoped simp] theorem xfl_8_value : prg.T.xfl 8 (Str.ofString "value") = true := by decide +kernel
@[scoped simp] theorem xfl_12_edit : prg.T.xfl 12 (Str.ofString "edit") = true := by decide +kernel
@[scoped simp] theorem xfl_13_line : prg.T.xfl 13 (Str.ofString "line") = true := by decide +kernel
@[scoped simp] theorem xfl_14_word : prg.T.xfl 14 (Str.ofString "word") = true := by decide +kernel
@[scoped simp] theorem xfl_2_value : prg.T.xfl 2 (Str.ofString "value") = true := by decide +kernel
@[scoped simp] theorem xfl_11_limit : prg.T.xfl 11 (Str.ofString "limit") = true := by decide +kernel
@[scoped simp] theorem xfl_3_name : prg.T.xfl 3 (Str.ofString "name") = true := by decide +kernel
@[scoped simp] theorem xfl_15_word : prg.T.xfl 15 (Str.ofString "word") = true := by decide +kernel
@[scoped simp] theorem xfl_15_paper : prg.T.xfl 15 (Str.ofString "paper") = true := by decide +kernel
@[scoped simp] theorem xfl_16_name : prg.T.xfl 16 (Str.ofString "name") = true := by decide +kernel
theorem lk2 {a b : String} {o t : D} (h : a ≠ b) : List.lookup (Str.ofString b) [(Str.ofString a, o), (Str.ofString b, t)] = some t := by
  have h1 : (Str.ofString b == Str.ofString a) = false := by
    rw [beq_eq_false_iff_ne]
    intro e
    exact h (ofString_inj.mp e).symm
  rw [List.lookup_cons, h1]
  simp
theorem lkA {o t : D} : List.lookup (Str.ofString "place") [(Str.ofString "name", o), (Str.ofString "place", t)] = some t := lk2 (by decide)
theorem lkB {o t : D} : List.lookup (Str.ofString "name") [(Str.ofString "part", o), (Str.ofString "name", t)] = some t := lk2 (by decide)
theorem lkC {o t : D} : List.lookup (Str.ofString "paper") [(Str.ofString "word", o), (Str.ofString "paper", t)] = some t := lk2 (by decide)
theorem fields_ok (hM : MOk M) : callN prg (n + 1) (.fn 34) [.d (.lst (ES o t))] M = some (.ok (.d (.lst (dueL o t))), M) := by
  rw [call_fn (F := ⟨1, 1, c__law_fields, 0, false⟩) rfl rfl rfl]
  unfold c__law_fields
  simp [ES, end_d0 hM, dueL, lkA, lkB, lkC]
theorem kinds_ok {c : Nat} {fs : List (Str × D)} {b0 b1 b2 b3 b4 b5 b6 b7 b8 b9 b10 b11 b12 b13 b14 : Bool} (hM : MOk M) (h0 : tab_InvalidItem.lookup c = some b0) (h1 : tab_NotACrowd.lookup c = some b1) (h2 : tab_InvalidDevice.lookup c = some b2) (h3 : tab_InvalidStep.lookup c = some b3) (h4 : tab_InvalidState.lookup c = some b4) (h5 : tab_InvalidMove.lookup c = some b5) (h6 : tab_InvalidStock.lookup c = some b6) (h7 : tab_InvalidEdit.lookup c = some b7) (h8 : tab_InvalidText.lookup c = some b8) (h9 : tab_InvalidCommand.lookup c = some b9) (h10 : tab_InvalidNumber.lookup c = some b10) (h11 : tab_LimitExceeded.lookup c = some b11) (h12 : tab_UnknownName.lookup c = some b12) (h13 : tab_NotRight.lookup c = some b13) (h14 : tab_NothingToUndo.lookup c = some b14) : callN prg (n + 1) (.fn 35) [.d (.exc c fs)] M = some (.ok (.d (.lst [.bl b0, .bl b1, .bl b2, .bl b3, .bl b4, .bl b5, .bl b6, .bl b7, .bl b8, .bl b9, .bl b10, .bl b11, .bl b12, .bl b13, .bl b14])), M) := by
  rw [call_fn (F := ⟨1, 1, c__law_kinds, 0, false⟩) rfl rfl rfl]
  unfold c__law_kinds
  simp [h0, h1, h2, h3, h4, h5, h6, h7, h8, h9, h10, h11, h12, h13, h14, end_d0 hM]
theorem bases_ok {c : Nat} {fs : List (Str × D)} {b0 b1 b2 b3 b4 b5 : Bool} (hM : MOk M) (h0 : tab_DownError.lookup c = some b0) (h1 : tab_ValueError.lookup c = some b1) (h2 : tab_OverflowError.lookup c = some b2) (h3 : tab_LookupError.lookup c = some b3) (h4 : tab_RuntimeError.lookup c = some b4) (h5 : tab_KeyError.lookup c = some b5) : callN prg (n + 1) (.fn 36) [.d (.exc c fs)] M = some (.ok (.d (.lst [.bl b0, .bl b1, .bl b2, .bl b3, .bl b4, .bl b5])), M) := by
  rw [call_fn (F := ⟨1, 1, c__law_bases, 0, false⟩) rfl rfl rfl]
  unfold c__law_bases
  simp [h0, h1, h2, h3, h4, h5, end_d0 hM]
def kL (i : Nat) : List D := (List.range' 0 15).map fun (j : Nat) => D.bl ((j : Int) == (i : Int))
def bL (i : Nat) : List D := [.bl (decide ((i : Int) < 10)), .bl ((i : Int) == 10), .bl ((i : Int) == 11), .bl ((i : Int) == 12), .bl (anyEq (.int i) [.int 13, .int 14]), .bl false]
theorem both_ok (hM : MOk M) {i : Nat} {e : D} (h : (ES o t)[i]? = some e) : ∃ c fs, e = .exc c fs ∧ callN prg (n + 1) (.fn 35) [.d e] M = some (.ok (.d (.lst (kL i))), M) ∧ callN prg (n + 1) (.fn 36) [.d e] M = some (.ok (.d (.lst (bL i))), M) := by
  have hi : i < 15 := (List.getElem?_eq_some_iff.mp h).1
  obtain rfl | rfl | rfl | rfl | rfl | rfl | rfl | rfl | rfl | rfl | rfl | rfl | rfl | rfl | rfl : i = 0 ∨ i = 1 ∨ i = 2 ∨ i = 3 ∨ i = 4 ∨ i = 5 ∨ i = 6 ∨ i = 7 ∨ i = 8 ∨ i = 9 ∨ i = 10 ∨ i = 11 ∨ i = 12 ∨ i = 13 ∨ i = 14 := by omega
  · cases h
    exact ⟨_, _, rfl, kinds_ok hM rfl rfl rfl rfl rfl rfl rfl rfl rfl rfl rfl rfl rfl rfl rfl, bases_ok hM rfl rfl rfl rfl rfl rfl⟩
  · cases h
    exact ⟨_, _, rfl, kinds_ok hM rfl rfl rfl rfl rfl rfl rfl rfl rfl rfl rfl rfl rfl rfl rfl, bases_ok hM rfl rfl rfl rfl rfl rfl⟩
  · cases h
    exact ⟨_, _, rfl, kinds_ok hM rfl rfl rfl rfl rfl rfl rfl rfl rfl rfl rfl rfl rfl rfl rfl, bases_ok hM rfl rfl rfl rfl rfl rfl⟩
  · cases h
    exact ⟨_, _, rfl, kinds_ok hM rfl rfl rfl rfl rfl rfl rfl rfl rfl rfl rfl rfl rfl rfl rfl, bases_ok hM rfl rfl rfl rfl rfl rfl⟩
  · cases h
    exact ⟨_, _, rfl, kinds_ok hM rfl rfl rfl rfl rfl rfl rfl rfl rfl rfl rfl rfl rfl rfl rfl, bases_ok hM rfl rfl rfl rfl rfl rfl⟩
  · cases h
    exact ⟨_, _, rfl, kinds_ok hM rfl rfl rfl rfl rfl rfl rfl rfl rfl rfl rfl rfl rfl rfl rfl, bases_ok hM rfl rfl rfl rfl rfl rfl⟩
  · cases h
    exact ⟨_, _, rfl, kinds_ok hM rfl rfl rfl rfl rfl rfl rfl rfl rfl rfl rfl rfl rfl rfl rfl, bases_ok hM rfl rfl rfl rfl rfl rfl⟩
  · cases h
    exact ⟨_, _, rfl, kinds_ok hM rfl rfl rfl rfl rfl rfl rfl rfl rfl rfl rfl rfl rfl rfl rfl, bases_ok hM rfl rfl rfl rfl rfl rfl⟩
  · cases h
    exact ⟨_, _, rfl, kinds_ok hM rfl rfl rfl rfl rfl rfl rfl rfl rfl rfl rfl rfl rfl rfl rfl, bases_ok hM rfl rfl rfl rfl rfl rfl⟩
  · cases h
    exact ⟨_, _, rfl, kinds_ok hM rfl rfl rfl rfl rfl rfl rfl rfl rfl rfl rfl rfl rfl rfl rfl, bases_ok hM rfl rfl rfl rfl rfl rfl⟩
  · cases h
    exact ⟨_, _, rfl, kinds_ok hM rfl rfl rfl rfl rfl rfl rfl rfl rfl rfl rfl rfl rfl rfl rfl, bases_ok hM rfl rfl rfl rfl rfl rfl⟩
  · cases h
    exact ⟨_, _, rfl, kinds_ok hM rfl rfl rfl rfl rfl rfl rfl rfl rfl rfl rfl rfl rfl rfl rfl, bases_ok hM rfl rfl rfl rfl rfl rfl⟩
  · cases h
    exact ⟨_, _, rfl, kinds_ok hM rfl rfl rfl rfl rfl rfl rfl rfl rfl rfl rfl rfl rfl rfl rfl, bases_ok hM rfl rfl rfl rfl rfl rfl⟩
  · cases h
    exact ⟨_, _, rfl, kinds_ok hM rfl rfl rfl rfl rfl rfl rfl rfl rfl rfl rfl rfl rfl rfl rfl, bases_ok hM rfl rfl rfl rfl rfl rfl⟩
  · cases h
    exact ⟨_, _, rfl, kinds_ok hM rfl rfl rfl rfl rfl rfl rfl rfl rfl rfl rfl rfl rfl rfl rfl, bases_ok hM rfl rfl rfl rfl rfl rfl⟩
end
/-! repr -/
structure OkR (x : D) : Prop where
  fl : flatE 18 x = true
  sh : (py x).showable = true
  lv : (py x).leavesShort 32 = true
  wt : (py x).weight ≤ 300
theorem int_len {i : Int} (h1 : -(10 ^ 30) ≤ i) (h2 : i ≤ 10 ^ 30) : (PyData.shown (.int i)).length ≤ 32 := by
  have e31 : (10 : Int) ^ 31 = 10 * 10 ^ 30 := by decide +kernel
  show (Str.ofString (toString i)).length ≤ 32
  by_cases h : 0 ≤ i
  · exact Nat.le_trans (PyProof.Rows.toString_length_le h (k := 31) (by decide) (by omega)) (by decide)
  · rw [PyProof.Rows.toString_neg (by omega)]
    have := PyProof.Rows.toString_length_le (v := 0 - i) (by omega) (k := 31) (by decide) (by omega)
    have e : (Str.ofString ("-" ++ toString (0 - i))).length = 1 + (Str.ofString (toString (0 - i))).length := by
      rw [PyProof.Rows.ofString_length, PyProof.Rows.ofString_length, String.toList_append, List.length_append]
      rfl
    omega
theorem okr_int {i : Int} (h1 : -(10 ^ 30) ≤ i) (h2 : i ≤ 10 ^ 30) : OkR (.int i) := by
  refine ⟨rfl, ?_, ?_, ?_⟩
  rotate_right
  · show PyData.weight (.int i) ≤ 300
    by_cases hz : i = 0
    · subst hz
      simp [PyData.weight]
    · have h0 : i.natAbs ≠ 0 := by omega
      have e : (10 : Nat) ^ 30 < 2 ^ 200 := by decide +kernel
      have e2 : ((10 : Nat) ^ 30 : Nat) = ((10 : Int) ^ 30).natAbs := by decide +kernel
      have := (Nat.log2_lt (k := 200) h0).mpr (by omega)
      simp [PyData.weight, hz]
      omega
  · show PyData.showable (.int i) = true
    simp only [PyData.showable, decide_eq_true_eq]
    by_cases h0 : i.natAbs = 0
    · rw [h0]; decide
    · rw [Nat.log2_lt h0]
      have e : (10 : Nat) ^ 30 < 2 ^ 1920 := by decide +kernel
      have e2 : ((10 : Nat) ^ 30 : Nat) = ((10 : Int) ^ 30).natAbs := by decide +kernel
      omega
  · show PyData.leavesShort 32 (.int i) = true
    simp only [PyData.leavesShort, decide_eq_true_eq]
    exact int_len h1 h2
theorem rp_due {o t : D} (ho : OkR o) (ht : OkR t) : ∃ r, prg.rp (.lst (dueL o t)) = some r := by
  have h1 : flatE 20 (.lst (dueL o t)) = true := by simp [flatE, flatsE, dueL, ho.fl, ht.fl]
  have h2 : (py (.lst (dueL o t))).showable = true := by simp [dueL, py, pys, PyData.showable, PyData.showableAll, ho.sh, ht.sh]
  have h3 : (py (.lst (dueL o t))).leavesShort 32 = true := by simp [dueL, py, pys, PyData.leavesShort, PyData.leavesShortAll, ho.lv, ht.lv]
  have h4 := PyData.shown_le 32 (by decide) _ h3
  have h5 : (py (.lst (dueL o t))).weight ≤ 20000 := by
    have := ho.wt
    have := ht.wt
    simp [dueL, py, pys, PyData.weight, PyData.weightAll]
    omega
  refine ⟨(py (.lst (dueL o t))).shown, ?_⟩
  show (if flatE 20 (.lst (dueL o t)) && (py (.lst (dueL o t))).showable && szOk (py (.lst (dueL o t))).shown.length then some (py (.lst (dueL o t))).shown else none) = _
  rw [if_pos]
  rw [h1, h2, TD.szOk_of (by omega)]
  rfl
end LW
set_option Elab.async false
set_option linter.all false
set_option maxRecDepth 100000
set_option maxHeartbeats 4000000
/-! k01: the law -/
namespace LW
open PySem L2 TD
mutual
theorem eqD_self : ∀ {n : Nat} {x : D}, flat n x = true → eqD x x = true
  | _, .non, _ => rfl
  | _, .bl b, _ => by simp [eqD]
  | _, .int _, _ => by simp [eqD]
  | _, .str _, _ => by simp [eqD]
  | 0, .tup xs, h => by unfold flat at h; cases h
  | 0, .lst xs, h => by unfold flat at h; cases h
  | n + 1, .tup xs, h => by
    unfold flat at h
    exact eqDs_selfF h
  | n + 1, .lst xs, h => by
    unfold flat at h
    exact eqDs_selfF h
  | _, .dic _, h => by unfold flat at h; cases h
  | _, .obj _ _, h => by unfold flat at h; cases h
  | _, .exc _ _, h => by unfold flat at h; cases h
theorem eqDs_selfF : ∀ {n : Nat} {x : List D}, flats n x = true → eqDs x x = true
  | _, [], _ => rfl
  | n, x :: xs, h => by
    unfold flats at h
    obtain ⟨a1, a2⟩ := Bool.and_eq_true_iff.mp h
    show (eqD x x && eqDs xs xs) = true
    rw [eqD_self a1, eqDs_selfF a2]
    rfl
end
theorem neq_self {M : Mem} {cl : Cl} {a b : CE} {e : TD.Env} {A : List D} (ha : runE prg.T prg.rp cl a e M = some (.ok (.d (.lst A)), M)) (hb : runE prg.T prg.rp cl b e M = some (.ok (.d (.lst A)), M)) (hf : flats 19 A = true) : runT prg.T prg.rp cl (.tst (.cmp .NotEq a b)) e M = some (.ok false, M) := by
    rw [runT_tst, runE_cmp, ha, bR_ok, hb, bR_ok, opC_d]
    simp [hf, eqDs_selfF hf]
theorem ife_no {M : Mem} {cl : Cl} {t : CT} {a : CSs} {e : TD.Env} (h : runT prg.T prg.rp cl t e M = some (.ok false, M)) : runS prg.T prg.rp prg.XT cl (.ife t a .nil) e M = some (.next e, M) := by
  rw [runS_ife, h]
  rfl
theorem forR_next {T : Tab} {rp : D → Option Str} {XT : XTab} {cl : Cl} {g : CG} {c : CSs} {x : D} {xs : List D} {e e1 e2 : TD.Env} {M M2 : Mem} (h1 : asg g x e = some e1) (h2 : runSs T rp XT cl c e1 M = some (.next e2, M2)) : forR T rp XT cl g c (x :: xs) e M = forR T rp XT cl g c xs e2 M2 := by
  unfold forR
  simp only [forGo, h1, h2]
section
variable {n i : Nat} {M : Mem} {k cell way great other : Int} {o t e : D} {a3 a4 a5 a6 a7 a8 a9 a10 a11 a12 : Option Vl}
def xE (k cell way great other : Int) (o t : D) (a9 a10 a11 a12 : Option Vl) : TD.Env := ⟨[some (.loc 0), some (.d (.int k)), some (.d (.int cell)), some (.d (.int way)), some (.d (.int great)), some (.d (.int other)), some (.d o), some (.d t), some (.d (.lst (dueL o t))), a9, a10, a11, a12], none⟩
theorem lcR : runE prg.T prg.rp (callN prg n) (.lc (.name 12) (.rng (.con (.int 15))) .nil (.cmp .Eq (.var 12) (.var 10)) [12]) (xE k cell way great other o t a9 (some (.d (.int i))) a11 a12) M = some (.ok (.d (.lst (kL i))), M) := by
  have hI : runI prg.T prg.rp (callN prg n) (.rng (.con (.int 15))) (xE k cell way great other o t a9 (some (.d (.int i))) a11 a12) M = some (.ok ((List.range' 0 15).map fun (j : Nat) => D.int (j : Int)), M) := by
    simp [rngGo]
    rfl
  have key : lcGo (lcF prg.T prg.rp (callN prg n) (.name 12) .nil (.cmp .Eq (.var 12) (.var 10)) [12] (xE k cell way great other o t a9 (some (.d (.int i))) a11 a12)) ((List.range' 0 15).map fun (j : Nat) => D.int (j : Int)) M = some (.ok ((List.range' 0 15).map fun (j : Nat) => D.bl ((j : Int) == (i : Int))), M) := by
    refine lc_map _ fun j hj => ?_
    rw [lcF_at (e' := xE k cell way great other o t a9 (some (.d (.int i))) a11 (some (.d (.int (j : Int))))) rfl]
    unfold xE
    simp
  rw [runE_lc, hI, bR_ok, key, bR_ok, mkLst_at, if_pos (TD.szOk_of (by rw [List.length_map, List.length_range']; decide))]
  rfl
theorem turn1 (hM : MOk M) (h : (ES o t)[i]? = some e) : runSs prg.T prg.rp prg.XT (callN prg (n + 1)) l_law_1 (xE k cell way great other o t a9 (some (.d (.int i))) (some (.d e)) a12) M = some (.next (xE k cell way great other o t a9 (some (.d (.int i))) (some (.d e)) a12), M) := by
  obtain ⟨c, fs, rfl, hk, hb⟩ := both_ok (n := n) hM h
  have t1 : runE prg.T prg.rp (callN prg (n + 1)) (.call (.fn 35) (.cons (.var 11) .nil)) (xE k cell way great other o t a9 (some (.d (.int i))) (some (.d (.exc c fs))) a12) M = some (.ok (.d (.lst (kL i))), M) := by
    unfold xE
    simp [hk]
  have t2 : runE prg.T prg.rp (callN prg (n + 1)) (.call (.fn 36) (.cons (.var 11) .nil)) (xE k cell way great other o t a9 (some (.d (.int i))) (some (.d (.exc c fs))) a12) M = some (.ok (.d (.lst (bL i))), M) := by
    unfold xE
    simp [hb]
  have t3 : runE prg.T prg.rp (callN prg (n + 1)) (.lst (.cons (.cmp .Lt (.var 10) (.con (.int 10))) (.cons (.cmp .Eq (.var 10) (.con (.int 10))) (.cons (.cmp .Eq (.var 10) (.con (.int 11))) (.cons (.cmp .Eq (.var 10) (.con (.int 12))) (.cons (.cmp .In (.var 10) (.lst (.cons (.con (.int 13)) (.cons (.con (.int 14)) .nil)))) (.cons (.con (.bl false)) .nil))))))) (xE k cell way great other o t a9 (some (.d (.int i))) (some (.d (.exc c fs))) a12) M = some (.ok (.d (.lst (bL i))), M) := by
    unfold xE bL
    simp
  have f1 : flats 19 (kL i) = true := rfl
  have f2 : flats 19 (bL i) = true := rfl
  rw [runSs_hd]
  simp only [l_law_1, hdS, tlS]
  rw [ife_no (neq_self t1 lcR f1), tR_next, runSs_cons, ife_no (neq_self t2 t3 f2), tR_next]
  rfl
theorem turn2 (hM : MOk M) (ho : OkR o) (ht : OkR t) : ∃ b10 b11, runSs prg.T prg.rp prg.XT (callN prg (n + 1)) l_law_2 (xE k cell way great other o t (some (.d (.lst (ES o t)))) a10 a11 a12) M = some (.next (xE k cell way great other o t (some (.d (.lst (ES o t)))) b10 b11 a12), M) := by
  obtain ⟨r, hr⟩ := rp_due ho ht
  have hf := fields_ok (n := n) (o := o) (t := t) hM
  have s1 : runS prg.T prg.rp prg.XT (callN prg (n + 1)) (hdS l_law_2) (xE k cell way great other o t (some (.d (.lst (ES o t)))) a10 a11 a12) M = some (.next (xE k cell way great other o t (some (.d (.lst (ES o t)))) a10 a11 a12), M) := by
    simp only [l_law_2, hdS]
    unfold xE
    simp [hf, hr]
  have hI : runI prg.T prg.rp (callN prg (n + 1)) (.enm (.var 9)) (xE k cell way great other o t (some (.d (.lst (ES o t)))) a10 a11 a12) M = some (.ok (zipEnum 0 (ES o t)), M) := by
    unfold xE ES
    simp
  obtain ⟨f, M', hr2, rfl, b10, b11, rfl⟩ := for_inv (T := prg.T) (rp := prg.rp) (XT := prg.XT) (cl := callN prg (n + 1)) (g := .tup (.cons (.name 10) (.cons (.name 11) .nil))) (b := l_law_1)
    (Q := fun f M' => M' = M ∧ ∃ b10 b11, f = .next (xE k cell way great other o t (some (.d (.lst (ES o t)))) b10 b11 a12))
    (fun xs e M' => M' = M ∧ ∃ (j : Nat) (b10 b11 : Option Vl), xs = zipEnum j ((ES o t).drop j) ∧ e = xE k cell way great other o t (some (.d (.lst (ES o t)))) b10 b11 a12)
    (by
      rintro x xs e M' ⟨rfl, j, b10, b11, hxs, rfl⟩
      cases q : (ES o t)[j]? with
      | none =>
        rw [List.drop_eq_nil_of_le (by simpa using q)] at hxs
        cases hxs
      | some y =>
        have hj : j < (ES o t).length := (List.getElem?_eq_some_iff.mp q).1
        have hd : (ES o t).drop j = y :: (ES o t).drop (j + 1) := by
          rw [List.drop_eq_getElem_cons hj]
          congr 1
          exact Option.some.inj ((List.getElem?_eq_getElem hj).symm.trans q)
        rw [hd] at hxs
        simp only [zipEnum] at hxs
        injection hxs with h1 h2
        subst h1
        exact ⟨_, rfl, _, _, turn1 hM q, rfl, j + 1, _, _, h2, rfl⟩)
    (by
      rintro e M' ⟨rfl, j, b10, b11, hxs, rfl⟩
      exact ⟨rfl, _, _, rfl⟩)
    (zipEnum 0 (ES o t)) (xE k cell way great other o t (some (.d (.lst (ES o t)))) a10 a11 a12) M ⟨rfl, 0, _, _, rfl, rfl⟩
  refine ⟨b10, b11, ?_⟩
  rw [runSs_hd, s1, tR_next]
  simp only [l_law_2, tlS]
  rw [runSs_cons, runS_fors, hI, sR_ok, hr2, tR_next]
  rfl
theorem three {vs : List Int} {a b c : Int} (h : Drawn vs [a, b, c]) : ∃ v0 v1 v2 : Int, vs = [v0, v1, v2] ∧ 0 ≤ v0 ∧ v0 < a ∧ 0 ≤ v1 ∧ v1 < b ∧ 0 ≤ v2 ∧ v2 < c := by
  obtain ⟨hl, hv⟩ := h
  match vs, hl with
  | [v0, v1, v2], _ =>
    have h0 := hv 0 v0 a rfl rfl
    have h1 := hv 1 v1 b rfl rfl
    have h2 := hv 2 v2 c rfl rfl
    exact ⟨v0, v1, v2, rfl, h0.1, h0.2, h1.1, h1.2, h2.1, h2.2⟩
def LO (g : Int) : List D := [.non, .bl true, .str "", .str "x", .tup [.int g, .str "a"], .int (-g), .lst [.int 1], .int g]
def LT (g : Int) : List D := [.int g, .tup [.int g], .str "y", .non, .bl false, .int (-1 - g), .lst [], .dic []]
theorem okr_tup1 {x : D} (h : OkR x) (h2 : flatE 17 x = true) (h3 : (py x).weight ≤ 290) : OkR (.tup [x]) := by
  refine ⟨?_, ?_, ?_, ?_⟩
  · simp [flatE, flatsE, h2]
  · simp [py, pys, PyData.showable, PyData.showableAll, h.sh]
  · simp [py, pys, PyData.leavesShort, PyData.leavesShortAll, h.lv]
  · simp [py, pys, PyData.weight, PyData.weightAll]
    omega
end
end LW
set_option Elab.async false
set_option linter.all false
set_option maxRecDepth 100000
set_option maxHeartbeats 4000000
/-! k01: the law, whole -/
namespace LW
open PySem L2 TD
theorem int_wt {i : Int} (h1 : -(10 ^ 30) ≤ i) (h2 : i ≤ 10 ^ 30) : PyData.weight (.int i) ≤ 210 := by
  by_cases hz : i = 0
  · subst hz
    simp [PyData.weight]
  · have h0 : i.natAbs ≠ 0 := by omega
    have e : (10 : Nat) ^ 30 < 2 ^ 200 := by decide +kernel
    have e2 : ((10 : Nat) ^ 30 : Nat) = ((10 : Int) ^ 30).natAbs := by decide +kernel
    have := (Nat.log2_lt (k := 200) h0).mpr (by omega)
    simp [PyData.weight, hz]
    omega
theorem okr_c (x : D) (h : (flatE 18 x && (py x).showable && (py x).leavesShort 32 && decide ((py x).weight ≤ 300)) = true) : OkR x := by
  simp only [Bool.and_eq_true, decide_eq_true_eq] at h
  exact ⟨h.1.1.1, h.1.1.2, h.1.2, h.2⟩
theorem okr_tup2 {i : Int} (h1 : -(10 ^ 30) ≤ i) (h2 : i ≤ 10 ^ 30) : OkR (.tup [.int i, .str "a"]) := by
  have h := okr_int h1 h2
  have hw := int_wt h1 h2
  have a1 : (PyData.str (Str.ofString "a")).weight ≤ 10 := by decide +kernel
  have a2 : (PyData.str (Str.ofString "a")).leavesShort 32 = true := by decide +kernel
  have b1 := h.sh
  have b2 := h.lv
  simp only [py] at b1 b2
  refine ⟨rfl, ?_, ?_, ?_⟩
  · simp only [py, pys, PyData.showable, PyData.showableAll] at b1 ⊢
    simp [b1]
  · simp only [py, pys]
    rw [PyData.leavesShort, PyData.leavesShortAll, PyData.leavesShortAll, PyData.leavesShortAll, b2, a2]
    rfl
  · simp only [py, pys]
    rw [PyData.weight, PyData.weightAll, PyData.weightAll, PyData.weightAll]
    omega
theorem okr_tup1i {i : Int} (h1 : -(10 ^ 30) ≤ i) (h2 : i ≤ 10 ^ 30) : OkR (.tup [.int i]) := okr_tup1 (okr_int h1 h2) rfl (by have := int_wt h1 h2; show PyData.weight (.int i) ≤ 290; omega)
theorem okr_LO {g : Int} (h1 : 0 ≤ g) (h2 : g ≤ 10 ^ 30) : ∀ x ∈ LO g, OkR x := by
  have e : (0 : Int) ≤ 10 ^ 30 := by decide +kernel
  intro x hx
  simp only [LO, List.mem_cons, List.not_mem_nil, or_false] at hx
  rcases hx with rfl | rfl | rfl | rfl | rfl | rfl | rfl | rfl
  · exact okr_c _ (by decide +kernel)
  · exact okr_c _ (by decide +kernel)
  · exact okr_c _ (by decide +kernel)
  · exact okr_c _ (by decide +kernel)
  · exact okr_tup2 (by omega) h2
  · exact okr_int (by omega) (by omega)
  · exact okr_c _ (by decide +kernel)
  · exact okr_int (by omega) h2
theorem okr_LT {g : Int} (h1 : 0 ≤ g) (h2 : g < 10 ^ 30) : ∀ x ∈ LT g, OkR x := by
  have e : (0 : Int) ≤ 10 ^ 30 := by decide +kernel
  intro x hx
  simp only [LT, List.mem_cons, List.not_mem_nil, or_false] at hx
  rcases hx with rfl | rfl | rfl | rfl | rfl | rfl | rfl | rfl
  · exact okr_int (by omega) (by omega)
  · exact okr_tup1i (by omega) (by omega)
  · exact okr_c _ (by decide +kernel)
  · exact okr_c _ (by decide +kernel)
  · exact okr_c _ (by decide +kernel)
  · exact okr_int (by omega) (by omega)
  · exact okr_c _ (by decide +kernel)
  · exact okr_c _ (by decide +kernel)
section
variable {n : Nat} {M : Mem} {k cell way great other : Int} {o t : D} {a3 a4 a5 a6 a7 a8 a9 a10 a11 a12 : Option Vl}
def sX : Nat → CSs
  | 0 => l_law_3
  | k + 1 => tlS (sX k)
def yE (k cell : Int) (a3 a4 a5 a6 a7 a8 a9 a10 a11 a12 : Option Vl) : TD.Env := ⟨[some (.loc 0), some (.d (.int k)), some (.d (.int cell)), a3, a4, a5, a6, a7, a8, a9, a10, a11, a12], none⟩
theorem cell_ok (hM : MOk M) (hk0 : 0 ≤ k) (hk : k ≤ 100) : ∃ b3 b4 b5 b6 b7 b8 b9 b10 b11, runSs prg.T prg.rp prg.XT (callN prg (n + 1)) l_law_3 (yE k cell a3 a4 a5 a6 a7 a8 a9 a10 a11 a12) M = some (.next (yE k cell b3 b4 b5 b6 b7 b8 b9 b10 b11 a12), M) := by
  obtain ⟨vs, hv, dr⟩ := numbers_ok (n := n) hM cell (100 + k) [8, 1000000000000000000000000000000, 100000000000000000000] (by omega) (by omega) (by simp) (by
    intro s hs
    simp only [List.mem_cons, List.not_mem_nil, or_false] at hs
    rcases hs with rfl | rfl | rfl <;> exact ⟨by decide, by decide +kernel⟩)
  obtain ⟨way, great, other, rfl, w0, w1, g0, g1, o0, o1⟩ := three dr
  obtain ⟨i, rfl⟩ : ∃ i : Nat, way = i := ⟨way.toNat, by omega⟩
  have e30 : (10 : Int) ^ 30 = 1000000000000000000000000000000 := by decide +kernel
  have e20 : (10 : Int) ^ 20 = 100000000000000000000 := by decide +kernel
  have hO := okr_LO g0 (by omega)
  have hT := okr_LT (g := other) o0 (by omega)
  obtain ⟨j, hj⟩ : ∃ j : Nat, great % 8 = j := ⟨(great % 8).toNat, by omega⟩
  have hi8 : i < (LO great).length := by show i < 8; omega
  have hj8 : j < (LT other).length := by show j < 8; omega
  have qo : atI (LO great) (i : Int) = some (LO great)[i] := by rw [TD.atI_nat, List.getElem?_eq_getElem hi8]
  have qt : atI (LT other) (j : Int) = some (LT other)[j] := by rw [TD.atI_nat, List.getElem?_eq_getElem hj8]
  have ho := hO _ (List.getElem_mem hi8)
  have ht := hT _ (List.getElem_mem hj8)
  generalize (LO great)[i] = o at *
  generalize (LT other)[j] = t at *
  simp only [List.map_cons, List.map_nil] at hv
  have t0 : runS prg.T prg.rp prg.XT (callN prg (n + 1)) (hdS (sX 0)) (yE k cell a3 a4 a5 a6 a7 a8 a9 a10 a11 a12) M = some (.next (yE k cell (some (.d (.int i))) (some (.d (.int great))) (some (.d (.int other))) a6 a7 a8 a9 a10 a11 a12), M) := by
    simp only [sX, l_law_3, hdS]
    unfold yE
    simp [hv, e30, e20]
  have t1 : runS prg.T prg.rp prg.XT (callN prg (n + 1)) (hdS (sX 1)) (yE k cell (some (.d (.int i))) (some (.d (.int great))) (some (.d (.int other))) a6 a7 a8 a9 a10 a11 a12) M = some (.next (yE k cell (some (.d (.int i))) (some (.d (.int great))) (some (.d (.int other))) (some (.d o)) a7 a8 a9 a10 a11 a12), M) := by
    simp only [LO] at qo
    simp only [sX, l_law_3, hdS, tlS]
    unfold yE
    simp [qo]
  have t2 : runS prg.T prg.rp prg.XT (callN prg (n + 1)) (hdS (sX 2)) (yE k cell (some (.d (.int i))) (some (.d (.int great))) (some (.d (.int other))) (some (.d o)) a7 a8 a9 a10 a11 a12) M = some (.next (yE k cell (some (.d (.int i))) (some (.d (.int great))) (some (.d (.int other))) (some (.d o)) (some (.d t)) a8 a9 a10 a11 a12), M) := by
    simp only [LT] at qt
    simp only [sX, l_law_3, hdS, tlS]
    unfold yE
    simp [hj, qt]
  have t3 : runS prg.T prg.rp prg.XT (callN prg (n + 1)) (hdS (sX 3)) (yE k cell (some (.d (.int i))) (some (.d (.int great))) (some (.d (.int other))) (some (.d o)) (some (.d t)) a8 a9 a10 a11 a12) M = some (.next (xE k cell i great other o t a9 a10 a11 a12), M) := by
    simp only [sX, l_law_3, hdS, tlS]
    unfold yE xE
    simp [dueL]
  obtain ⟨b10, b11, u1⟩ := turn2 (n := n) (k := k) (cell := cell) (way := i) (great := great) (other := other) (a10 := a10) (a11 := a11) (a12 := a12) hM ho ht
  obtain ⟨c10, c11, u2⟩ := turn2 (n := n) (k := k) (cell := cell) (way := i) (great := great) (other := other) (a10 := b10) (a11 := b11) (a12 := a12) hM ho ht
  have hI : runI prg.T prg.rp (callN prg (n + 1)) (.seq (.lst (.cons (.call (.fn 32) (.cons (.var 6) (.cons (.var 7) .nil))) (.cons (.call (.fn 33) (.cons (.var 6) (.cons (.var 7) .nil))) .nil)))) (xE k cell i great other o t a9 a10 a11 a12) M = some (.ok [.lst (ES o t), .lst (ES o t)], M) := by
    have h1 := made_ok (n := n) (o := o) (t := t) hM
    have h2 := named_ok (n := n) (o := o) (t := t) hM
    unfold xE
    simp [h1, h2]
  have t4 : runS prg.T prg.rp prg.XT (callN prg (n + 1)) (hdS (sX 4)) (xE k cell i great other o t a9 a10 a11 a12) M = some (.next (xE k cell i great other o t (some (.d (.lst (ES o t)))) c10 c11 a12), M) := by
    show runS prg.T prg.rp prg.XT (callN prg (n + 1)) (.fors (.name 9) (.seq (.lst (.cons (.call (.fn 32) (.cons (.var 6) (.cons (.var 7) .nil))) (.cons (.call (.fn 33) (.cons (.var 6) (.cons (.var 7) .nil))) .nil)))) l_law_2) _ _ = _
    rw [runS_fors, hI, sR_ok, forR_next (e1 := xE k cell i great other o t (some (.d (.lst (ES o t)))) a10 a11 a12) rfl u1, forR_next (e1 := xE k cell i great other o t (some (.d (.lst (ES o t)))) b10 b11 a12) rfl u2]
    rfl
  refine ⟨some (.d (.int i)), some (.d (.int great)), some (.d (.int other)), some (.d o), some (.d t), some (.d (.lst (dueL o t))), some (.d (.lst (ES o t))), c10, c11, ?_⟩
  show runSs prg.T prg.rp prg.XT (callN prg (n + 1)) (sX 0) _ _ = _
  rw [runSs_hd, t0, tR_next]
  show runSs prg.T prg.rp prg.XT (callN prg (n + 1)) (sX 1) _ _ = _
  rw [runSs_hd, t1, tR_next]
  show runSs prg.T prg.rp prg.XT (callN prg (n + 1)) (sX 2) _ _ = _
  rw [runSs_hd, t2, tR_next]
  show runSs prg.T prg.rp prg.XT (callN prg (n + 1)) (sX 3) _ _ = _
  rw [runSs_hd, t3, tR_next]
  show runSs prg.T prg.rp prg.XT (callN prg (n + 1)) (sX 4) _ _ = _
  rw [runSs_hd, t4, tR_next]
  rfl
end
theorem run_ok : ∀ ns : List Int, ns.length ≤ 63 → ∃ Me, callN prg 60 (.fn 30) [.loc 0] [.scr (ns.map D.int)] = some (.ok (.d (.bl true)), Me) := by
  intro ns hn
  rw [call_fn (F := ⟨1, 12, c_law, 0, false⟩) rfl rfl rfl]
  have hc := cells_run (cl := callN prg 59) (ns := ns) (e := ⟨[some (.loc 0), none, none, none, none, none, none, none, none, none, none, none, none], none⟩) (k := 6) rfl (by omega) (by omega)
  obtain ⟨f, M', hr, hM, b, rfl⟩ := for_inv (T := prg.T) (rp := prg.rp) (XT := prg.XT) (cl := callN prg 59) (g := .tup (.cons (.name 1) (.cons (.name 2) .nil))) (b := l_law_3)
    (Q := fun f M' => noIns M' ∧ ∃ e, f = .next e)
    (fun xs e M' => noIns M' ∧ ∃ (k : Nat) (cs : List Int) (a1 a2 a3 a4 a5 a6 a7 a8 a9 a10 a11 a12 : Option Vl), k + cs.length ≤ 100 ∧ xs = zipEnum k (cs.map .int) ∧ e = ⟨[some (.loc 0), a1, a2, a3, a4, a5, a6, a7, a8, a9, a10, a11, a12], none⟩)
    (by
      rintro x xs e M ⟨hM, k, cs, a1, a2, a3, a4, a5, a6, a7, a8, a9, a10, a11, a12, hk, hxs, rfl⟩
      cases cs with
      | nil => cases hxs
      | cons cell cs =>
        simp only [List.map_cons, zipEnum] at hxs
        injection hxs with h1 h2
        subst h1
        simp at hk
        obtain ⟨b3, b4, b5, b6, b7, b8, b9, b10, b11, hr⟩ := cell_ok (n := 58) (k := k) (cell := cell) (a3 := a3) (a4 := a4) (a5 := a5) (a6 := a6) (a7 := a7) (a8 := a8) (a9 := a9) (a10 := a10) (a11 := a11) (a12 := a12) hM.ok (by omega) (by omega)
        exact ⟨_, rfl, _, _, hr, hM, k + 1, cs, _, _, _, _, _, _, _, _, _, _, _, _, by omega, h2, rfl⟩)
    (by
      rintro e M ⟨hM, k, cs, a1, a2, a3, a4, a5, a6, a7, a8, a9, a10, a11, a12, hk, hxs, rfl⟩
      exact ⟨hM, _, rfl⟩)
    (zipEnum 0 ((cellsOf 6 ns).map .int)) ⟨[some (.loc 0), none, none, none, none, none, none, none, none, none, none, none, none], none⟩ [.scr (ns.map .int)]
    ⟨noIns_scr, 0, _, none, none, none, none, none, none, none, none, none, none, none, none, by
      unfold cellsOf
      split <;> simp <;> omega, rfl, rfl⟩
  refine ⟨M'.take 1, ?_⟩
  have t1 : runS prg.T prg.rp prg.XT (callN prg 59) (hdS c_law) ⟨[some (.loc 0), none, none, none, none, none, none, none, none, none, none, none, none], none⟩ [.scr (ns.map .int)] = some (.next b, M') := by
    simp only [c_law, hdS, runS_fors]
    exact (congrArg (fun r => sR _ r _) hc).trans hr
  show endF 1 0 (runSs prg.T prg.rp prg.XT (callN prg 59) c_law ⟨[some (.loc 0), none, none, none, none, none, none, none, none, none, none, none, none], none⟩ [.scr (ns.map .int)]) = _
  rw [runSs_hd, t1, tR_next]
  have l1 : tab_Exception.lookup 1 = some true := rfl
  have l2 : tab_Exception.lookup 15 = some true := rfl
  simp [c_law, tlS, l1, l2]
  exact hM.ret
end LW
set_option Elab.async false
set_option linter.all false
set_option maxRecDepth 100000
set_option maxHeartbeats 8000000
set_option pp.maxSteps 60
set_option pp.deepTerms false
open PySem PySem.W PyProof.Rows
theorem PySem.Challenge.cw_takendown_k01_error_classes_holds : PySem.Challenge.rw_takendown_k01_error_classes.Holds := by
  w_on; o_law; k_head; (case hw => w_witness2)
  k_fill
  refine TD.law_end (l := PySem.Challenge.rw_takendown_k01_error_classes) (m := 63) (n := 60) (f := 30) (Pg := LW.prg) rfl (by decide) rfl ⟨rfl, by decide, by decide⟩ (fun w h Y => PySem.W.kIn_of Y) ?nol ?fns LW.run_ok
  case nol =>
    intro w
    first | rfl | k_is | decide +kernel
  case fns =>
    intro w mg fa h KX G hmg
    refine' LW.all_mk KX G hmg ?a25 ?l25 ?c25 ?k25 ?a32 ?l32 ?c32 ?k32 ?a33 ?l33 ?c33 ?k33 ?a34 ?l34 ?c34 ?k34 ?a35 ?l35 ?c35 ?k35 ?a36 ?l36 ?c36 ?k36 ?a30 ?l30 ?c30 ?k30 ?oget ?otk ?kb_NoneType_bool ?kb_NoneType_int ?kb_NoneType_str ?kb_NoneType_tuple ?kb_NoneType_list ?kb_NoneType_dict ?kb_bool_bool ?kb_bool_int ?kb_bool_str ?kb_bool_tuple ?kb_bool_list ?kb_bool_dict ?kb_int_bool ?kb_int_int ?kb_int_str ?kb_int_tuple ?kb_int_list ?kb_int_dict ?kb_str_bool ?kb_str_int ?kb_str_str ?kb_str_tuple ?kb_str_list ?kb_str_dict ?kb_tuple_bool ?kb_tuple_int ?kb_tuple_str ?kb_tuple_tuple ?kb_tuple_list ?kb_tuple_dict ?kb_list_bool ?kb_list_int ?kb_list_str ?kb_list_tuple ?kb_list_list ?kb_list_dict ?kb_dict_bool ?kb_dict_int ?kb_dict_str ?kb_dict_tuple ?kb_dict_list ?kb_dict_dict ?z_Exception ?z_KeyError ?z_LookupError ?z_OverflowError ?z_RuntimeError ?z_ValueError ?z_enumerate ?z_int ?z_isinstance ?z_len ?z_max ?z_range ?z_repr ?z_super ?aC14 ?xi14 ?xo14 ?xsa14 ?xii14 ?xti14 ?xkp14 ?xex14 ?xty14 ?xhd14 ?xnf14_0 ?xB14 ?xsp14 ?xsu14 ?xl14 ?xc14 ?xcl14_ ?xv14 ?xf14 ?xce14 ?xga14 ?xgg14 ?xhi14 ?aC7 ?xi7 ?xo7 ?xsa7 ?xii7 ?xti7 ?xkp7 ?xex7 ?xty7 ?xhd7 ?xnf7_0 ?xnf7_1 ?xB7 ?xsp7 ?xsu7 ?xl7 ?xc7 ?xcl7_ ?xv7 ?xf7 ?xce7 ?xga7 ?xgg7 ?xhi7 ?aC12 ?xi12 ?xo12 ?xsa12 ?xii12 ?xti12 ?xkp12 ?xex12 ?xty12 ?xhd12 ?xnf12_0 ?xB12 ?xsp12 ?xsu12 ?xl12 ?xc12 ?xcl12_ ?xv12 ?xf12 ?xce12 ?xga12 ?xgg12 ?xhi12 ?aC5 ?xi5 ?xo5 ?xsa5 ?xii5 ?xti5 ?xkp5 ?xex5 ?xty5 ?xhd5 ?xnf5_0 ?xB5 ?xsp5 ?xsu5 ?xl5 ?xc5 ?xcl5_ ?xv5 ?xf5 ?xce5 ?xga5 ?xgg5 ?xhi5 ?aC10 ?xi10 ?xo10 ?xsa10 ?xii10 ?xti10 ?xkp10 ?xex10 ?xty10 ?xhd10 ?xnf10_0 ?xB10 ?xsp10 ?xsu10 ?xl10 ?xc10 ?xcl10_ ?xv10 ?xf10 ?xce10 ?xga10 ?xgg10 ?xhi10 ?aC2 ?xi2 ?xo2 ?xsa2 ?xii2 ?xti2 ?xkp2 ?xex2 ?xty2 ?xhd2 ?xnf2_0 ?xB2 ?xsp2 ?xsu2 ?xl2 ?xc2 ?xcl2_ ?xv2 ?xf2 ?xce2 ?xga2 ?xgg2 ?xhi2 ?aC9 ?xi9 ?xo9 ?xsa9 ?xii9 ?xti9 ?xkp9 ?xex9 ?xty9 ?xhd9 ?xnf9_0 ?xB9 ?xsp9 ?xsu9 ?xl9 ?xc9 ?xcl9_ ?xv9 ?xf9 ?xce9 ?xga9 ?xgg9 ?xhi9 ?aC1 ?xi1 ?xo1 ?xsa1 ?xii1 ?xti1 ?xkp1 ?xex1 ?xty1 ?xhd1 ?xnf1_0 ?xB1 ?xsp1 ?xsu1 ?xl1 ?xc1 ?xcl1_ ?xv1 ?xf1 ?xce1 ?xga1 ?xgg1 ?xhi1 ?aC8 ?xi8 ?xo8 ?xsa8 ?xii8 ?xti8 ?xkp8 ?xex8 ?xty8 ?xhd8 ?xnf8_0 ?xB8 ?xsp8 ?xsu8 ?xl8 ?xc8 ?xcl8_ ?xv8 ?xf8 ?xce8 ?xga8 ?xgg8 ?xhi8 ?aC13 ?xi13 ?xo13 ?xsa13 ?xii13 ?xti13 ?xkp13 ?xex13 ?xty13 ?xhd13 ?xnf13_0 ?xB13 ?xsp13 ?xsu13 ?xl13 ?xc13 ?xcl13_ ?xv13 ?xf13 ?xce13 ?xga13 ?xgg13 ?xhi13 ?aC11 ?xi11 ?xo11 ?xsa11 ?xii11 ?xti11 ?xkp11 ?xex11 ?xty11 ?xhd11 ?xnf11_0 ?xB11 ?xsp11 ?xsu11 ?xl11 ?xc11 ?xcl11_ ?xv11 ?xf11 ?xce11 ?xga11 ?xgg11 ?xhi11 ?aC6 ?xi6 ?xo6 ?xsa6 ?xii6 ?xti6 ?xkp6 ?xex6 ?xty6 ?xhd6 ?xnf6_0 ?xnf6_1 ?xB6 ?xsp6 ?xsu6 ?xl6 ?xc6 ?xcl6_ ?xv6 ?xf6 ?xce6 ?xga6 ?xgg6 ?xhi6 ?aC15 ?xi15 ?xo15 ?xsa15 ?xii15 ?xti15 ?xkp15 ?xex15 ?xty15 ?xhd15 ?xnf15_0 ?xnf15_1 ?xB15 ?xsp15 ?xsu15 ?xl15 ?xc15 ?xcl15_ ?xv15 ?xf15 ?xce15 ?xga15 ?xgg15 ?xhi15 ?aC16 ?xi16 ?xo16 ?xsa16 ?xii16 ?xti16 ?xkp16 ?xex16 ?xty16 ?xhd16 ?xnf16_0 ?xB16 ?xsp16 ?xsu16 ?xl16 ?xc16 ?xcl16_ ?xv16 ?xf16 ?xce16 ?xga16 ?xgg16 ?xhi16 ?aC3 ?xi3 ?xo3 ?xsa3 ?xii3 ?xti3 ?xkp3 ?xex3 ?xty3 ?xhd3 ?xnf3_0 ?xB3 ?xsp3 ?xsu3 ?xl3 ?xc3 ?xcl3_ ?xv3 ?xf3 ?xce3 ?xga3 ?xgg3 ?xhi3 ?aC0 ?xcs14_ ?xcc14 ?xmr14 ?xk14_DownError ?xk14_Exception ?xk14_InvalidCommand ?xk14_InvalidDevice ?xk14_InvalidEdit ?xk14_InvalidItem ?xk14_InvalidMove ?xk14_InvalidNumber ?xk14_InvalidState ?xk14_InvalidStep ?xk14_InvalidStock ?xk14_InvalidText ?xk14_KeyError ?xk14_LimitExceeded ?xk14_LookupError ?xk14_NotACrowd ?xk14_NotRight ?xk14_NothingToUndo ?xk14_OverflowError ?xk14_RuntimeError ?xk14_UnknownName ?xk14_ValueError ?xcs7_ ?xcc7 ?xmr7 ?xk7_DownError ?xk7_Exception ?xk7_InvalidCommand ?xk7_InvalidDevice ?xk7_InvalidEdit ?xk7_InvalidItem ?xk7_InvalidMove ?xk7_InvalidNumber ?xk7_InvalidState ?xk7_InvalidStep ?xk7_InvalidStock ?xk7_InvalidText ?xk7_KeyError ?xk7_LimitExceeded ?xk7_LookupError ?xk7_NotACrowd ?xk7_NotRight ?xk7_NothingToUndo ?xk7_OverflowError ?xk7_RuntimeError ?xk7_UnknownName ?xk7_ValueError ?xcs12_ ?xcc12 ?xmr12 ?xk12_DownError ?xk12_Exception ?xk12_InvalidCommand ?xk12_InvalidDevice ?xk12_InvalidEdit ?xk12_InvalidItem ?xk12_InvalidMove ?xk12_InvalidNumber ?xk12_InvalidState ?xk12_InvalidStep ?xk12_InvalidStock ?xk12_InvalidText ?xk12_KeyError ?xk12_LimitExceeded ?xk12_LookupError ?xk12_NotACrowd ?xk12_NotRight ?xk12_NothingToUndo ?xk12_OverflowError ?xk12_RuntimeError ?xk12_UnknownName ?xk12_ValueError ?xcs5_ ?xcc5 ?xmr5 ?xk5_DownError ?xk5_Exception ?xk5_InvalidCommand ?xk5_InvalidDevice ?xk5_InvalidEdit ?xk5_InvalidItem ?xk5_InvalidMove ?xk5_InvalidNumber ?xk5_InvalidState ?xk5_InvalidStep ?xk5_InvalidStock ?xk5_InvalidText ?xk5_KeyError ?xk5_LimitExceeded ?xk5_LookupError ?xk5_NotACrowd ?xk5_NotRight ?xk5_NothingToUndo ?xk5_OverflowError ?xk5_RuntimeError ?xk5_UnknownName ?xk5_ValueError ?xcs10_ ?xcc10 ?xmr10 ?xk10_DownError ?xk10_Exception ?xk10_InvalidCommand ?xk10_InvalidDevice ?xk10_InvalidEdit ?xk10_InvalidItem ?xk10_InvalidMove ?xk10_InvalidNumber ?xk10_InvalidState ?xk10_InvalidStep ?xk10_InvalidStock ?xk10_InvalidText ?xk10_KeyError ?xk10_LimitExceeded ?xk10_LookupError ?xk10_NotACrowd ?xk10_NotRight ?xk10_NothingToUndo ?xk10_OverflowError ?xk10_RuntimeError ?xk10_UnknownName ?xk10_ValueError ?xcs2_ ?xcc2 ?xmr2 ?xk2_DownError ?xk2_Exception ?xk2_InvalidCommand ?xk2_InvalidDevice ?xk2_InvalidEdit ?xk2_InvalidItem ?xk2_InvalidMove ?xk2_InvalidNumber ?xk2_InvalidState ?xk2_InvalidStep ?xk2_InvalidStock ?xk2_InvalidText ?xk2_KeyError ?xk2_LimitExceeded ?xk2_LookupError ?xk2_NotACrowd ?xk2_NotRight ?xk2_NothingToUndo ?xk2_OverflowError ?xk2_RuntimeError ?xk2_UnknownName ?xk2_ValueError ?xcs9_ ?xcc9 ?xmr9 ?xk9_DownError ?xk9_Exception ?xk9_InvalidCommand ?xk9_InvalidDevice ?xk9_InvalidEdit ?xk9_InvalidItem ?xk9_InvalidMove ?xk9_InvalidNumber ?xk9_InvalidState ?xk9_InvalidStep ?xk9_InvalidStock ?xk9_InvalidText ?xk9_KeyError ?xk9_LimitExceeded ?xk9_LookupError ?xk9_NotACrowd ?xk9_NotRight ?xk9_NothingToUndo ?xk9_OverflowError ?xk9_RuntimeError ?xk9_UnknownName ?xk9_ValueError ?xcs1_ ?xcc1 ?xmr1 ?xk1_DownError ?xk1_Exception ?xk1_InvalidCommand ?xk1_InvalidDevice ?xk1_InvalidEdit ?xk1_InvalidItem ?xk1_InvalidMove ?xk1_InvalidNumber ?xk1_InvalidState ?xk1_InvalidStep ?xk1_InvalidStock ?xk1_InvalidText ?xk1_KeyError ?xk1_LimitExceeded ?xk1_LookupError ?xk1_NotACrowd ?xk1_NotRight ?xk1_NothingToUndo ?xk1_OverflowError ?xk1_RuntimeError ?xk1_UnknownName ?xk1_ValueError ?xcs8_ ?xcc8 ?xmr8 ?xk8_DownError ?xk8_Exception ?xk8_InvalidCommand ?xk8_InvalidDevice ?xk8_InvalidEdit ?xk8_InvalidItem ?xk8_InvalidMove ?xk8_InvalidNumber ?xk8_InvalidState ?xk8_InvalidStep ?xk8_InvalidStock ?xk8_InvalidText ?xk8_KeyError ?xk8_LimitExceeded ?xk8_LookupError ?xk8_NotACrowd ?xk8_NotRight ?xk8_NothingToUndo ?xk8_OverflowError ?xk8_RuntimeError ?xk8_UnknownName ?xk8_ValueError ?xcs13_ ?xcc13 ?xmr13 ?xk13_DownError ?xk13_Exception ?xk13_InvalidCommand ?xk13_InvalidDevice ?xk13_InvalidEdit ?xk13_InvalidItem ?xk13_InvalidMove ?xk13_InvalidNumber ?xk13_InvalidState ?xk13_InvalidStep ?xk13_InvalidStock ?xk13_InvalidText ?xk13_KeyError ?xk13_LimitExceeded ?xk13_LookupError ?xk13_NotACrowd ?xk13_NotRight ?xk13_NothingToUndo ?xk13_OverflowError ?xk13_RuntimeError ?xk13_UnknownName ?xk13_ValueError ?xcs11_ ?xcc11 ?xmr11 ?xk11_DownError ?xk11_Exception ?xk11_InvalidCommand ?xk11_InvalidDevice ?xk11_InvalidEdit ?xk11_InvalidItem ?xk11_InvalidMove ?xk11_InvalidNumber ?xk11_InvalidState ?xk11_InvalidStep ?xk11_InvalidStock ?xk11_InvalidText ?xk11_KeyError ?xk11_LimitExceeded ?xk11_LookupError ?xk11_NotACrowd ?xk11_NotRight ?xk11_NothingToUndo ?xk11_OverflowError ?xk11_RuntimeError ?xk11_UnknownName ?xk11_ValueError ?xcs6_ ?xcc6 ?xmr6 ?xk6_DownError ?xk6_Exception ?xk6_InvalidCommand ?xk6_InvalidDevice ?xk6_InvalidEdit ?xk6_InvalidItem ?xk6_InvalidMove ?xk6_InvalidNumber ?xk6_InvalidState ?xk6_InvalidStep ?xk6_InvalidStock ?xk6_InvalidText ?xk6_KeyError ?xk6_LimitExceeded ?xk6_LookupError ?xk6_NotACrowd ?xk6_NotRight ?xk6_NothingToUndo ?xk6_OverflowError ?xk6_RuntimeError ?xk6_UnknownName ?xk6_ValueError ?xcs15_ ?xcc15 ?xmr15 ?xk15_DownError ?xk15_Exception ?xk15_InvalidCommand ?xk15_InvalidDevice ?xk15_InvalidEdit ?xk15_InvalidItem ?xk15_InvalidMove ?xk15_InvalidNumber ?xk15_InvalidState ?xk15_InvalidStep ?xk15_InvalidStock ?xk15_InvalidText ?xk15_KeyError ?xk15_LimitExceeded ?xk15_LookupError ?xk15_NotACrowd ?xk15_NotRight ?xk15_NothingToUndo ?xk15_OverflowError ?xk15_RuntimeError ?xk15_UnknownName ?xk15_ValueError ?xcs16_ ?xcc16 ?xmr16 ?xk16_DownError ?xk16_Exception ?xk16_InvalidCommand ?xk16_InvalidDevice ?xk16_InvalidEdit ?xk16_InvalidItem ?xk16_InvalidMove ?xk16_InvalidNumber ?xk16_InvalidState ?xk16_InvalidStep ?xk16_InvalidStock ?xk16_InvalidText ?xk16_KeyError ?xk16_LimitExceeded ?xk16_LookupError ?xk16_NotACrowd ?xk16_NotRight ?xk16_NothingToUndo ?xk16_OverflowError ?xk16_RuntimeError ?xk16_UnknownName ?xk16_ValueError ?xcs3_ ?xcc3 ?xmr3 ?xk3_DownError ?xk3_Exception ?xk3_InvalidCommand ?xk3_InvalidDevice ?xk3_InvalidEdit ?xk3_InvalidItem ?xk3_InvalidMove ?xk3_InvalidNumber ?xk3_InvalidState ?xk3_InvalidStep ?xk3_InvalidStock ?xk3_InvalidText ?xk3_KeyError ?xk3_LimitExceeded ?xk3_LookupError ?xk3_NotACrowd ?xk3_NotRight ?xk3_NothingToUndo ?xk3_OverflowError ?xk3_RuntimeError ?xk3_UnknownName ?xk3_ValueError ?opq ?xm14_14 ?xm7_14 ?xm12_14 ?xm5_14 ?xm10_14 ?xm2_14 ?xm9_14 ?xm1_14 ?xm8_14 ?xm13_14 ?xm11_14 ?xm6_14 ?xm15_14 ?xm16_14 ?xm3_14 ?xm14_7 ?xm7_7 ?xm12_7 ?xm5_7 ?xm10_7 ?xm2_7 ?xm9_7 ?xm1_7 ?xm8_7 ?xm13_7 ?xm11_7 ?xm6_7 ?xm15_7 ?xm16_7 ?xm3_7 ?xm14_12 ?xm7_12 ?xm12_12 ?xm5_12 ?xm10_12 ?xm2_12 ?xm9_12 ?xm1_12 ?xm8_12 ?xm13_12 ?xm11_12 ?xm6_12 ?xm15_12 ?xm16_12 ?xm3_12 ?xm14_5 ?xm7_5 ?xm12_5 ?xm5_5 ?xm10_5 ?xm2_5 ?xm9_5 ?xm1_5 ?xm8_5 ?xm13_5 ?xm11_5 ?xm6_5 ?xm15_5 ?xm16_5 ?xm3_5 ?xm14_10 ?xm7_10 ?xm12_10 ?xm5_10 ?xm10_10 ?xm2_10 ?xm9_10 ?xm1_10 ?xm8_10 ?xm13_10 ?xm11_10 ?xm6_10 ?xm15_10 ?xm16_10 ?xm3_10 ?xm14_2 ?xm7_2 ?xm12_2 ?xm5_2 ?xm10_2 ?xm2_2 ?xm9_2 ?xm1_2 ?xm8_2 ?xm13_2 ?xm11_2 ?xm6_2 ?xm15_2 ?xm16_2 ?xm3_2 ?xm14_9 ?xm7_9 ?xm12_9 ?xm5_9 ?xm10_9 ?xm2_9 ?xm9_9 ?xm1_9 ?xm8_9 ?xm13_9 ?xm11_9 ?xm6_9 ?xm15_9 ?xm16_9 ?xm3_9 ?xm14_1 ?xm7_1 ?xm12_1 ?xm5_1 ?xm10_1 ?xm2_1 ?xm9_1 ?xm1_1 ?xm8_1 ?xm13_1 ?xm11_1 ?xm6_1 ?xm15_1 ?xm16_1 ?xm3_1 ?xm14_8 ?xm7_8 ?xm12_8 ?xm5_8 ?xm10_8 ?xm2_8 ?xm9_8 ?xm1_8 ?xm8_8 ?xm13_8 ?xm11_8 ?xm6_8 ?xm15_8 ?xm16_8 ?xm3_8 ?xm14_13 ?xm7_13 ?xm12_13 ?xm5_13 ?xm10_13 ?xm2_13 ?xm9_13 ?xm1_13 ?xm8_13 ?xm13_13 ?xm11_13 ?xm6_13 ?xm15_13 ?xm16_13 ?xm3_13 ?xm14_11 ?xm7_11 ?xm12_11 ?xm5_11 ?xm10_11 ?xm2_11 ?xm9_11 ?xm1_11 ?xm8_11 ?xm13_11 ?xm11_11 ?xm6_11 ?xm15_11 ?xm16_11 ?xm3_11 ?xm14_6 ?xm7_6 ?xm12_6 ?xm5_6 ?xm10_6 ?xm2_6 ?xm9_6 ?xm1_6 ?xm8_6 ?xm13_6 ?xm11_6 ?xm6_6 ?xm15_6 ?xm16_6 ?xm3_6 ?xm14_15 ?xm7_15 ?xm12_15 ?xm5_15 ?xm10_15 ?xm2_15 ?xm9_15 ?xm1_15 ?xm8_15 ?xm13_15 ?xm11_15 ?xm6_15 ?xm15_15 ?xm16_15 ?xm3_15 ?xm14_16 ?xm7_16 ?xm12_16 ?xm5_16 ?xm10_16 ?xm2_16 ?xm9_16 ?xm1_16 ?xm8_16 ?xm13_16 ?xm11_16 ?xm6_16 ?xm15_16 ?xm16_16 ?xm3_16 ?xm14_3 ?xm7_3 ?xm12_3 ?xm5_3 ?xm10_3 ?xm2_3 ?xm9_3 ?xm1_3 ?xm8_3 ?xm13_3 ?xm11_3 ?xm6_3 ?xm15_3 ?xm16_3 ?xm3_3
    (case a25 => k_is)
    (case l25 => k_is)
    (case c25 => k_is)
    (case k25 => k_is)
    (case a32 => k_is)
    (case l32 => k_is)
    (case c32 => k_is)
    (case k32 => k_is)
    (case a33 => k_is)
    (case l33 => k_is)
    (case c33 => k_is)
    (case k33 => k_is)
    (case a34 => k_is)
    (case l34 => k_is)
    (case c34 => k_is)
    (case k34 => k_is)
    (case a35 => k_is)
    (case l35 => k_is)
    (case c35 => k_is)
    (case k35 => k_is)
    (case a36 => k_is)
    (case l36 => k_is)
    (case c36 => k_is)
    (case k36 => k_is)
    (case a30 => k_is)
    (case l30 => k_is)
    (case c30 => k_is)
    (case k30 => k_is)
    (case oget => k_is)
    (case otk => k_is)
    (case kb_NoneType_bool => first | kit_is | exact L2.kit_ty (by decide +kernel))
    (case kb_NoneType_int => first | kit_is | exact L2.kit_ty (by decide +kernel))
    (case kb_NoneType_str => first | kit_is | exact L2.kit_ty (by decide +kernel))
    (case kb_NoneType_tuple => first | kit_is | exact L2.kit_ty (by decide +kernel))
    (case kb_NoneType_list => first | kit_is | exact L2.kit_ty (by decide +kernel))
    (case kb_NoneType_dict => first | kit_is | exact L2.kit_ty (by decide +kernel))
    (case kb_bool_bool => first | kit_is | exact L2.kit_ty (by decide +kernel))
    (case kb_bool_int => first | kit_is | exact L2.kit_ty (by decide +kernel))
    (case kb_bool_str => first | kit_is | exact L2.kit_ty (by decide +kernel))
    (case kb_bool_tuple => first | kit_is | exact L2.kit_ty (by decide +kernel))
    (case kb_bool_list => first | kit_is | exact L2.kit_ty (by decide +kernel))
    (case kb_bool_dict => first | kit_is | exact L2.kit_ty (by decide +kernel))
    (case kb_int_bool => first | kit_is | exact L2.kit_ty (by decide +kernel))
    (case kb_int_int => first | kit_is | exact L2.kit_ty (by decide +kernel))
    (case kb_int_str => first | kit_is | exact L2.kit_ty (by decide +kernel))
    (case kb_int_tuple => first | kit_is | exact L2.kit_ty (by decide +kernel))
    (case kb_int_list => first | kit_is | exact L2.kit_ty (by decide +kernel))
    (case kb_int_dict => first | kit_is | exact L2.kit_ty (by decide +kernel))
    (case kb_str_bool => first | kit_is | exact L2.kit_ty (by decide +kernel))
    (case kb_str_int => first | kit_is | exact L2.kit_ty (by decide +kernel))
    (case kb_str_str => first | kit_is | exact L2.kit_ty (by decide +kernel))
    (case kb_str_tuple => first | kit_is | exact L2.kit_ty (by decide +kernel))
    (case kb_str_list => first | kit_is | exact L2.kit_ty (by decide +kernel))
    (case kb_str_dict => first | kit_is | exact L2.kit_ty (by decide +kernel))
    (case kb_tuple_bool => first | kit_is | exact L2.kit_ty (by decide +kernel))
    (case kb_tuple_int => first | kit_is | exact L2.kit_ty (by decide +kernel))
    (case kb_tuple_str => first | kit_is | exact L2.kit_ty (by decide +kernel))
    (case kb_tuple_tuple => first | kit_is | exact L2.kit_ty (by decide +kernel))
    (case kb_tuple_list => first | kit_is | exact L2.kit_ty (by decide +kernel))
    (case kb_tuple_dict => first | kit_is | exact L2.kit_ty (by decide +kernel))
    (case kb_list_bool => first | kit_is | exact L2.kit_ty (by decide +kernel))
    (case kb_list_int => first | kit_is | exact L2.kit_ty (by decide +kernel))
    (case kb_list_str => first | kit_is | exact L2.kit_ty (by decide +kernel))
    (case kb_list_tuple => first | kit_is | exact L2.kit_ty (by decide +kernel))
    (case kb_list_list => first | kit_is | exact L2.kit_ty (by decide +kernel))
    (case kb_list_dict => first | kit_is | exact L2.kit_ty (by decide +kernel))
    (case kb_dict_bool => first | kit_is | exact L2.kit_ty (by decide +kernel))
    (case kb_dict_int => first | kit_is | exact L2.kit_ty (by decide +kernel))
    (case kb_dict_str => first | kit_is | exact L2.kit_ty (by decide +kernel))
    (case kb_dict_tuple => first | kit_is | exact L2.kit_ty (by decide +kernel))
    (case kb_dict_list => first | kit_is | exact L2.kit_ty (by decide +kernel))
    (case kb_dict_dict => first | kit_is | exact L2.kit_ty (by decide +kernel))
    (case z_Exception => k_is)
    (case z_KeyError => k_is)
    (case z_LookupError => k_is)
    (case z_OverflowError => k_is)
    (case z_RuntimeError => k_is)
    (case z_ValueError => k_is)
    (case z_enumerate => k_is)
    (case z_int => k_is)
    (case z_isinstance => k_is)
    (case z_len => k_is)
    (case z_max => k_is)
    (case z_range => k_is)
    (case z_repr => k_is)
    (case z_super => k_is)
    (case aC14 => k_is)
    (case xi14 => first | kx_is | rfl | decide +kernel)
    (case xo14 => first | kx_is | rfl | decide +kernel)
    (case xsa14 => k_is)
    (case xii14 => k_is)
    (case xti14 => k_is)
    (case xkp14 => k_is)
    (case xex14 => k_is)
    (case xty14 => k_is)
    (case xhd14 => k_is)
    (case xnf14_0 => k_is)
    (case xB14 => k_is)
    (case xsp14 => first | k_is | ks_is)
    (case xsu14 => k_is)
    (case xl14 => k_is)
    (case xc14 => k_is)
    (case xcl14_ => k_is)
    (case xv14 => rfl)
    (case xf14 => first | rfl | decide +kernel)
    (case xce14 => k_is)
    (case xga14 => k_is)
    (case xgg14 => k_is)
    (case xhi14 => k_is)
    (case aC7 => k_is)
    (case xi7 => first | kx_is | rfl | decide +kernel)
    (case xo7 => first | kx_is | rfl | decide +kernel)
    (case xsa7 => k_is)
    (case xii7 => k_is)
    (case xti7 => k_is)
    (case xkp7 => k_is)
    (case xex7 => k_is)
    (case xty7 => k_is)
    (case xhd7 => k_is)
    (case xnf7_0 => k_is)
    (case xnf7_1 => k_is)
    (case xB7 => k_is)
    (case xsp7 => first | k_is | ks_is)
    (case xsu7 => k_is)
    (case xl7 => k_is)
    (case xc7 => k_is)
    (case xcl7_ => k_is)
    (case xv7 => rfl)
    (case xf7 => first | rfl | decide +kernel)
    (case xce7 => k_is)
    (case xga7 => k_is)
    (case xgg7 => k_is)
    (case xhi7 => k_is)
    (case aC12 => k_is)
    (case xi12 => first | kx_is | rfl | decide +kernel)
    (case xo12 => first | kx_is | rfl | decide +kernel)
    (case xsa12 => k_is)
    (case xii12 => k_is)
    (case xti12 => k_is)
    (case xkp12 => k_is)
    (case xex12 => k_is)
    (case xty12 => k_is)
    (case xhd12 => k_is)
    (case xnf12_0 => k_is)
    (case xB12 => k_is)
    (case xsp12 => first | k_is | ks_is)
    (case xsu12 => k_is)
    (case xl12 => k_is)
    (case xc12 => k_is)
    (case xcl12_ => k_is)
    (case xv12 => rfl)
    (case xf12 => first | rfl | decide +kernel)
    (case xce12 => k_is)
    (case xga12 => k_is)
    (case xgg12 => k_is)
    (case xhi12 => k_is)
    (case aC5 => k_is)
    (case xi5 => first | kx_is | rfl | decide +kernel)
    (case xo5 => first | kx_is | rfl | decide +kernel)
    (case xsa5 => k_is)
    (case xii5 => k_is)
    (case xti5 => k_is)
    (case xkp5 => k_is)
    (case xex5 => k_is)
    (case xty5 => k_is)
    (case xhd5 => k_is)
    (case xnf5_0 => k_is)
    (case xB5 => k_is)
    (case xsp5 => first | k_is | ks_is)
    (case xsu5 => k_is)
    (case xl5 => k_is)
    (case xc5 => k_is)
    (case xcl5_ => k_is)
    (case xv5 => rfl)
    (case xf5 => first | rfl | decide +kernel)
    (case xce5 => k_is)
    (case xga5 => k_is)
    (case xgg5 => k_is)
    (case xhi5 => k_is)
    (case aC10 => k_is)
    (case xi10 => first | kx_is | rfl | decide +kernel)
    (case xo10 => first | kx_is | rfl | decide +kernel)
    (case xsa10 => k_is)
    (case xii10 => k_is)
    (case xti10 => k_is)
    (case xkp10 => k_is)
    (case xex10 => k_is)
    (case xty10 => k_is)
    (case xhd10 => k_is)
    (case xnf10_0 => k_is)
    (case xB10 => k_is)
    (case xsp10 => first | k_is | ks_is)
    (case xsu10 => k_is)
    (case xl10 => k_is)
    (case xc10 => k_is)
    (case xcl10_ => k_is)
    (case xv10 => rfl)
    (case xf10 => first | rfl | decide +kernel)
    (case xce10 => k_is)
    (case xga10 => k_is)
    (case xgg10 => k_is)
    (case xhi10 => k_is)
    (case aC2 => k_is)
    (case xi2 => first | kx_is | rfl | decide +kernel)
    (case xo2 => first | kx_is | rfl | decide +kernel)
    (case xsa2 => k_is)
    (case xii2 => k_is)
    (case xti2 => k_is)
    (case xkp2 => k_is)
    (case xex2 => k_is)
    (case xty2 => k_is)
    (case xhd2 => k_is)
    (case xnf2_0 => k_is)
    (case xB2 => k_is)
    (case xsp2 => first | k_is | ks_is)
    (case xsu2 => k_is)
    (case xl2 => k_is)
    (case xc2 => k_is)
    (case xcl2_ => k_is)
    (case xv2 => rfl)
    (case xf2 => first | rfl | decide +kernel)
    (case xce2 => k_is)
    (case xga2 => k_is)
    (case xgg2 => k_is)
    (case xhi2 => k_is)
    (case aC9 => k_is)
    (case xi9 => first | kx_is | rfl | decide +kernel)
    (case xo9 => first | kx_is | rfl | decide +kernel)
    (case xsa9 => k_is)
    (case xii9 => k_is)
    (case xti9 => k_is)
    (case xkp9 => k_is)
    (case xex9 => k_is)
    (case xty9 => k_is)
    (case xhd9 => k_is)
    (case xnf9_0 => k_is)
    (case xB9 => k_is)
    (case xsp9 => first | k_is | ks_is)
    (case xsu9 => k_is)
    (case xl9 => k_is)
    (case xc9 => k_is)
    (case xcl9_ => k_is)
    (case xv9 => rfl)
    (case xf9 => first | rfl | decide +kernel)
    (case xce9 => k_is)
    (case xga9 => k_is)
    (case xgg9 => k_is)
    (case xhi9 => k_is)
    (case aC1 => k_is)
    (case xi1 => first | kx_is | rfl | decide +kernel)
    (case xo1 => first | kx_is | rfl | decide +kernel)
    (case xsa1 => k_is)
    (case xii1 => k_is)
    (case xti1 => k_is)
    (case xkp1 => k_is)
    (case xex1 => k_is)
    (case xty1 => k_is)
    (case xhd1 => k_is)
    (case xnf1_0 => k_is)
    (case xB1 => k_is)
    (case xsp1 => first | k_is | ks_is)
    (case xsu1 => k_is)
    (case xl1 => k_is)
    (case xc1 => k_is)
    (case xcl1_ => k_is)
    (case xv1 => rfl)
    (case xf1 => first | rfl | decide +kernel)
    (case xce1 => k_is)
    (case xga1 => k_is)
    (case xgg1 => k_is)
    (case xhi1 => k_is)
    (case aC8 => k_is)
    (case xi8 => first | kx_is | rfl | decide +kernel)
    (case xo8 => first | kx_is | rfl | decide +kernel)
    (case xsa8 => k_is)
    (case xii8 => k_is)
    (case xti8 => k_is)
    (case xkp8 => k_is)
    (case xex8 => k_is)
    (case xty8 => k_is)
    (case xhd8 => k_is)
    (case xnf8_0 => k_is)
    (case xB8 => k_is)
    (case xsp8 => first | k_is | ks_is)
    (case xsu8 => k_is)
    (case xl8 => k_is)
    (case xc8 => k_is)
    (case xcl8_ => k_is)
    (case xv8 => rfl)
    (case xf8 => first | rfl | decide +kernel)
    (case xce8 => k_is)
    (case xga8 => k_is)
    (case xgg8 => k_is)
    (case xhi8 => k_is)
    (case aC13 => k_is)
    (case xi13 => first | kx_is | rfl | decide +kernel)
    (case xo13 => first | kx_is | rfl | decide +kernel)
    (case xsa13 => k_is)
    (case xii13 => k_is)
    (case xti13 => k_is)
    (case xkp13 => k_is)
    (case xex13 => k_is)
    (case xty13 => k_is)
    (case xhd13 => k_is)
    (case xnf13_0 => k_is)
    (case xB13 => k_is)
    (case xsp13 => first | k_is | ks_is)
    (case xsu13 => k_is)
    (case xl13 => k_is)
    (case xc13 => k_is)
    (case xcl13_ => k_is)
    (case xv13 => rfl)
    (case xf13 => first | rfl | decide +kernel)
    (case xce13 => k_is)
    (case xga13 => k_is)
    (case xgg13 => k_is)
    (case xhi13 => k_is)
    (case aC11 => k_is)
    (case xi11 => first | kx_is | rfl | decide +kernel)
    (case xo11 => first | kx_is | rfl | decide +kernel)
    (case xsa11 => k_is)
    (case xii11 => k_is)
    (case xti11 => k_is)
    (case xkp11 => k_is)
    (case xex11 => k_is)
    (case xty11 => k_is)
    (case xhd11 => k_is)
    (case xnf11_0 => k_is)
    (case xB11 => k_is)
    (case xsp11 => first | k_is | ks_is)
    (case xsu11 => k_is)
    (case xl11 => k_is)
    (case xc11 => k_is)
    (case xcl11_ => k_is)
    (case xv11 => rfl)
    (case xf11 => first | rfl | decide +kernel)
    (case xce11 => k_is)
    (case xga11 => k_is)
    (case xgg11 => k_is)
    (case xhi11 => k_is)
    (case aC6 => k_is)
    (case xi6 => first | kx_is | rfl | decide +kernel)
    (case xo6 => first | kx_is | rfl | decide +kernel)
    (case xsa6 => k_is)
    (case xii6 => k_is)
    (case xti6 => k_is)
    (case xkp6 => k_is)
    (case xex6 => k_is)
    (case xty6 => k_is)
    (case xhd6 => k_is)
    (case xnf6_0 => k_is)
    (case xnf6_1 => k_is)
    (case xB6 => k_is)
    (case xsp6 => first | k_is | ks_is)
    (case xsu6 => k_is)
    (case xl6 => k_is)
    (case xc6 => k_is)
    (case xcl6_ => k_is)
    (case xv6 => rfl)
    (case xf6 => first | rfl | decide +kernel)
    (case xce6 => k_is)
    (case xga6 => k_is)
    (case xgg6 => k_is)
    (case xhi6 => k_is)
    (case aC15 => k_is)
    (case xi15 => first | kx_is | rfl | decide +kernel)
    (case xo15 => first | kx_is | rfl | decide +kernel)
    (case xsa15 => k_is)
    (case xii15 => k_is)
    (case xti15 => k_is)
    (case xkp15 => k_is)
    (case xex15 => k_is)
    (case xty15 => k_is)
    (case xhd15 => k_is)
    (case xnf15_0 => k_is)
    (case xnf15_1 => k_is)
    (case xB15 => k_is)
    (case xsp15 => first | k_is | ks_is)
    (case xsu15 => k_is)
    (case xl15 => k_is)
    (case xc15 => k_is)
    (case xcl15_ => k_is)
    (case xv15 => rfl)
    (case xf15 => first | rfl | decide +kernel)
    (case xce15 => k_is)
    (case xga15 => k_is)
    (case xgg15 => k_is)
    (case xhi15 => k_is)
    (case aC16 => k_is)
    (case xi16 => first | kx_is | rfl | decide +kernel)
    (case xo16 => first | kx_is | rfl | decide +kernel)
    (case xsa16 => k_is)
    (case xii16 => k_is)
    (case xti16 => k_is)
    (case xkp16 => k_is)
    (case xex16 => k_is)
    (case xty16 => k_is)
    (case xhd16 => k_is)
    (case xnf16_0 => k_is)
    (case xB16 => k_is)
    (case xsp16 => first | k_is | ks_is)
    (case xsu16 => k_is)
    (case xl16 => k_is)
    (case xc16 => k_is)
    (case xcl16_ => k_is)
    (case xv16 => rfl)
    (case xf16 => first | rfl | decide +kernel)
    (case xce16 => k_is)
    (case xga16 => k_is)
    (case xgg16 => k_is)
    (case xhi16 => k_is)
    (case aC3 => k_is)
    (case xi3 => first | kx_is | rfl | decide +kernel)
    (case xo3 => first | kx_is | rfl | decide +kernel)
    (case xsa3 => k_is)
    (case xii3 => k_is)
    (case xti3 => k_is)
    (case xkp3 => k_is)
    (case xex3 => k_is)
    (case xty3 => k_is)
    (case xhd3 => k_is)
    (case xnf3_0 => k_is)
    (case xB3 => k_is)
    (case xsp3 => first | k_is | ks_is)
    (case xsu3 => k_is)
    (case xl3 => k_is)
    (case xc3 => k_is)
    (case xcl3_ => k_is)
    (case xv3 => rfl)
    (case xf3 => first | rfl | decide +kernel)
    (case xce3 => k_is)
    (case xga3 => k_is)
    (case xgg3 => k_is)
    (case xhi3 => k_is)
    (case aC0 => k_is)
    (case xcs14_ => first | k_is | rfl | decide +kernel)
    (case xcc14 => k_is)
    (case xmr14 => k_is)
    (case xk14_DownError => kit_is)
    (case xk14_Exception => kit_is)
    (case xk14_InvalidCommand => kit_is)
    (case xk14_InvalidDevice => kit_is)
    (case xk14_InvalidEdit => kit_is)
    (case xk14_InvalidItem => kit_is)
    (case xk14_InvalidMove => kit_is)
    (case xk14_InvalidNumber => kit_is)
    (case xk14_InvalidState => kit_is)
    (case xk14_InvalidStep => kit_is)
    (case xk14_InvalidStock => kit_is)
    (case xk14_InvalidText => kit_is)
    (case xk14_KeyError => kit_is)
    (case xk14_LimitExceeded => kit_is)
    (case xk14_LookupError => kit_is)
    (case xk14_NotACrowd => kit_is)
    (case xk14_NotRight => kit_is)
    (case xk14_NothingToUndo => kit_is)
    (case xk14_OverflowError => kit_is)
    (case xk14_RuntimeError => kit_is)
    (case xk14_UnknownName => kit_is)
    (case xk14_ValueError => kit_is)
    (case xcs7_ => first | k_is | rfl | decide +kernel)
    (case xcc7 => k_is)
    (case xmr7 => k_is)
    (case xk7_DownError => kit_is)
    (case xk7_Exception => kit_is)
    (case xk7_InvalidCommand => kit_is)
    (case xk7_InvalidDevice => kit_is)
    (case xk7_InvalidEdit => kit_is)
    (case xk7_InvalidItem => kit_is)
    (case xk7_InvalidMove => kit_is)
    (case xk7_InvalidNumber => kit_is)
    (case xk7_InvalidState => kit_is)
    (case xk7_InvalidStep => kit_is)
    (case xk7_InvalidStock => kit_is)
    (case xk7_InvalidText => kit_is)
    (case xk7_KeyError => kit_is)
    (case xk7_LimitExceeded => kit_is)
    (case xk7_LookupError => kit_is)
    (case xk7_NotACrowd => kit_is)
    (case xk7_NotRight => kit_is)
    (case xk7_NothingToUndo => kit_is)
    (case xk7_OverflowError => kit_is)
    (case xk7_RuntimeError => kit_is)
    (case xk7_UnknownName => kit_is)
    (case xk7_ValueError => kit_is)
    (case xcs12_ => first | k_is | rfl | decide +kernel)
    (case xcc12 => k_is)
    (case xmr12 => k_is)
    (case xk12_DownError => kit_is)
    (case xk12_Exception => kit_is)
    (case xk12_InvalidCommand => kit_is)
    (case xk12_InvalidDevice => kit_is)
    (case xk12_InvalidEdit => kit_is)
    (case xk12_InvalidItem => kit_is)
    (case xk12_InvalidMove => kit_is)
    (case xk12_InvalidNumber => kit_is)
    (case xk12_InvalidState => kit_is)
    (case xk12_InvalidStep => kit_is)
    (case xk12_InvalidStock => kit_is)
    (case xk12_InvalidText => kit_is)
    (case xk12_KeyError => kit_is)
    (case xk12_LimitExceeded => kit_is)
    (case xk12_LookupError => kit_is)
    (case xk12_NotACrowd => kit_is)
    (case xk12_NotRight => kit_is)
    (case xk12_NothingToUndo => kit_is)
    (case xk12_OverflowError => kit_is)
    (case xk12_RuntimeError => kit_is)
    (case xk12_UnknownName => kit_is)
    (case xk12_ValueError => kit_is)
    (case xcs5_ => first | k_is | rfl | decide +kernel)
    (case xcc5 => k_is)
    (case xmr5 => k_is)
    (case xk5_DownError => kit_is)
    (case xk5_Exception => kit_is)
    (case xk5_InvalidCommand => kit_is)
    (case xk5_InvalidDevice => kit_is)
    (case xk5_InvalidEdit => kit_is)
    (case xk5_InvalidItem => kit_is)
    (case xk5_InvalidMove => kit_is)
    (case xk5_InvalidNumber => kit_is)
    (case xk5_InvalidState => kit_is)
    (case xk5_InvalidStep => kit_is)
    (case xk5_InvalidStock => kit_is)
    (case xk5_InvalidText => kit_is)
    (case xk5_KeyError => kit_is)
    (case xk5_LimitExceeded => kit_is)
    (case xk5_LookupError => kit_is)
    (case xk5_NotACrowd => kit_is)
    (case xk5_NotRight => kit_is)
    (case xk5_NothingToUndo => kit_is)
    (case xk5_OverflowError => kit_is)
    (case xk5_RuntimeError => kit_is)
    (case xk5_UnknownName => kit_is)
    (case xk5_ValueError => kit_is)
    (case xcs10_ => first | k_is | rfl | decide +kernel)
    (case xcc10 => k_is)
    (case xmr10 => k_is)
    (case xk10_DownError => kit_is)
    (case xk10_Exception => kit_is)
    (case xk10_InvalidCommand => kit_is)
    (case xk10_InvalidDevice => kit_is)
    (case xk10_InvalidEdit => kit_is)
    (case xk10_InvalidItem => kit_is)
    (case xk10_InvalidMove => kit_is)
    (case xk10_InvalidNumber => kit_is)
    (case xk10_InvalidState => kit_is)
    (case xk10_InvalidStep => kit_is)
    (case xk10_InvalidStock => kit_is)
    (case xk10_InvalidText => kit_is)
    (case xk10_KeyError => kit_is)
    (case xk10_LimitExceeded => kit_is)
    (case xk10_LookupError => kit_is)
    (case xk10_NotACrowd => kit_is)
    (case xk10_NotRight => kit_is)
    (case xk10_NothingToUndo => kit_is)
    (case xk10_OverflowError => kit_is)
    (case xk10_RuntimeError => kit_is)
    (case xk10_UnknownName => kit_is)
    (case xk10_ValueError => kit_is)
    (case xcs2_ => first | k_is | rfl | decide +kernel)
    (case xcc2 => k_is)
    (case xmr2 => k_is)
    (case xk2_DownError => kit_is)
    (case xk2_Exception => kit_is)
    (case xk2_InvalidCommand => kit_is)
    (case xk2_InvalidDevice => kit_is)
    (case xk2_InvalidEdit => kit_is)
    (case xk2_InvalidItem => kit_is)
    (case xk2_InvalidMove => kit_is)
    (case xk2_InvalidNumber => kit_is)
    (case xk2_InvalidState => kit_is)
    (case xk2_InvalidStep => kit_is)
    (case xk2_InvalidStock => kit_is)
    (case xk2_InvalidText => kit_is)
    (case xk2_KeyError => kit_is)
    (case xk2_LimitExceeded => kit_is)
    (case xk2_LookupError => kit_is)
    (case xk2_NotACrowd => kit_is)
    (case xk2_NotRight => kit_is)
    (case xk2_NothingToUndo => kit_is)
    (case xk2_OverflowError => kit_is)
    (case xk2_RuntimeError => kit_is)
    (case xk2_UnknownName => kit_is)
    (case xk2_ValueError => kit_is)
    (case xcs9_ => first | k_is | rfl | decide +kernel)
    (case xcc9 => k_is)
    (case xmr9 => k_is)
    (case xk9_DownError => kit_is)
    (case xk9_Exception => kit_is)
    (case xk9_InvalidCommand => kit_is)
    (case xk9_InvalidDevice => kit_is)
    (case xk9_InvalidEdit => kit_is)
    (case xk9_InvalidItem => kit_is)
    (case xk9_InvalidMove => kit_is)
    (case xk9_InvalidNumber => kit_is)
    (case xk9_InvalidState => kit_is)
    (case xk9_InvalidStep => kit_is)
    (case xk9_InvalidStock => kit_is)
    (case xk9_InvalidText => kit_is)
    (case xk9_KeyError => kit_is)
    (case xk9_LimitExceeded => kit_is)
    (case xk9_LookupError => kit_is)
    (case xk9_NotACrowd => kit_is)
    (case xk9_NotRight => kit_is)
    (case xk9_NothingToUndo => kit_is)
    (case xk9_OverflowError => kit_is)
    (case xk9_RuntimeError => kit_is)
    (case xk9_UnknownName => kit_is)
    (case xk9_ValueError => kit_is)
    (case xcs1_ => first | k_is | rfl | decide +kernel)
    (case xcc1 => k_is)
    (case xmr1 => k_is)
    (case xk1_DownError => kit_is)
    (case xk1_Exception => kit_is)
    (case xk1_InvalidCommand => kit_is)
    (case xk1_InvalidDevice => kit_is)
    (case xk1_InvalidEdit => kit_is)
    (case xk1_InvalidItem => kit_is)
    (case xk1_InvalidMove => kit_is)
    (case xk1_InvalidNumber => kit_is)
    (case xk1_InvalidState => kit_is)
    (case xk1_InvalidStep => kit_is)
    (case xk1_InvalidStock => kit_is)
    (case xk1_InvalidText => kit_is)
    (case xk1_KeyError => kit_is)
    (case xk1_LimitExceeded => kit_is)
    (case xk1_LookupError => kit_is)
    (case xk1_NotACrowd => kit_is)
    (case xk1_NotRight => kit_is)
    (case xk1_NothingToUndo => kit_is)
    (case xk1_OverflowError => kit_is)
    (case xk1_RuntimeError => kit_is)
    (case xk1_UnknownName => kit_is)
    (case xk1_ValueError => kit_is)
    (case xcs8_ => first | k_is | rfl | decide +kernel)
    (case xcc8 => k_is)
    (case xmr8 => k_is)
    (case xk8_DownError => kit_is)
    (case xk8_Exception => kit_is)
    (case xk8_InvalidCommand => kit_is)
    (case xk8_InvalidDevice => kit_is)
    (case xk8_InvalidEdit => kit_is)
    (case xk8_InvalidItem => kit_is)
    (case xk8_InvalidMove => kit_is)
    (case xk8_InvalidNumber => kit_is)
    (case xk8_InvalidState => kit_is)
    (case xk8_InvalidStep => kit_is)
    (case xk8_InvalidStock => kit_is)
    (case xk8_InvalidText => kit_is)
    (case xk8_KeyError => kit_is)
    (case xk8_LimitExceeded => kit_is)
    (case xk8_LookupError => kit_is)
    (case xk8_NotACrowd => kit_is)
    (case xk8_NotRight => kit_is)
    (case xk8_NothingToUndo => kit_is)
    (case xk8_OverflowError => kit_is)
    (case xk8_RuntimeError => kit_is)
    (case xk8_UnknownName => kit_is)
    (case xk8_ValueError => kit_is)
    (case xcs13_ => first | k_is | rfl | decide +kernel)
    (case xcc13 => k_is)
    (case xmr13 => k_is)
    (case xk13_DownError => kit_is)
    (case xk13_Exception => kit_is)
    (case xk13_InvalidCommand => kit_is)
    (case xk13_InvalidDevice => kit_is)
    (case xk13_InvalidEdit => kit_is)
    (case xk13_InvalidItem => kit_is)
    (case xk13_InvalidMove => kit_is)
    (case xk13_InvalidNumber => kit_is)
    (case xk13_InvalidState => kit_is)
    (case xk13_InvalidStep => kit_is)
    (case xk13_InvalidStock => kit_is)
    (case xk13_InvalidText => kit_is)
    (case xk13_KeyError => kit_is)
    (case xk13_LimitExceeded => kit_is)
    (case xk13_LookupError => kit_is)
    (case xk13_NotACrowd => kit_is)
    (case xk13_NotRight => kit_is)
    (case xk13_NothingToUndo => kit_is)
    (case xk13_OverflowError => kit_is)
    (case xk13_RuntimeError => kit_is)
    (case xk13_UnknownName => kit_is)
    (case xk13_ValueError => kit_is)
    (case xcs11_ => first | k_is | rfl | decide +kernel)
    (case xcc11 => k_is)
    (case xmr11 => k_is)
    (case xk11_DownError => kit_is)
    (case xk11_Exception => kit_is)
    (case xk11_InvalidCommand => kit_is)
    (case xk11_InvalidDevice => kit_is)
    (case xk11_InvalidEdit => kit_is)
    (case xk11_InvalidItem => kit_is)
    (case xk11_InvalidMove => kit_is)
    (case xk11_InvalidNumber => kit_is)
    (case xk11_InvalidState => kit_is)
    (case xk11_InvalidStep => kit_is)
    (case xk11_InvalidStock => kit_is)
    (case xk11_InvalidText => kit_is)
    (case xk11_KeyError => kit_is)
    (case xk11_LimitExceeded => kit_is)
    (case xk11_LookupError => kit_is)
    (case xk11_NotACrowd => kit_is)
    (case xk11_NotRight => kit_is)
    (case xk11_NothingToUndo => kit_is)
    (case xk11_OverflowError => kit_is)
    (case xk11_RuntimeError => kit_is)
    (case xk11_UnknownName => kit_is)
    (case xk11_ValueError => kit_is)
    (case xcs6_ => first | k_is | rfl | decide +kernel)
    (case xcc6 => k_is)
    (case xmr6 => k_is)
    (case xk6_DownError => kit_is)
    (case xk6_Exception => kit_is)
    (case xk6_InvalidCommand => kit_is)
    (case xk6_InvalidDevice => kit_is)
    (case xk6_InvalidEdit => kit_is)
    (case xk6_InvalidItem => kit_is)
    (case xk6_InvalidMove => kit_is)
    (case xk6_InvalidNumber => kit_is)
    (case xk6_InvalidState => kit_is)
    (case xk6_InvalidStep => kit_is)
    (case xk6_InvalidStock => kit_is)
    (case xk6_InvalidText => kit_is)
    (case xk6_KeyError => kit_is)
    (case xk6_LimitExceeded => kit_is)
    (case xk6_LookupError => kit_is)
    (case xk6_NotACrowd => kit_is)
    (case xk6_NotRight => kit_is)
    (case xk6_NothingToUndo => kit_is)
    (case xk6_OverflowError => kit_is)
    (case xk6_RuntimeError => kit_is)
    (case xk6_UnknownName => kit_is)
    (case xk6_ValueError => kit_is)
    (case xcs15_ => first | k_is | rfl | decide +kernel)
    (case xcc15 => k_is)
    (case xmr15 => k_is)
    (case xk15_DownError => kit_is)
    (case xk15_Exception => kit_is)
    (case xk15_InvalidCommand => kit_is)
    (case xk15_InvalidDevice => kit_is)
    (case xk15_InvalidEdit => kit_is)
    (case xk15_InvalidItem => kit_is)
    (case xk15_InvalidMove => kit_is)
    (case xk15_InvalidNumber => kit_is)
    (case xk15_InvalidState => kit_is)
    (case xk15_InvalidStep => kit_is)
    (case xk15_InvalidStock => kit_is)
    (case xk15_InvalidText => kit_is)
    (case xk15_KeyError => kit_is)
    (case xk15_LimitExceeded => kit_is)
    (case xk15_LookupError => kit_is)
    (case xk15_NotACrowd => kit_is)
    (case xk15_NotRight => kit_is)
    (case xk15_NothingToUndo => kit_is)
    (case xk15_OverflowError => kit_is)
    (case xk15_RuntimeError => kit_is)
    (case xk15_UnknownName => kit_is)
    (case xk15_ValueError => kit_is)
    (case xcs16_ => first | k_is | rfl | decide +kernel)
    (case xcc16 => k_is)
    (case xmr16 => k_is)
    (case xk16_DownError => kit_is)
    (case xk16_Exception => kit_is)
    (case xk16_InvalidCommand => kit_is)
    (case xk16_InvalidDevice => kit_is)
    (case xk16_InvalidEdit => kit_is)
    (case xk16_InvalidItem => kit_is)
    (case xk16_InvalidMove => kit_is)
    (case xk16_InvalidNumber => kit_is)
    (case xk16_InvalidState => kit_is)
    (case xk16_InvalidStep => kit_is)
    (case xk16_InvalidStock => kit_is)
    (case xk16_InvalidText => kit_is)
    (case xk16_KeyError => kit_is)
    (case xk16_LimitExceeded => kit_is)
    (case xk16_LookupError => kit_is)
    (case xk16_NotACrowd => kit_is)
    (case xk16_NotRight => kit_is)
    (case xk16_NothingToUndo => kit_is)
    (case xk16_OverflowError => kit_is)
    (case xk16_RuntimeError => kit_is)
    (case xk16_UnknownName => kit_is)
    (case xk16_ValueError => kit_is)
    (case xcs3_ => first | k_is | rfl | decide +kernel)
    (case xcc3 => k_is)
    (case xmr3 => k_is)
    (case xk3_DownError => kit_is)
    (case xk3_Exception => kit_is)
    (case xk3_InvalidCommand => kit_is)
    (case xk3_InvalidDevice => kit_is)
    (case xk3_InvalidEdit => kit_is)
    (case xk3_InvalidItem => kit_is)
    (case xk3_InvalidMove => kit_is)
    (case xk3_InvalidNumber => kit_is)
    (case xk3_InvalidState => kit_is)
    (case xk3_InvalidStep => kit_is)
    (case xk3_InvalidStock => kit_is)
    (case xk3_InvalidText => kit_is)
    (case xk3_KeyError => kit_is)
    (case xk3_LimitExceeded => kit_is)
    (case xk3_LookupError => kit_is)
    (case xk3_NotACrowd => kit_is)
    (case xk3_NotRight => kit_is)
    (case xk3_NothingToUndo => kit_is)
    (case xk3_OverflowError => kit_is)
    (case xk3_RuntimeError => kit_is)
    (case xk3_UnknownName => kit_is)
    (case xk3_ValueError => kit_is)
    (case opq => k_is)
    (case xm14_14 => first | rfl | k_is | decide +kernel)
    (case xm7_14 => first | rfl | k_is | decide +kernel)
    (case xm12_14 => first | rfl | k_is | decide +kernel)
    (case xm5_14 => first | rfl | k_is | decide +kernel)
    (case xm10_14 => first | rfl | k_is | decide +kernel)
    (case xm2_14 => first | rfl | k_is | decide +kernel)
    (case xm9_14 => first | rfl | k_is | decide +kernel)
    (case xm1_14 => first | rfl | k_is | decide +kernel)
    (case xm8_14 => first | rfl | k_is | decide +kernel)
    (case xm13_14 => first | rfl | k_is | decide +kernel)
    (case xm11_14 => first | rfl | k_is | decide +kernel)
    (case xm6_14 => first | rfl | k_is | decide +kernel)
    (case xm15_14 => first | rfl | k_is | decide +kernel)
    (case xm16_14 => first | rfl | k_is | decide +kernel)
    (case xm3_14 => first | rfl | k_is | decide +kernel)
    (case xm14_7 => first | rfl | k_is | decide +kernel)
    (case xm7_7 => first | rfl | k_is | decide +kernel)
    (case xm12_7 => first | rfl | k_is | decide +kernel)
    (case xm5_7 => first | rfl | k_is | decide +kernel)
    (case xm10_7 => first | rfl | k_is | decide +kernel)
    (case xm2_7 => first | rfl | k_is | decide +kernel)
    (case xm9_7 => first | rfl | k_is | decide +kernel)
    (case xm1_7 => first | rfl | k_is | decide +kernel)
    (case xm8_7 => first | rfl | k_is | decide +kernel)
    (case xm13_7 => first | rfl | k_is | decide +kernel)
    (case xm11_7 => first | rfl | k_is | decide +kernel)
    (case xm6_7 => first | rfl | k_is | decide +kernel)
    (case xm15_7 => first | rfl | k_is | decide +kernel)
    (case xm16_7 => first | rfl | k_is | decide +kernel)
    (case xm3_7 => first | rfl | k_is | decide +kernel)
    (case xm14_12 => first | rfl | k_is | decide +kernel)
    (case xm7_12 => first | rfl | k_is | decide +kernel)
    (case xm12_12 => first | rfl | k_is | decide +kernel)
    (case xm5_12 => first | rfl | k_is | decide +kernel)
    (case xm10_12 => first | rfl | k_is | decide +kernel)
    (case xm2_12 => first | rfl | k_is | decide +kernel)
    (case xm9_12 => first | rfl | k_is | decide +kernel)
    (case xm1_12 => first | rfl | k_is | decide +kernel)
    (case xm8_12 => first | rfl | k_is | decide +kernel)
    (case xm13_12 => first | rfl | k_is | decide +kernel)
    (case xm11_12 => first | rfl | k_is | decide +kernel)
    (case xm6_12 => first | rfl | k_is | decide +kernel)
    (case xm15_12 => first | rfl | k_is | decide +kernel)
    (case xm16_12 => first | rfl | k_is | decide +kernel)
    (case xm3_12 => first | rfl | k_is | decide +kernel)
    (case xm14_5 => first | rfl | k_is | decide +kernel)
    (case xm7_5 => first | rfl | k_is | decide +kernel)
    (case xm12_5 => first | rfl | k_is | decide +kernel)
    (case xm5_5 => first | rfl | k_is | decide +kernel)
    (case xm10_5 => first | rfl | k_is | decide +kernel)
    (case xm2_5 => first | rfl | k_is | decide +kernel)
    (case xm9_5 => first | rfl | k_is | decide +kernel)
    (case xm1_5 => first | rfl | k_is | decide +kernel)
    (case xm8_5 => first | rfl | k_is | decide +kernel)
    (case xm13_5 => first | rfl | k_is | decide +kernel)
    (case xm11_5 => first | rfl | k_is | decide +kernel)
    (case xm6_5 => first | rfl | k_is | decide +kernel)
    (case xm15_5 => first | rfl | k_is | decide +kernel)
    (case xm16_5 => first | rfl | k_is | decide +kernel)
    (case xm3_5 => first | rfl | k_is | decide +kernel)
    (case xm14_10 => first | rfl | k_is | decide +kernel)
    (case xm7_10 => first | rfl | k_is | decide +kernel)
    (case xm12_10 => first | rfl | k_is | decide +kernel)
    (case xm5_10 => first | rfl | k_is | decide +kernel)
    (case xm10_10 => first | rfl | k_is | decide +kernel)
    (case xm2_10 => first | rfl | k_is | decide +kernel)
    (case xm9_10 => first | rfl | k_is | decide +kernel)
    (case xm1_10 => first | rfl | k_is | decide +kernel)
    (case xm8_10 => first | rfl | k_is | decide +kernel)
    (case xm13_10 => first | rfl | k_is | decide +kernel)
    (case xm11_10 => first | rfl | k_is | decide +kernel)
    (case xm6_10 => first | rfl | k_is | decide +kernel)
    (case xm15_10 => first | rfl | k_is | decide +kernel)
    (case xm16_10 => first | rfl | k_is | decide +kernel)
    (case xm3_10 => first | rfl | k_is | decide +kernel)
    (case xm14_2 => first | rfl | k_is | decide +kernel)
    (case xm7_2 => first | rfl | k_is | decide +kernel)
    (case xm12_2 => first | rfl | k_is | decide +kernel)
    (case xm5_2 => first | rfl | k_is | decide +kernel)
    (case xm10_2 => first | rfl | k_is | decide +kernel)
    (case xm2_2 => first | rfl | k_is | decide +kernel)
    (case xm9_2 => first | rfl | k_is | decide +kernel)
    (case xm1_2 => first | rfl | k_is | decide +kernel)
    (case xm8_2 => first | rfl | k_is | decide +kernel)
    (case xm13_2 => first | rfl | k_is | decide +kernel)
    (case xm11_2 => first | rfl | k_is | decide +kernel)
    (case xm6_2 => first | rfl | k_is | decide +kernel)
    (case xm15_2 => first | rfl | k_is | decide +kernel)
    (case xm16_2 => first | rfl | k_is | decide +kernel)
    (case xm3_2 => first | rfl | k_is | decide +kernel)
    (case xm14_9 => first | rfl | k_is | decide +kernel)
    (case xm7_9 => first | rfl | k_is | decide +kernel)
    (case xm12_9 => first | rfl | k_is | decide +kernel)
    (case xm5_9 => first | rfl | k_is | decide +kernel)
    (case xm10_9 => first | rfl | k_is | decide +kernel)
    (case xm2_9 => first | rfl | k_is | decide +kernel)
    (case xm9_9 => first | rfl | k_is | decide +kernel)
    (case xm1_9 => first | rfl | k_is | decide +kernel)
    (case xm8_9 => first | rfl | k_is | decide +kernel)
    (case xm13_9 => first | rfl | k_is | decide +kernel)
    (case xm11_9 => first | rfl | k_is | decide +kernel)
    (case xm6_9 => first | rfl | k_is | decide +kernel)
    (case xm15_9 => first | rfl | k_is | decide +kernel)
    (case xm16_9 => first | rfl | k_is | decide +kernel)
    (case xm3_9 => first | rfl | k_is | decide +kernel)
    (case xm14_1 => first | rfl | k_is | decide +kernel)
    (case xm7_1 => first | rfl | k_is | decide +kernel)
    (case xm12_1 => first | rfl | k_is | decide +kernel)
    (case xm5_1 => first | rfl | k_is | decide +kernel)
    (case xm10_1 => first | rfl | k_is | decide +kernel)
    (case xm2_1 => first | rfl | k_is | decide +kernel)
    (case xm9_1 => first | rfl | k_is | decide +kernel)
    (case xm1_1 => first | rfl | k_is | decide +kernel)
    (case xm8_1 => first | rfl | k_is | decide +kernel)
    (case xm13_1 => first | rfl | k_is | decide +kernel)
    (case xm11_1 => first | rfl | k_is | decide +kernel)
    (case xm6_1 => first | rfl | k_is | decide +kernel)
    (case xm15_1 => first | rfl | k_is | decide +kernel)
    (case xm16_1 => first | rfl | k_is | decide +kernel)
    (case xm3_1 => first | rfl | k_is | decide +kernel)
    (case xm14_8 => first | rfl | k_is | decide +kernel)
    (case xm7_8 => first | rfl | k_is | decide +kernel)
    (case xm12_8 => first | rfl | k_is | decide +kernel)
    (case xm5_8 => first | rfl | k_is | decide +kernel)
    (case xm10_8 => first | rfl | k_is | decide +kernel)
    (case xm2_8 => first | rfl | k_is | decide +kernel)
    (case xm9_8 => first | rfl | k_is | decide +kernel)
    (case xm1_8 => first | rfl | k_is | decide +kernel)
    (case xm8_8 => first | rfl | k_is | decide +kernel)
    (case xm13_8 => first | rfl | k_is | decide +kernel)
    (case xm11_8 => first | rfl | k_is | decide +kernel)
    (case xm6_8 => first | rfl | k_is | decide +kernel)
    (case xm15_8 => first | rfl | k_is | decide +kernel)
    (case xm16_8 => first | rfl | k_is | decide +kernel)
    (case xm3_8 => first | rfl | k_is | decide +kernel)
    (case xm14_13 => first | rfl | k_is | decide +kernel)
    (case xm7_13 => first | rfl | k_is | decide +kernel)
    (case xm12_13 => first | rfl | k_is | decide +kernel)
    (case xm5_13 => first | rfl | k_is | decide +kernel)
    (case xm10_13 => first | rfl | k_is | decide +kernel)
    (case xm2_13 => first | rfl | k_is | decide +kernel)
    (case xm9_13 => first | rfl | k_is | decide +kernel)
    (case xm1_13 => first | rfl | k_is | decide +kernel)
    (case xm8_13 => first | rfl | k_is | decide +kernel)
    (case xm13_13 => first | rfl | k_is | decide +kernel)
    (case xm11_13 => first | rfl | k_is | decide +kernel)
    (case xm6_13 => first | rfl | k_is | decide +kernel)
    (case xm15_13 => first | rfl | k_is | decide +kernel)
    (case xm16_13 => first | rfl | k_is | decide +kernel)
    (case xm3_13 => first | rfl | k_is | decide +kernel)
    (case xm14_11 => first | rfl | k_is | decide +kernel)
    (case xm7_11 => first | rfl | k_is | decide +kernel)
    (case xm12_11 => first | rfl | k_is | decide +kernel)
    (case xm5_11 => first | rfl | k_is | decide +kernel)
    (case xm10_11 => first | rfl | k_is | decide +kernel)
    (case xm2_11 => first | rfl | k_is | decide +kernel)
    (case xm9_11 => first | rfl | k_is | decide +kernel)
    (case xm1_11 => first | rfl | k_is | decide +kernel)
    (case xm8_11 => first | rfl | k_is | decide +kernel)
    (case xm13_11 => first | rfl | k_is | decide +kernel)
    (case xm11_11 => first | rfl | k_is | decide +kernel)
    (case xm6_11 => first | rfl | k_is | decide +kernel)
    (case xm15_11 => first | rfl | k_is | decide +kernel)
    (case xm16_11 => first | rfl | k_is | decide +kernel)
    (case xm3_11 => first | rfl | k_is | decide +kernel)
    (case xm14_6 => first | rfl | k_is | decide +kernel)
    (case xm7_6 => first | rfl | k_is | decide +kernel)
    (case xm12_6 => first | rfl | k_is | decide +kernel)
    (case xm5_6 => first | rfl | k_is | decide +kernel)
    (case xm10_6 => first | rfl | k_is | decide +kernel)
    (case xm2_6 => first | rfl | k_is | decide +kernel)
    (case xm9_6 => first | rfl | k_is | decide +kernel)
    (case xm1_6 => first | rfl | k_is | decide +kernel)
    (case xm8_6 => first | rfl | k_is | decide +kernel)
    (case xm13_6 => first | rfl | k_is | decide +kernel)
    (case xm11_6 => first | rfl | k_is | decide +kernel)
    (case xm6_6 => first | rfl | k_is | decide +kernel)
    (case xm15_6 => first | rfl | k_is | decide +kernel)
    (case xm16_6 => first | rfl | k_is | decide +kernel)
    (case xm3_6 => first | rfl | k_is | decide +kernel)
    (case xm14_15 => first | rfl | k_is | decide +kernel)
    (case xm7_15 => first | rfl | k_is | decide +kernel)
    (case xm12_15 => first | rfl | k_is | decide +kernel)
    (case xm5_15 => first | rfl | k_is | decide +kernel)
    (case xm10_15 => first | rfl | k_is | decide +kernel)
    (case xm2_15 => first | rfl | k_is | decide +kernel)
    (case xm9_15 => first | rfl | k_is | decide +kernel)
    (case xm1_15 => first | rfl | k_is | decide +kernel)
    (case xm8_15 => first | rfl | k_is | decide +kernel)
    (case xm13_15 => first | rfl | k_is | decide +kernel)
    (case xm11_15 => first | rfl | k_is | decide +kernel)
    (case xm6_15 => first | rfl | k_is | decide +kernel)
    (case xm15_15 => first | rfl | k_is | decide +kernel)
    (case xm16_15 => first | rfl | k_is | decide +kernel)
    (case xm3_15 => first | rfl | k_is | decide +kernel)
    (case xm14_16 => first | rfl | k_is | decide +kernel)
    (case xm7_16 => first | rfl | k_is | decide +kernel)
    (case xm12_16 => first | rfl | k_is | decide +kernel)
    (case xm5_16 => first | rfl | k_is | decide +kernel)
    (case xm10_16 => first | rfl | k_is | decide +kernel)
    (case xm2_16 => first | rfl | k_is | decide +kernel)
    (case xm9_16 => first | rfl | k_is | decide +kernel)
    (case xm1_16 => first | rfl | k_is | decide +kernel)
    (case xm8_16 => first | rfl | k_is | decide +kernel)
    (case xm13_16 => first | rfl | k_is | decide +kernel)
    (case xm11_16 => first | rfl | k_is | decide +kernel)
    (case xm6_16 => first | rfl | k_is | decide +kernel)
    (case xm15_16 => first | rfl | k_is | decide +kernel)
    (case xm16_16 => first | rfl | k_is | decide +kernel)
    (case xm3_16 => first | rfl | k_is | decide +kernel)
    (case xm14_3 => first | rfl | k_is | decide +kernel)
    (case xm7_3 => first | rfl | k_is | decide +kernel)
    (case xm12_3 => first | rfl | k_is | decide +kernel)
    (case xm5_3 => first | rfl | k_is | decide +kernel)
    (case xm10_3 => first | rfl | k_is | decide +kernel)
    (case xm2_3 => first | rfl | k_is | decide +kernel)
    (case xm9_3 => first | rfl | k_is | decide +kernel)
    (case xm1_3 => first | rfl | k_is | decide +kernel)
    (case xm8_3 => first | rfl | k_is | decide +kernel)
    (case xm13_3 => first | rfl | k_is | decide +kernel)
    (case xm11_3 => first | rfl | k_is | decide +kernel)
    (case xm6_3 => first | rfl | k_is | decide +kernel)
    (case xm15_3 => first | rfl | k_is | decide +kernel)
    (case xm16_3 => first | rfl | k_is | decide +kernel)
    (case xm3_3 => first | rfl | k_is | decide +kernel)
