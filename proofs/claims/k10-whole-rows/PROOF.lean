import PyProof.Rows.All
import Wide.All
import OpenK.AllK
import Wide.FinOn
import HandS.ForMost
import HandS.ForExc
import HandS.Evl
import KE.DataEq
import KE.DataIsa
import KE.DataAny
import KE.DatumIndex
import HandS.Flow
import HandS.Wide
import HandS.TupAny
import HandS.Style
import HandS.Star
import HandS.IsInst
import HandS.CallSlots
import HandS.ExcField
import HandS.TryMany
import PyProof.ReprRoads
import KE.GoesNew
import HandS.NoneIn
import KE.KExcSuper
import KE.KExcInit
import HandS.ExcSuper
import HandS.ExcInit
import KE.KOpsOwn
import HandS.Ends
import HandS.Words
import HandS.Strs
import HandS.Set
import PyProof.Rows.SortShellAny
import HandS.More
import HandS.ClsMeth
import HandS.Codes
import KE.KExcLine
import KE.RegKIsAll
import PySem.Challenge.RW_takendown_k10_whole_rows
set_option Elab.async false
set_option linter.all false
set_option maxRecDepth 100000
set_option maxHeartbeats 2000000
/-! TD, part A: Python data as trees, live objects, how both stand in the abstract heap. -/
namespace TD
open PySem L2
/-- data: never changed any more -/
inductive D where
  | non | bl (b : Bool) | int (i : Int) | str (x : Str)
  | tup (xs : List D) | lst (xs : List D) | dic (kvs : List (D × D)) | obj (c : Nat) (fs : List (Str × D))
/-- a value: data, or a live object by its number -/
inductive Vl where
  | d (x : D) | loc (n : Nat)
/-- a live object -/
inductive MO where
  | lst (xs : List D) | dic (kvs : List (D × D)) | ins (c : Nat) (fs : List (Str × Vl)) | frz (x : D) | scr (xs : List D)
abbrev Mem := List MO
/-- an exception: its class, its fields -/
structure Xc where
  cls : Nat
  fs : List (Str × D)
inductive Res (α : Type) where
  | ok (a : α) | ex (x : Xc)
abbrev EM (α : Type) := Mem → Option (Res α × Mem)
def EM.pure {α : Type} (a : α) : EM α := fun M => some (.ok a, M)
def EM.bind {α β : Type} (m : EM α) (k : α → EM β) : EM β := fun M =>
  match m M with
  | none => none
  | some (.ok a, M1) => k a M1
  | some (.ex x, M1) => some (.ex x, M1)
instance : Monad EM where
  pure := EM.pure
  bind := EM.bind
def EM.fail {α : Type} : EM α := fun _ => none
def EM.ofO {α : Type} (o : Option α) : EM α := fun M => o.map fun a => (.ok a, M)

/-- what is known of the text: its written part, where the classes stand -/
structure GG where
  K : PySem.W.Frag
  cl : Nat → Addr
  fa : Nat → Addr
def keyD : Key → D
  | .inl i => .int i
  | .inr x => .str x
mutual
inductive Rep (G : GG) (F : Hp) : V → D → Prop
  | non : Rep G F .non .non
  | bl (b : Bool) : Rep G F (.bl b) (.bl b)
  | int (i : Int) : Rep G F (.int i) (.int i)
  | str (x : Str) : Rep G F (.str x) (.str x)
  | tup {a : Addr} {vs : List V} {xs : List D} : SqT G.K F a vs → Reps G F vs xs → Rep G F (.ref a) (.tup xs)
  | lst {a : Addr} {vs : List V} {xs : List D} : F a = some (.lst vs) → Reps G F vs xs → Rep G F (.ref a) (.lst xs)
  | obj {a dx : Addr} {c : Nat} {fs' : List (Str × V)} {fs : List (Str × D)} : F a = some (.ins (G.cl c) dx fs') → RepF G F fs' fs → Rep G F (.ref a) (.obj c fs)
  | dic {a : Addr} {ks : List (Key × V)} {kvs : List (D × D)} : F a = some (.dK ks) → RepK G F ks kvs → Rep G F (.ref a) (.dic kvs)
inductive Reps (G : GG) (F : Hp) : List V → List D → Prop
  | nil : Reps G F [] []
  | cons {v : V} {vs : List V} {d : D} {ds : List D} : Rep G F v d → Reps G F vs ds → Reps G F (v :: vs) (d :: ds)
inductive RepF (G : GG) (F : Hp) : List (Str × V) → List (Str × D) → Prop
  | nil : RepF G F [] []
  | cons {n : Str} {v : V} {vs : List (Str × V)} {d : D} {ds : List (Str × D)} : Rep G F v d → RepF G F vs ds → RepF G F ((n, v) :: vs) ((n, d) :: ds)
inductive RepK (G : GG) (F : Hp) : List (Key × V) → List (D × D) → Prop
  | nil : RepK G F [] []
  | cons {k : Key} {v : V} {vs : List (Key × V)} {d : D} {ds : List (D × D)} : Rep G F v d → RepK G F vs ds → RepK G F ((k, v) :: vs) ((keyD k, d) :: ds)
end
abbrev Ex := Evl.Ex
section
variable {G : GG} {F F' H : Hp}
mutual
theorem Rep.mono (e : Ex F F') : ∀ {v : V} {d : D}, Rep G F v d → Rep G F' v d
  | _, _, .non => .non
  | _, _, .bl b => .bl b
  | _, _, .int i => .int i
  | _, _, .str x => .str x
  | _, _, .tup h r => .tup (Evl.ex_t e h) (Reps.mono e r)
  | _, _, .lst h r => .lst (e _ _ h) (Reps.mono e r)
  | _, _, .obj h r => .obj (e _ _ h) (RepF.mono e r)
  | _, _, .dic h r => .dic (e _ _ h) (RepK.mono e r)
theorem Reps.mono (e : Ex F F') : ∀ {v : List V} {d : List D}, Reps G F v d → Reps G F' v d
  | _, _, .nil => .nil
  | _, _, .cons h r => .cons (Rep.mono e h) (Reps.mono e r)
theorem RepF.mono (e : Ex F F') : ∀ {v : List (Str × V)} {d : List (Str × D)}, RepF G F v d → RepF G F' v d
  | _, _, .nil => .nil
  | _, _, .cons h r => .cons (Rep.mono e h) (RepF.mono e r)
theorem RepK.mono (e : Ex F F') : ∀ {v : List (Key × V)} {d : List (D × D)}, RepK G F v d → RepK G F' v d
  | _, _, .nil => .nil
  | _, _, .cons h r => .cons (Rep.mono e h) (RepK.mono e r)
end
theorem Reps.length : ∀ {vs : List V} {ds : List D}, Reps G F vs ds → vs.length = ds.length
  | _, _, .nil => rfl
  | _, _, .cons _ r => congrArg (· + 1) r.length
theorem Reps.append : ∀ {vs ws : List V} {ds es : List D}, Reps G F vs ds → Reps G F ws es → Reps G F (vs ++ ws) (ds ++ es)
  | _, _, _, _, .nil, s => s
  | _, _, _, _, .cons h r, s => .cons h (Reps.append r s)
theorem Reps.get : ∀ {vs : List V} {ds : List D} {i : Nat} {d : D}, Reps G F vs ds → ds[i]? = some d → ∃ v, vs[i]? = some v ∧ Rep G F v d
  | _, _, _, _, .nil, e => by simp at e
  | _, _, 0, _, .cons h _, e => by simp at e; subst e; exact ⟨_, rfl, h⟩
  | _, _, i + 1, d, .cons _ t, e => by
    obtain ⟨u, h1, h2⟩ := Reps.get (i := i) (d := d) t (by simpa using e)
    exact ⟨u, by simpa using h1, h2⟩
theorem Reps.getV : ∀ {vs : List V} {ds : List D} {i : Nat} {v : V}, Reps G F vs ds → vs[i]? = some v → ∃ d, ds[i]? = some d ∧ Rep G F v d
  | _, _, _, _, .nil, e => by simp at e
  | _, _, 0, _, .cons h _, e => by simp at e; subst e; exact ⟨_, rfl, h⟩
  | _, _, i + 1, d, .cons _ t, e => by
    obtain ⟨u, h1, h2⟩ := Reps.getV (i := i) (v := d) t (by simpa using e)
    exact ⟨u, by simpa using h1, h2⟩
theorem Reps.take : ∀ {vs : List V} {ds : List D} (n : Nat), Reps G F vs ds → Reps G F (vs.take n) (ds.take n)
  | _, _, 0, _ => .nil
  | _, _, _ + 1, .nil => .nil
  | _, _, n + 1, .cons r t => .cons r (Reps.take n t)
theorem Reps.drop : ∀ {vs : List V} {ds : List D} (n : Nat), Reps G F vs ds → Reps G F (vs.drop n) (ds.drop n)
  | _, _, 0, r => r
  | _, _, _ + 1, .nil => .nil
  | _, _, n + 1, .cons _ t => Reps.drop n t
theorem Reps.set {v : V} {d : D} (h : Rep G F v d) : ∀ {vs : List V} {ds : List D} (n : Nat), Reps G F vs ds → Reps G F (vs.set n v) (ds.set n d)
  | _, _, _, .nil => .nil
  | _, _, 0, .cons _ t => .cons h t
  | _, _, n + 1, .cons r t => .cons r (Reps.set h n t)
theorem Reps.reverse : ∀ {vs : List V} {ds : List D}, Reps G F vs ds → Reps G F vs.reverse ds.reverse
  | _, _, .nil => .nil
  | _, _, .cons r t => by
    rw [List.reverse_cons, List.reverse_cons]
    exact Reps.append (Reps.reverse t) (.cons r .nil)
theorem RepF.lookup {n : Str} {d : D} : ∀ {vs : List (Str × V)} {ds : List (Str × D)}, RepF G F vs ds → ds.lookup n = some d → ∃ v, vs.lookup n = some v ∧ Rep G F v d
  | _, _, .nil, e => by simp at e
  | _, _, .cons (n := k) h r, e => by
    rw [List.lookup_cons] at e ⊢
    by_cases q : (n == k) = true
    · rw [q] at e ⊢
      cases e
      exact ⟨_, rfl, h⟩
    · rw [Bool.not_eq_true] at q
      rw [q] at e ⊢
      exact RepF.lookup r e
theorem RepF.lookup_none {n : Str} : ∀ {vs : List (Str × V)} {ds : List (Str × D)}, RepF G F vs ds → ds.lookup n = none → vs.lookup n = none
  | _, _, .nil, _ => rfl
  | _, _, .cons (n := k) h r, e => by
    rw [List.lookup_cons] at e ⊢
    by_cases q : (n == k) = true
    · rw [q] at e
      cases e
    · rw [Bool.not_eq_true] at q
      rw [q] at e ⊢
      exact RepF.lookup_none r e
theorem RepK.length : ∀ {vs : List (Key × V)} {ds : List (D × D)}, RepK G F vs ds → vs.length = ds.length
  | _, _, .nil => rfl
  | _, _, .cons _ r => congrArg (· + 1) r.length
theorem RepF.length : ∀ {vs : List (Str × V)} {ds : List (Str × D)}, RepF G F vs ds → vs.length = ds.length
  | _, _, .nil => rfl
  | _, _, .cons _ r => congrArg (· + 1) r.length
end

/-! ### values and live objects -/
def RepL (G : GG) (F : Hp) (as : List Addr) (x : V) : Vl → Prop
  | .d d => Rep G F x d
  | .loc n => ∃ a, as[n]? = some a ∧ x = .ref a
inductive RepLs (G : GG) (F : Hp) (as : List Addr) : List V → List Vl → Prop
  | nil : RepLs G F as [] []
  | cons {v : V} {vs : List V} {d : Vl} {ds : List Vl} : RepL G F as v d → RepLs G F as vs ds → RepLs G F as (v :: vs) (d :: ds)
inductive RepLF (G : GG) (F : Hp) (as : List Addr) : List (Str × V) → List (Str × Vl) → Prop
  | nil : RepLF G F as [] []
  | cons {n : Str} {v : V} {vs : List (Str × V)} {d : Vl} {ds : List (Str × Vl)} : RepL G F as v d → RepLF G F as vs ds → RepLF G F as ((n, v) :: vs) ((n, d) :: ds)
def MoOk (G : GG) (F : Hp) (as : List Addr) (H : Hp) (a : Addr) : MO → Prop
  | .lst ds => F a = none ∧ ∃ vs, H a = some (.lst vs) ∧ Reps G F vs ds
  | .dic kvs => F a = none ∧ ∃ ks, H a = some (.dK ks) ∧ RepK G F ks kvs
  | .ins c fs => F a = none ∧ ∃ dx fs', H a = some (.ins (G.cl c) dx fs') ∧ RepLF G F as fs' fs
  | .frz d => (∃ o, F a = some o) ∧ Rep G F (.ref a) d
  | .scr ds => F a = none ∧ ∃ o vs, H a = some (.frz o (.lst vs)) ∧ Reps G F vs ds
structure Good (G : GG) (Z F : Hp) (as : List Addr) (M : Mem) (H : Hp) : Prop where
  sub : Ex F H
  len : as.length = M.length
  nd : as.Nodup
  ok : ∀ (n : Nat) (a : Addr) (mo : MO), as[n]? = some a → M[n]? = some mo → MoOk G F as H a mo
  zh : Ex Z H
  zf : ∀ a o, Z a = some o → F a = none
  za : ∀ a o, Z a = some o → a ∉ as
structure Up (F : Hp) (as : List Addr) (F' : Hp) (as' : List Addr) : Prop where
  ex : Ex F F'
  pre : as <+: as'
theorem Up.refl {F : Hp} {as : List Addr} : Up F as F as := ⟨Evl.Ex.refl _, List.prefix_refl _⟩
theorem Up.trans {F F1 F2 : Hp} {as as1 as2 : List Addr} (a : Up F as F1 as1) (b : Up F1 as1 F2 as2) : Up F as F2 as2 := ⟨a.ex.trans b.ex, a.pre.trans b.pre⟩
theorem pre_get {as as' : List Addr} (h : as <+: as') {n : Nat} {a : Addr} (e : as[n]? = some a) : as'[n]? = some a := by
  obtain ⟨t, rfl⟩ := h
  rw [List.getElem?_append_left (List.getElem?_eq_some_iff.mp e).1]
  exact e
section
variable {G : GG} {Z F F' H H' : Hp} {as as' : List Addr} {M : Mem} {x : V} {v : Vl}
theorem RepL.mono (u : Up F as F' as') : RepL G F as x v → RepL G F' as' x v := by
  cases v with
  | d d => exact fun h => Rep.mono u.ex h
  | loc n => exact fun ⟨a, e, q⟩ => ⟨a, pre_get u.pre e, q⟩
theorem RepLs.mono (u : Up F as F' as') : ∀ {vs : List V} {ds : List Vl}, RepLs G F as vs ds → RepLs G F' as' vs ds
  | _, _, .nil => .nil
  | _, _, .cons h r => .cons (h.mono u) (r.mono u)
theorem RepLF.mono (u : Up F as F' as') : ∀ {vs : List (Str × V)} {ds : List (Str × Vl)}, RepLF G F as vs ds → RepLF G F' as' vs ds
  | _, _, .nil => .nil
  | _, _, .cons h r => .cons (h.mono u) (r.mono u)
theorem RepLs.length : ∀ {vs : List V} {ds : List Vl}, RepLs G F as vs ds → vs.length = ds.length
  | _, _, .nil => rfl
  | _, _, .cons _ r => congrArg (· + 1) r.length
theorem Good.hlive (g : Good G Z F as M H) {n : Nat} {a : Addr} (e : as[n]? = some a) : ∃ o, H a = some o := by
  have hn : n < M.length := by
    rw [← g.len]
    exact (List.getElem?_eq_some_iff.mp e).1
  have := g.ok n a _ e (List.getElem?_eq_getElem hn)
  cases q : M[n] with
  | lst ds => rw [q] at this; obtain ⟨_, vs, h, _⟩ := this; exact ⟨_, h⟩
  | dic ds => rw [q] at this; obtain ⟨_, vs, h, _⟩ := this; exact ⟨_, h⟩
  | ins c ds => rw [q] at this; obtain ⟨_, _, vs, h, _⟩ := this; exact ⟨_, h⟩
  | frz ds => rw [q] at this; obtain ⟨⟨o, h⟩, _⟩ := this; exact ⟨o, g.sub _ _ h⟩
  | scr ds => rw [q] at this; obtain ⟨_, _, vs, h, _⟩ := this; exact ⟨_, h⟩
theorem Good.notIn (g : Good G Z F as M H) {p : Addr} (hp : H p = none) : p ∉ as := fun h => by
  obtain ⟨n, hn⟩ := List.getElem?_of_mem h
  obtain ⟨o, ho⟩ := g.hlive hn
  rw [hp] at ho
  cases ho
theorem Good.noF (g : Good G Z F as M H) {p : Addr} (hp : H p = none) : F p = none := by
  cases q : F p with
  | none => rfl
  | some o =>
    rw [g.sub _ _ q] at hp
    cases hp
/-- a new piece of data is laid -/
theorem Good.lay (g : Good G Z F as M H) {p : Addr} {o : HO} (hp : H p = none) : Good G Z (upd F p o) as M (upd H p o) ∧ Up F as (upd F p o) as := by
  have eF : Ex F (upd F p o) := Evl.Ex.new (g.noF hp)
  have zp : ∀ a u, Z a = some u → a ≠ p := fun a u h => ne_of_none (g.zh _ _ h) hp
  refine ⟨⟨fun a u h => ?_, g.len, g.nd, fun n a mo e1 e2 => ?_, g.zh.trans (Evl.Ex.new hp), fun a u h => by rw [upd_ne (zp a u h)]; exact g.zf a u h, g.za⟩, eF, List.prefix_refl _⟩
  · by_cases q : a = p
    · subst q
      rw [upd_same] at h ⊢
      exact h
    · rw [upd_ne q] at h ⊢
      exact g.sub _ _ h
  · obtain ⟨o1, h1⟩ := g.hlive e1
    have ne : a ≠ p := ne_of_none h1 hp
    have := g.ok n a mo e1 e2
    cases mo with
    | lst ds => obtain ⟨f, vs, h, r⟩ := this; exact ⟨by rw [upd_ne ne]; exact f, vs, by rw [upd_ne ne]; exact h, r.mono eF⟩
    | dic ds => obtain ⟨f, vs, h, r⟩ := this; exact ⟨by rw [upd_ne ne]; exact f, vs, by rw [upd_ne ne]; exact h, r.mono eF⟩
    | scr ds => obtain ⟨f, o9, vs, h, r⟩ := this; exact ⟨by rw [upd_ne ne]; exact f, o9, vs, by rw [upd_ne ne]; exact h, r.mono eF⟩
    | ins c ds => obtain ⟨f, dx, vs, h, r⟩ := this; exact ⟨by rw [upd_ne ne]; exact f, dx, vs, by rw [upd_ne ne]; exact h, r.mono ⟨eF, List.prefix_refl _⟩⟩
    | frz d => obtain ⟨⟨o2, f⟩, r⟩ := this; exact ⟨⟨o2, by rw [upd_ne ne]; exact f⟩, r.mono eF⟩
/-- what is tracked elsewhere may come -/
theorem Good.heap (g : Good G Z F as M H) (e : Ex H H') : Good G Z F as M H' := by
  refine ⟨g.sub.trans e, g.len, g.nd, fun n a mo e1 e2 => ?_, g.zh.trans e, g.zf, g.za⟩
  have := g.ok n a mo e1 e2
  cases mo with
  | lst ds => obtain ⟨f, vs, h, r⟩ := this; exact ⟨f, vs, e _ _ h, r⟩
  | dic ds => obtain ⟨f, vs, h, r⟩ := this; exact ⟨f, vs, e _ _ h, r⟩
  | scr ds => obtain ⟨f, o9, vs, h, r⟩ := this; exact ⟨f, o9, vs, e _ _ h, r⟩
  | ins c ds => obtain ⟨f, dx, vs, h, r⟩ := this; exact ⟨f, dx, vs, e _ _ h, r⟩
  | frz d => exact this
/-- a live object is laid -/
theorem Good.born (g : Good G Z F as M H) {p : Addr} {o : HO} {mo : MO} (hp : H p = none) (hm : ∀ as', as <+: as' → MoOk G F as' (upd H p o) p mo) :
    Good G Z F (as ++ [p]) (M ++ [mo]) (upd H p o) ∧ Up F as F (as ++ [p]) := by
  have pre : as <+: as ++ [p] := List.prefix_append _ _
  have zp : ∀ a u, Z a = some u → a ≠ p := fun a u h => ne_of_none (g.zh _ _ h) hp
  refine ⟨⟨g.sub.trans (Evl.Ex.new hp), by simp [g.len], ?_, fun n a m1 e1 e2 => ?_, g.zh.trans (Evl.Ex.new hp), g.zf, fun a u h hm => by
    rcases List.mem_append.mp hm with hm | hm
    · exact g.za a u h hm
    · exact zp a u h (List.mem_singleton.mp hm)⟩, Evl.Ex.refl _, pre⟩
  · rw [List.nodup_append]
    refine ⟨g.nd, by simp, fun x hx y hy => ?_⟩
    rw [List.mem_singleton] at hy
    subst hy
    intro e
    subst e
    exact g.notIn hp hx
  · by_cases hn : n < as.length
    · rw [List.getElem?_append_left hn] at e1
      rw [List.getElem?_append_left (by rw [← g.len]; exact hn)] at e2
      obtain ⟨o1, h1⟩ := g.hlive e1
      have ne : a ≠ p := ne_of_none h1 hp
      have := g.ok n a m1 e1 e2
      cases m1 with
      | lst ds => obtain ⟨f, vs, h, r⟩ := this; exact ⟨f, vs, by rw [upd_ne ne]; exact h, r⟩
      | dic ds => obtain ⟨f, vs, h, r⟩ := this; exact ⟨f, vs, by rw [upd_ne ne]; exact h, r⟩
      | scr ds => obtain ⟨f, o9, vs, h, r⟩ := this; exact ⟨f, o9, vs, by rw [upd_ne ne]; exact h, r⟩
      | ins c ds => obtain ⟨f, dx, vs, h, r⟩ := this; exact ⟨f, dx, vs, by rw [upd_ne ne]; exact h, r.mono ⟨Evl.Ex.refl _, pre⟩⟩
      | frz d => exact this
    · have hl : n = as.length := by
        have := (List.getElem?_eq_some_iff.mp e1).1
        simp at this
        omega
      subst hl
      rw [List.getElem?_append_right (Nat.le_refl _)] at e1
      rw [g.len, List.getElem?_append_right (Nat.le_refl _)] at e2
      simp at e1 e2
      subst e1
      subst e2
      exact hm _ pre
/-- a live object is changed -/
theorem Good.write (g : Good G Z F as M H) {n : Nat} {p : Addr} {o : HO} {mo : MO} (e : as[n]? = some p) (hf : F p = none) (hm : MoOk G F as (upd H p o) p mo) : Good G Z F as (M.set n mo) (upd H p o) := by
  have hnl : n < as.length := (List.getElem?_eq_some_iff.mp e).1
  have zp : ∀ a u, Z a = some u → a ≠ p := fun a u h q => g.za a u h (by rw [q]; exact List.mem_of_getElem? e)
  refine ⟨fun a u h => ?_, by simp [g.len], g.nd, fun k a m1 e1 e2 => ?_, fun a u h => by rw [upd_ne (zp a u h)]; exact g.zh a u h, g.zf, g.za⟩
  · rw [upd_ne (ne_of_none h hf)]
    exact g.sub _ _ h
  · by_cases hk : k = n
    · subst hk
      rw [e] at e1
      cases e1
      rw [List.getElem?_set_self (by rw [← g.len]; exact hnl)] at e2
      cases e2
      exact hm
    · rw [List.getElem?_set_ne (Ne.symm hk)] at e2
      have ne : a ≠ p := fun q => by
        subst q
        exact hk ((List.getElem?_inj (List.getElem?_eq_some_iff.mp e1).1 g.nd).mp (e1.trans e.symm))
      have := g.ok k a m1 e1 e2
      cases m1 with
      | lst ds => obtain ⟨f, vs, h, r⟩ := this; exact ⟨f, vs, by rw [upd_ne ne]; exact h, r⟩
      | dic ds => obtain ⟨f, vs, h, r⟩ := this; exact ⟨f, vs, by rw [upd_ne ne]; exact h, r⟩
      | scr ds => obtain ⟨f, o9, vs, h, r⟩ := this; exact ⟨f, o9, vs, by rw [upd_ne ne]; exact h, r⟩
      | ins c ds => obtain ⟨f, dx, vs, h, r⟩ := this; exact ⟨f, dx, vs, by rw [upd_ne ne]; exact h, r⟩
      | frz d => exact this
/-- a live object is frozen: from now on it is data -/
theorem Good.freeze (g : Good G Z F as M H) {n : Nat} {p : Addr} {o : HO} {d : D} (e : as[n]? = some p) (hf : F p = none) (ho : H p = some o) (hd : Rep G (upd F p o) (.ref p) d) :
    Good G Z (upd F p o) as (M.set n (.frz d)) H ∧ Up F as (upd F p o) as := by
  have hnl : n < as.length := (List.getElem?_eq_some_iff.mp e).1
  have eF : Ex F (upd F p o) := Evl.Ex.new hf
  have zp : ∀ a u, Z a = some u → a ≠ p := fun a u h q => g.za a u h (by rw [q]; exact List.mem_of_getElem? e)
  refine ⟨⟨fun a u h => ?_, by simp [g.len], g.nd, fun k a m1 e1 e2 => ?_, g.zh, fun a u h => by rw [upd_ne (zp a u h)]; exact g.zf a u h, g.za⟩, eF, List.prefix_refl _⟩
  · by_cases q : a = p
    · subst q
      rw [upd_same] at h
      rw [← h]
      exact ho
    · rw [upd_ne q] at h
      exact g.sub _ _ h
  · by_cases hk : k = n
    · subst hk
      rw [e] at e1
      cases e1
      rw [List.getElem?_set_self (by rw [← g.len]; exact hnl)] at e2
      cases e2
      exact ⟨⟨o, upd_same⟩, hd⟩
    · rw [List.getElem?_set_ne (Ne.symm hk)] at e2
      have ne : a ≠ p := fun q => by
        subst q
        exact hk ((List.getElem?_inj (List.getElem?_eq_some_iff.mp e1).1 g.nd).mp (e1.trans e.symm))
      have := g.ok k a m1 e1 e2
      cases m1 with
      | lst ds => obtain ⟨f, vs, h, r⟩ := this; exact ⟨by rw [upd_ne ne]; exact f, vs, h, r.mono eF⟩
      | dic ds => obtain ⟨f, vs, h, r⟩ := this; exact ⟨by rw [upd_ne ne]; exact f, vs, h, r.mono eF⟩
      | scr ds => obtain ⟨f, o9, vs, h, r⟩ := this; exact ⟨by rw [upd_ne ne]; exact f, o9, vs, h, r.mono eF⟩
      | ins c ds => obtain ⟨f, dx, vs, h, r⟩ := this; exact ⟨by rw [upd_ne ne]; exact f, dx, vs, h, r.mono ⟨eF, List.prefix_refl _⟩⟩
      | frz d => obtain ⟨⟨o2, f⟩, r⟩ := this; exact ⟨⟨o2, by rw [upd_ne ne]; exact f⟩, r.mono eF⟩
/-- an object that nobody here knows is held aside, changed, taken in -/
theorem Good.aside (g : Good G Z F as M H) {p : Addr} {o : HO} (hp : H p = none) : Good G (upd Z p o) F as M (upd H p o) := by
  have g2 := g.heap (H' := upd H p o) (Evl.Ex.new hp)
  refine ⟨g2.sub, g2.len, g2.nd, g2.ok, fun a u h => ?_, fun a u h => ?_, fun a u h => ?_⟩
  · by_cases q : a = p
    · subst q
      rw [upd_same] at h ⊢
      exact h
    · rw [upd_ne q] at h ⊢
      exact g.zh a u h
  · by_cases q : a = p
    · subst q
      exact g.noF hp
    · rw [upd_ne q] at h
      exact g.zf a u h
  · by_cases q : a = p
    · subst q
      exact g.notIn hp
    · rw [upd_ne q] at h
      exact g.za a u h
theorem Good.turn (g : Good G Z F as M H) {p : Addr} {o u : HO} (hp : Z p = some o) : Good G (upd Z p u) F as M (upd H p u) := by
  have fp := g.zf p o hp
  have ap := g.za p o hp
  have ne : ∀ {n : Nat} {a : Addr}, as[n]? = some a → a ≠ p := fun e q => ap (by rw [← q]; exact List.mem_of_getElem? e)
  refine ⟨fun a v h => ?_, g.len, g.nd, fun n a mo e1 e2 => ?_, fun a v h => ?_, fun a v h => ?_, fun a v h => ?_⟩
  · rw [upd_ne (ne_of_none h fp)]
    exact g.sub a v h
  · have hn := ne e1
    have := g.ok n a mo e1 e2
    cases mo with
    | lst ds => obtain ⟨f, vs, h, r⟩ := this; exact ⟨f, vs, by rw [upd_ne hn]; exact h, r⟩
    | dic ds => obtain ⟨f, vs, h, r⟩ := this; exact ⟨f, vs, by rw [upd_ne hn]; exact h, r⟩
    | scr ds => obtain ⟨f, o9, vs, h, r⟩ := this; exact ⟨f, o9, vs, by rw [upd_ne hn]; exact h, r⟩
    | ins c ds => obtain ⟨f, dx, vs, h, r⟩ := this; exact ⟨f, dx, vs, by rw [upd_ne hn]; exact h, r⟩
    | frz d => exact this
  · by_cases q : a = p
    · subst q
      rw [upd_same] at h ⊢
      exact h
    · rw [upd_ne q] at h ⊢
      exact g.zh a v h
  · by_cases q : a = p
    · subst q
      exact fp
    · rw [upd_ne q] at h
      exact g.zf a v h
  · by_cases q : a = p
    · subst q
      exact ap
    · rw [upd_ne q] at h
      exact g.za a v h
theorem Good.adopt {Z0 : Hp} (g : Good G Z F as M H) {p : Addr} {o : HO} (hp : Z p = some o) (hz : ∀ a u, Z0 a = some u → Z a = some u ∧ a ≠ p) : Good G Z0 (upd F p o) as M H ∧ Up F as (upd F p o) as := by
  have fp := g.zf p o hp
  have ap := g.za p o hp
  have eF : Ex F (upd F p o) := Evl.Ex.new fp
  have ne : ∀ {n : Nat} {a : Addr}, as[n]? = some a → a ≠ p := fun e q => ap (by rw [← q]; exact List.mem_of_getElem? e)
  refine ⟨⟨fun a v h => ?_, g.len, g.nd, fun n a mo e1 e2 => ?_, fun a v h => g.zh _ _ (hz a v h).1, fun a v h => by rw [upd_ne (hz a v h).2]; exact g.zf _ _ (hz a v h).1, fun a v h => g.za _ _ (hz a v h).1⟩, eF, List.prefix_refl _⟩
  · by_cases q : a = p
    · subst q
      rw [upd_same] at h
      rw [← h]
      exact g.zh _ _ hp
    · rw [upd_ne q] at h
      exact g.sub a v h
  · have hn := ne e1
    have := g.ok n a mo e1 e2
    cases mo with
    | lst ds => obtain ⟨f, vs, h, r⟩ := this; exact ⟨by rw [upd_ne hn]; exact f, vs, h, r.mono eF⟩
    | dic ds => obtain ⟨f, vs, h, r⟩ := this; exact ⟨by rw [upd_ne hn]; exact f, vs, h, r.mono eF⟩
    | scr ds => obtain ⟨f, o9, vs, h, r⟩ := this; exact ⟨by rw [upd_ne hn]; exact f, o9, vs, h, r.mono eF⟩
    | ins c ds => obtain ⟨f, dx, vs, h, r⟩ := this; exact ⟨by rw [upd_ne hn]; exact f, dx, vs, h, r.mono ⟨eF, List.prefix_refl _⟩⟩
    | frz d => obtain ⟨⟨o2, f⟩, r⟩ := this; exact ⟨⟨o2, by rw [upd_ne hn]; exact f⟩, r.mono eF⟩
/-- less is held aside -/
theorem Good.less {Z0 : Hp} (g : Good G Z F as M H) (e : Ex Z0 Z) : Good G Z0 F as M H :=
  ⟨g.sub, g.len, g.nd, g.ok, e.trans g.zh, fun a o h => g.zf a o (e a o h), fun a o h => g.za a o (e a o h)⟩
end
end TD
set_option Elab.async false
set_option linter.all false
set_option maxRecDepth 100000
set_option maxHeartbeats 2000000
/-! TD, part B: a small code language and what it computes. -/
namespace TD
open PySem L2
inductive Ty where
  | int | bool | str | tuple | list | dict | cls (c : Nat)
/-- built-in functions by name -/
inductive BI where
  | len | all | max2 | int | tuple | list | repr | sortedSet | sum | lenSet | min2
/-- methods of built-in types -/
inductive BM where
  | append | extend
inductive Fi where
  | fn (f : Nat) | mk (c : Nat) | low (f : Nat)
mutual
/-- a target -/
inductive CG where
  | name (i : Nat) | tup (gs : CGs)
inductive CGs where
  | nil | cons (g : CG) (r : CGs)
end
mutual
inductive CE where
  | var (i : Nat)
  | con (d : D)
  | glb (d : D)
  | tup (es : CL) | lst (es : CL) | new (es : CL)
  | bin (op : Operator) (a b : CE)
  | neg (a : CE)
  | cmp (op : CmpOp) (a b : CE)
  | chn (op op' : CmpOp) (a b c : CE)
  | and (a b : CE) | or (a b : CE) | not (a : CE)
  | ite (c : CT) (a b : CE)
  | call (f : Fi) (es : CL)
  | blt (b : BI) (es : CL)
  | isi (a : CE) (t : Ty)
  | met (m : Str) (o : CE) (es : CL)
  | smet (f : Nat) (es : CL)
  | fld (o : CE) (f : Str)
  | ix (a i : CE) | sl (a : CE) (lo hi : CO)
  | lc (g : CG) (it : CI) (t : CTs) (e : CE) (own : List Nat)
  | obin (a b : CE) | rev (a : CE)
  | xf (f : Str)
  | olen (a : CE) | oix (a i : CE) | oin (neg : Bool) (a b : CE) | oeq (a b : CE)
  | kin (neg : Bool) (a : CE) (n : Nat) (kvs : List (Str × D)) | kix (n : Nat) (kvs : List (Str × D)) (a : CE)
inductive CL where
  | nil | cons (e : CE) (r : CL) | star (e : CE) (r : CL)
inductive CO where
  | none | some (e : CE)
inductive CT where
  | val (e : CE) | tst (e : CE) | and (a b : CT) | or (a b : CT) | not (a : CT)
inductive CTs where
  | nil | one (t : CT)
inductive CI where
  | seq (e : CE) | rng (e : CE) | enm (e : CE) | chars (e : CE)
end
mutual
inductive CS where
  | pass | expr (e : CE) | ret (e : CE) | retN | set (g : CG) (e : CE)
  | par (is : List Nat) (es : CL)
  | fld (o : CE) (f : Str) (e : CE)
  | sub (o i e : CE)
  | mut (m : BM) (o : CE) (es : CL)
  | ife (c : CT) (a b : CSs)
  | fors (g : CG) (it : CI) (b : CSs)
  | raise (c : Nat) (es : CL)
  | tryx (b : CSs) (hs : CHs)
  | brk | cnt
inductive CSs where
  | nil | cons (s : CS) (r : CSs)
inductive CHs where
  | nil | cons (c : Nat) (i : Nat) (b : CSs) (r : CHs)
end

/-! ### data -/
mutual
def eqD : D → D → Bool
  | .non, .non => true
  | .bl a, .bl b => a == b
  | .bl a, .int j => (if a then 1 else 0) == j
  | .int i, .bl b => i == (if b then 1 else 0)
  | .int i, .int j => i == j
  | .str x, .str y => decide (x = y)
  | .tup xs, .tup ys => eqDs xs ys
  | .lst xs, .lst ys => eqDs xs ys
  | _, _ => false
def eqDs : List D → List D → Bool
  | [], [] => true
  | x :: xs, y :: ys => eqD x y && eqDs xs ys
  | _, _ => false
end
mutual
/-- a nest of at most n of tuples and lists, no dict, no object -/
def flat : Nat → D → Bool
  | _, .non => true
  | _, .bl _ => true
  | _, .int _ => true
  | _, .str _ => true
  | n + 1, .tup xs => flats n xs
  | n + 1, .lst xs => flats n xs
  | _, _ => false
def flats : Nat → List D → Bool
  | _, [] => true
  | n, x :: xs => flat n x && flats n xs
end
abbrev okEq (d : D) : Bool := flat 20 d
def szOk (n : Nat) : Bool := decide (n ≤ 16777216)
def truD : D → Option Bool
  | .non => some false
  | .bl b => some b
  | .int i => some (i != 0)
  | .str x => if szOk x.length then some ((x.length : Int) != 0) else none
  | .tup xs => some (!xs.isEmpty)
  | .lst xs => some (!xs.isEmpty)
  | _ => none
def isiD (sub : Nat → Nat → Bool) : Ty → D → Bool
  | .int, .int _ => true
  | .int, .bl _ => true
  | .bool, .bl _ => true
  | .str, .str _ => true
  | .tuple, .tup _ => true
  | .list, .lst _ => true
  | .dict, .dic _ => true
  | .cls c, .obj k _ => sub k c
  | _, _ => false
def mulOk (i j : Int) : Bool := (decide (-(2 ^ 64) < i) && decide (i < 2 ^ 64)) || (decide (-(2 ^ 64) < j) && decide (j < 2 ^ 64))
def binD : Operator → D → D → Option D
  | .Add, .int i, .int j => some (.int (i + j))
  | .Add, .str x, .str y => if szOk (x.length + y.length) then some (.str (x ++ y)) else none
  | .Add, .tup xs, .tup ys => if szOk (xs.length + ys.length) then some (.tup (xs ++ ys)) else none
  | .Add, .lst xs, .lst ys => if szOk (xs.length + ys.length) then some (.lst (xs ++ ys)) else none
  | .Sub, .int i, .int j => some (.int (i - j))
  | .Mult, .int i, .int j => if mulOk i j then some (.int (i * j)) else none
  | .Mult, .lst xs, .int j => if decide (-(2 ^ 62) ≤ j) && decide (j < 2 ^ 62) && szOk (xs.length * j.toNat) then some (.lst (List.replicate j.toNat xs).flatten) else none
  | .Mult, .str x, .int j => if decide (0 ≤ j) && decide (j < 1000) && decide (x.length ≤ 1000) then some (.str ⟨(List.replicate j.toNat x.cps.toList).flatten.toArray⟩) else none
  | .FloorDiv, .int i, .int j => if decide (0 < j) && decide (j < 2 ^ 1000) then some (.int (i / j)) else none
  | .Mod, .int i, .int j => if decide (0 < j) then some (.int (i % j)) else none
  | .Pow, .int i, .int j => if decide (0 ≤ j) && decide (j ≤ 64) && decide (-(2 ^ 64) < i) && decide (i < 2 ^ 64) then some (.int (i ^ j.toNat)) else none
  | _, _, _ => none
def anyEq (x : D) : List D → Bool
  | [] => false
  | y :: ys => eqD y x || anyEq x ys
def allOk : List D → Bool
  | [] => true
  | y :: ys => okEq y && allOk ys
def strLt (x y : Str) : Bool := decide (x.cps.toList < y.cps.toList)
def inD (x : D) : D → Option Bool
  | .tup ys => if okEq x && allOk ys then some (anyEq x ys) else none
  | .lst ys => if okEq x && allOk ys then some (anyEq x ys) else none
  | .str y => match x with
    | .str z => match z.cps.toList with
      | [c] => some (decide (c ∈ y.cps.toList))
      | _ => none
    | _ => none
  | _ => none
def cmpD : CmpOp → D → D → Option Bool
  | .Eq, a, b => if okEq a && okEq b then some (eqD a b) else none
  | .NotEq, a, b => if okEq a && okEq b then some (!eqD a b) else none
  | .Lt, .int i, .int j => some (decide (i < j))
  | .LtE, .int i, .int j => some (decide (i ≤ j))
  | .Gt, .int i, .int j => some (decide (j < i))
  | .GtE, .int i, .int j => some (decide (j ≤ i))
  | .Lt, .str x, .str y => some (strLt x y)
  | .Is, a, .non => some (match a with | .non => true | _ => false)
  | .IsNot, a, .non => some (match a with | .non => false | _ => true)
  | .In, a, b => inD a b
  | .NotIn, a, b => (inD a b).map (! ·)
  | _, _, _ => none
def negD : D → Option D
  | .int i => some (.int (-i))
  | _ => none
/-- the place of an index -/
def ixD : D → D → Option D
  | .tup xs, .int i => atI xs i
  | .lst xs, .int i => atI xs i
  | .str x, .int i => if szOk x.length then (atI x.cps.toList i).map fun c => .str ⟨#[c]⟩ else none
  | _, _ => none
/-- a constant dict with text keys: is the key there, its value -/
def kget (kvs : List (Str × D)) (x : D) : Option (Option D) :=
  match x with
  | .str z => some (kvs.lookup z)
  | _ => none
def slD (a : D) (lo hi : Option Int) : Option D :=
  match a with
  | .tup xs => some (.tup ((xs.drop (HT.sIx xs.length 0 lo)).take (HT.sIx xs.length xs.length hi - HT.sIx xs.length 0 lo)))
  | .lst xs => some (.lst ((xs.drop (HT.sIx xs.length 0 lo)).take (HT.sIx xs.length xs.length hi - HT.sIx xs.length 0 lo)))
  | _ => none

/-! ### live objects -/
def fsD : List (Str × Vl) → Option (List (Str × D))
  | [] => some []
  | (n, .d x) :: r => (fsD r).map ((n, x) :: ·)
  | (_, .loc _) :: _ => none
def freeze (n : Nat) : EM D := fun M =>
  match M[n]? with
  | some (.lst xs) => some (.ok (.lst xs), M.set n (.frz (.lst xs)))
  | some (.dic kvs) => some (.ok (.dic kvs), M.set n (.frz (.dic kvs)))
  | some (.frz d) => some (.ok d, M)
  | some (.ins c fs) => match fsD fs with
    | some fs' => some (.ok (.obj c fs'), M.set n (.frz (.obj c fs')))
    | none => none
  | _ => none
def toD : Vl → EM D
  | .d x => EM.pure x
  | .loc n => freeze n
def toDs : List Vl → EM (List D)
  | [] => EM.pure []
  | v :: r => EM.bind (toD v) fun d => EM.bind (toDs r) fun ds => EM.pure (d :: ds)
/-- what a value looks like, without freezing it -/
def peek (v : Vl) : EM D := fun M =>
  match v with
  | .d x => some (.ok x, M)
  | .loc n => match M[n]? with
    | some (.lst xs) => some (.ok (.lst xs), M)
    | some (.dic kvs) => some (.ok (.dic kvs), M)
    | some (.frz d) => some (.ok d, M)
    | _ => none
/-- .. the script, too -/
def peekW (v : Vl) : EM D := fun M =>
  match v with
  | .d x => some (.ok x, M)
  | .loc n => match M[n]? with
    | some (.lst xs) => some (.ok (.lst xs), M)
    | some (.dic kvs) => some (.ok (.dic kvs), M)
    | some (.frz d) => some (.ok d, M)
    | some (.scr xs) => some (.ok (.lst xs), M)
    | _ => none
/-- an object: its class, one of its fields -/
def look (f : Str) (v : Vl) (M : Mem) : Option (Nat × Option Vl) :=
  match v with
  | .d (.obj c fs) => some (c, (fs.lookup f).map .d)
  | .loc n => match M[n]? with
    | some (.ins c fs) => some (c, fs.lookup f)
    | some (.frz (.obj c fs)) => some (c, (fs.lookup f).map .d)
    | _ => none
  | _ => none
def putL (f : Str) (v : Vl) : List (Str × Vl) → List (Str × Vl)
  | [] => [(f, v)]
  | (g, u) :: r => if g = f then (g, v) :: r else (g, u) :: putL f v r
/-- the slots, and the exception at hand in a handler -/
structure Env where
  s : List (Option Vl)
  x : Option Xc
def Env.set (e : Env) (i : Nat) (v : Vl) : Env := ⟨e.s.set i (some v), none⟩
/-- slots forgotten -/
def wipeS (l : List (Option Vl)) : List Nat → List (Option Vl)
  | [] => l
  | v :: vs => (wipeS l vs).set v none
def Env.wipe (e : Env) (vs : List Nat) : Env := ⟨wipeS e.s vs, none⟩
abbrev Cl := Fi → List Vl → EM Vl
/-- static facts: subclasses, methods by class and name, fields -/
structure Tab where
  /-- exceptions -/
  sub : Nat → Nat → Bool
  /-- other classes -/
  isb : Nat → Nat → Bool
  met : Nat → Str → Option Nat
  fld : Nat → Str → Bool
  /-- fields of exceptions -/
  xfl : Nat → Str → Bool
def fieldOf (T : Tab) (f : Str) (v : Vl) : EM Vl := fun M =>
  match look f v M with
  | some (c, some u) => if T.fld c f then some (.ok u, M) else none
  | _ => none
def metOf (T : Tab) (m : Str) (v : Vl) (M : Mem) : Option Nat :=
  match look m v M with
  | some (c, none) => T.met c m
  | _ => none
def metE (T : Tab) (m : Str) (v : Vl) : EM Nat := fun M =>
  match metOf T m v M with
  | some f => some (.ok f, M)
  | none => none
def setField (T : Tab) (f : Str) (v o : Vl) : EM Unit := fun M =>
  match o with
  | .loc n => match M[n]? with
    | some (.ins c fs) => if T.fld c f && decide (fs.length < 1000) then some (.ok (), M.set n (.ins c (putL f v fs))) else none
    | _ => none
  | _ => none

def getV (e : Env) (i : Nat) : EM Vl := fun M =>
  match e.s[i]? with
  | some (some v) => some (.ok v, M)
  | _ => none
def EM.o {α : Type} (o : Option α) : EM α := fun M =>
  match o with
  | some a => some (.ok a, M)
  | none => none
def items : D → Option (List D)
  | .tup xs => some xs
  | .lst xs => some xs
  | _ => none
def allBl : List D → Option Bool
  | [] => some true
  | .bl b :: r => (allBl r).map (b && ·)
  | _ => none
def sumI : List D → Option Int
  | [] => some 0
  | .int b :: r => (sumI r).map (b + ·)
  | _ => none
def lenD : List D → Option D
  | [.str x] => if szOk x.length then some (.int x.length) else none
  | [.tup xs] => some (.int xs.length)
  | [.lst xs] => some (.int xs.length)
  | [.dic xs] => some (.int xs.length)
  | _ => none
def maxD : List D → Option D
  | [.int i, .int j] => some (.int (if j > i then j else i))
  | _ => none
def minD : List D → Option D
  | [.int i, .int j] => some (.int (if j < i then j else i))
  | _ => none
def intD : List D → Option D
  | [.int i] => some (.int i)
  | [.bl b] => some (.int (if b then 1 else 0))
  | _ => none
def tupleD : List D → Option D
  | [.lst xs] => some (.tup xs)
  | [.tup xs] => some (.tup xs)
  | _ => none
def listD : List D → Option D
  | [.tup xs] => some (.lst xs)
  | [.lst xs] => some (.lst xs)
  | _ => none
def allD : List D → Option D
  | [.lst xs] => (allBl xs).map .bl
  | _ => none
def sumD : List D → Option D
  | [.lst xs] => (sumI xs).map .int
  | _ => none
/-- texts by their code points -/
def ltN : List Nat → List Nat → Bool
  | [], [] => false
  | [], _ :: _ => true
  | _ :: _, [] => false
  | a :: r, b :: t => decide (a < b) || (a == b && ltN r t)
def insN (k : Str) : List Str → List Str
  | [] => [k]
  | x :: r => if k = x then x :: r else if ltN k.cps.toList x.cps.toList then k :: x :: r else x :: insN k r
/-- the texts of a list, each once, ascending -/
def sortN (xs : List Str) : List Str := xs.foldr insN []
def strsD : List D → Option (List Str)
  | [] => some []
  | .str x :: r => (strsD r).map (x :: ·)
  | _ => none
def ssD : List D → Option D
  | [.lst xs] => (strsD xs).bind fun ss => if ss.length < 4000 then some (.lst ((sortN ss).map .str)) else none
  | _ => none
def reprD (rp : D → Option Str) : List D → Option D
  | [d] => (rp d).map .str
  | _ => none
def bltD (rp : D → Option Str) (b : BI) (ds : List D) : Option D :=
  match b with
  | .len => lenD ds
  | .max2 => maxD ds
  | .min2 => minD ds
  | .int => intD ds
  | .tuple => tupleD ds
  | .list => listD ds
  | .all => allD ds
  | .sum => sumD ds
  | .repr => reprD rp ds
  | .sortedSet => ssD ds
  | .lenSet => none
mutual
def asg : CG → D → Env → Option Env
  | .name i, d, e => some (e.set i (.d d))
  | .tup gs, .tup xs, e => asgs gs xs e
  | .tup gs, .lst xs, e => asgs gs xs e
  | _, _, _ => none
def asgs : CGs → List D → Env → Option Env
  | .nil, [], e => some e
  | .cons g r, x :: xs, e => (asg g x e).bind fun e' => asgs r xs e'
  | _, _, _ => none
end
def zipEnum : Nat → List D → List D
  | _, [] => []
  | n, x :: xs => .tup [.int n, x] :: zipEnum (n + 1) xs
def rngGo : Nat → Int → List D
  | 0, _ => []
  | n + 1, i => .int i :: rngGo n (i + 1)
/-- an exception is not looked for here -/
def noEx {α : Type} (m : EM α) : EM α := fun M =>
  match m M with
  | some (.ok a, M1) => some (.ok a, M1)
  | _ => none
def lcGo (f : D → EM (Option D)) : List D → EM (List D)
  | [] => EM.pure []
  | x :: xs => EM.bind (noEx (f x)) fun o => EM.bind (lcGo f xs) fun ys => EM.pure (match o with | some y => y :: ys | none => ys)

/-! ### code -/
section
variable (T : Tab) (rp : D → Option Str) (cl : Cl)
def mkTup (ds : List D) : EM Vl := EM.o (if szOk ds.length then some (.d (.tup ds)) else none)
def mkLst (ds : List D) : EM Vl := EM.o (if szOk ds.length then some (.d (.lst ds)) else none)
def mkNew (ds : List D) : EM Vl := fun M => if szOk ds.length then some (.ok (.loc M.length), M ++ [.lst ds]) else none
def boolOf : Vl → EM Bool
  | .d (.bl b) => EM.pure b
  | _ => EM.fail
def intOf : Vl → EM Int
  | .d (.int b) => EM.pure b
  | _ => EM.fail
def isiO (t : Ty) (d : D) : Option Bool :=
  match d with
  | .obj c fs => if T.isb c c then some (isiD T.isb t (.obj c fs)) else none
  | d => some (isiD T.isb t d)
def shape (v : Vl) (M : Mem) : Option D :=
  match v with
  | .d x => some x
  | .loc n => match M[n]? with
    | some (.lst xs) => some (.lst xs)
    | some (.scr xs) => some (.lst xs)
    | some (.dic xs) => some (.dic xs)
    | some (.frz d) => some d
    | some (.ins c _) => some (.obj c [])
    | none => none
def isiV (t : Ty) (v : Vl) : EM Vl := fun M =>
  match (shape v M).bind (isiO T t) with
  | some b => some (.ok (.d (.bl b)), M)
  | none => none
def peeks : List Vl → EM (List D)
  | [] => EM.pure []
  | v :: r => EM.bind (peekW v) fun d => EM.bind (peeks r) fun ds => EM.pure (d :: ds)
def opB (op : Operator) (x y : Vl) : EM Vl := EM.bind (peek x) fun dx => EM.bind (peek y) fun dy => EM.o ((binD op dx dy).map .d)
def opC (op : CmpOp) (x y : Vl) : EM Vl := EM.bind (peekW x) fun dx => EM.bind (peekW y) fun dy => EM.o ((cmpD op dx dy).map fun b => .d (.bl b))
def opI (x y : Vl) : EM Vl := EM.bind (peekW x) fun dx => EM.bind (peekW y) fun dy => EM.o ((ixD dx dy).map .d)
def opN (x : Vl) : EM Vl := EM.bind (peek x) fun dx => EM.o ((negD dx).map .d)
def bltV (b : BI) (vs : List Vl) : EM Vl := EM.bind (peeks vs) fun ds => EM.o ((bltD rp b ds).map .d)
def revD : D → Option D
  | .lst xs => some (.lst xs.reverse)
  | _ => none
/-- x + y, one of them an object -/
def obinV (x y : Vl) : EM Vl := fun M =>
  match metOf T "__add__" x M with
  | some f => match shape y M, shape x M with
    | some (.obj c _), some (.obj c' _) => if c = c' && T.isb c c then cl (.fn f) [x, y] M else none
    | some _, some (.obj c' _) => if T.isb c' c' then cl (.fn f) [x, y] M else none
    | _, _ => none
  | none => match metOf T "__radd__" y M, x with
    | some f, .d (.tup _) => cl (.fn f) [y, x] M
    | _, _ => none
/-- len(x) by x's own __len__ -/
def lenOk : Vl → EM Vl
  | .d (.int n) => if decide (0 ≤ n) && decide (n < 2 ^ 63) then EM.pure (.d (.int n)) else EM.fail
  | _ => EM.fail
def olenV (x : Vl) : EM Vl := EM.bind (metE T "__len__" x) fun f => EM.bind (noEx (cl (.low f) [x])) lenOk
/-- x[y] by x's own __getitem__ -/
def oixV (x y : Vl) : EM Vl := EM.bind (metE T "__getitem__" x) fun f => cl (.low f) [x, y]
/-- x in y by y's own __contains__ -/
def oinV (neg : Bool) (x y : Vl) : EM Vl := EM.bind (metE T "__contains__" y) fun f => EM.bind (noEx (cl (.fn f) [y, x])) fun r => EM.bind (boolOf r) fun k => EM.pure (.d (.bl (if neg then !k else k)))
/-- x == y by x's own __eq__ -/
def oeqV (x y : Vl) : EM Vl := fun M =>
  match metOf T "__eq__" x M with
  | some f => match shape y M, shape x M with
    | some (.obj c _), some (.obj c' _) => if c = c' && T.isb c c then noEx (cl (.fn f) [x, y]) M else none
    | some _, some (.obj c' _) => if T.isb c' c' then noEx (cl (.fn f) [x, y]) M else none
    | _, _ => none
  | none => none
mutual
def runE : CE → Env → EM Vl
  | .var i, e => getV e i
  | .con d, _ => EM.pure (.d d)
  | .glb d, _ => EM.pure (.d d)
  | .tup es, e => EM.bind (runL es e) fun vs => EM.bind (toDs vs) mkTup
  | .lst es, e => EM.bind (runL es e) fun vs => EM.bind (toDs vs) mkLst
  | .new es, e => EM.bind (runL es e) fun vs => EM.bind (toDs vs) mkNew
  | .bin op a b, e => EM.bind (runE a e) fun x => EM.bind (runE b e) fun y => opB op x y
  | .neg a, e => EM.bind (runE a e) fun x => opN x
  | .cmp op a b, e => EM.bind (runE a e) fun x => EM.bind (runE b e) fun y => opC op x y
  | .chn op op' a b c, e => EM.bind (runE a e) fun x => EM.bind (runE b e) fun y => EM.bind (opC op x y) fun r => EM.bind (boolOf r) fun k =>
      if k then EM.bind (runE c e) fun z => opC op' y z else EM.pure (.d (.bl false))
  | .and a b, e => EM.bind (runE a e) fun x => EM.bind (boolOf x) fun k => if k then runE b e else EM.pure (.d (.bl false))
  | .or a b, e => EM.bind (runE a e) fun x => EM.bind (boolOf x) fun k => if k then EM.pure (.d (.bl true)) else runE b e
  | .not a, e => EM.bind (runE a e) fun x => EM.bind (boolOf x) fun k => EM.pure (.d (.bl (!k)))
  | .ite c a b, e => EM.bind (runT c e) fun k => if k then runE a e else runE b e
  | .call f es, e => EM.bind (runL es e) fun vs => cl f vs
  | .blt b es, e => EM.bind (runL es e) fun vs => bltV rp b vs
  | .isi a t, e => EM.bind (runE a e) fun x => isiV T t x
  | .met m o es, e => EM.bind (runE o e) fun x => EM.bind (metE T m x) fun f => EM.bind (runL es e) fun vs => cl (.fn f) (x :: vs)
  | .smet f es, e => EM.bind (runL es e) fun vs => cl (.fn f) vs
  | .fld o f, e => EM.bind (runE o e) fun x => fieldOf T f x
  | .ix a i, e => EM.bind (runE a e) fun x => EM.bind (runE i e) fun y => opI x y
  | .sl a lo hi, e => EM.bind (runE a e) fun x => EM.bind (runO lo e) fun l => EM.bind (runO hi e) fun h => EM.bind (peekW x) fun dx => EM.o ((slD dx l h).map .d)
  | .lc g it t c own, e => EM.bind (runI it e) fun xs => EM.bind (lcGo (fun x => match asg g x (e.wipe own) with
      | none => EM.fail
      | some e' => EM.bind (runTs t e') fun k => if k then EM.bind (runE c e') fun v => EM.bind (toD v) fun d => EM.pure (some d) else EM.pure none) xs) mkLst
  | .obin a b, e => EM.bind (runE a e) fun x => EM.bind (runE b e) fun y => obinV T cl x y
  | .rev a, e => EM.bind (runE a e) fun x => EM.bind (peek x) fun d => EM.o ((revD d).map .d)
  | .xf f, e => EM.o ((e.x.bind fun x => if T.xfl x.cls f then x.fs.lookup f else none).map .d)
  | .olen a, e => EM.bind (runE a e) fun x => olenV T cl x
  | .oix a i, e => EM.bind (runE a e) fun x => EM.bind (runE i e) fun y => oixV T cl x y
  | .oin neg a b, e => EM.bind (runE a e) fun x => EM.bind (runE b e) fun y => oinV T cl neg x y
  | .oeq a b, e => EM.bind (runE a e) fun x => EM.bind (runE b e) fun y => oeqV T cl x y
  | .kin neg a _ kvs, e => EM.bind (runE a e) fun x => EM.bind (peek x) fun dx => EM.o ((kget kvs dx).map fun o => .d (.bl (if neg then !o.isSome else o.isSome)))
  | .kix _ kvs a, e => EM.bind (runE a e) fun x => EM.bind (peek x) fun dx => EM.o (((kget kvs dx).bind id).map .d)
def runL : CL → Env → EM (List Vl)
  | .nil, _ => EM.pure []
  | .cons c r, e => EM.bind (runE c e) fun v => EM.bind (runL r e) fun vs => EM.pure (v :: vs)
  | .star c r, e => EM.bind (runE c e) fun v => EM.bind (peek v) fun d => EM.bind (EM.o (items d)) fun xs => EM.bind (runL r e) fun vs => EM.pure (xs.map .d ++ vs)
def runO : CO → Env → EM (Option Int)
  | .none, _ => EM.pure none
  | .some c, e => EM.bind (runE c e) fun v => EM.bind (intOf v) fun i => EM.pure (some i)
def runT : CT → Env → EM Bool
  | .val c, e => EM.bind (runE c e) fun v => EM.bind (peek v) fun d => EM.o (truD d)
  | .tst c, e => EM.bind (runE c e) fun v => boolOf v
  | .and a b, e => EM.bind (runT a e) fun k => if k then runT b e else EM.pure false
  | .or a b, e => EM.bind (runT a e) fun k => if k then EM.pure true else runT b e
  | .not a, e => EM.bind (runT a e) fun k => EM.pure (!k)
def runTs : CTs → Env → EM Bool
  | .nil, _ => EM.pure true
  | .one t, e => runT t e
def runI : CI → Env → EM (List D)
  | .seq c, e => EM.bind (runE c e) fun v => EM.bind (toD v) fun d => EM.o ((items d).bind fun xs => if szOk xs.length then some xs else none)
  | .rng c, e => EM.bind (runE c e) fun v => EM.bind (intOf v) fun i => EM.o (if decide (-(2 ^ 62) ≤ i) && decide (i ≤ 16777216) then some (rngGo i.toNat 0) else none)
  | .enm c, e => EM.bind (runE c e) fun v => EM.bind (toD v) fun d => EM.o ((items d).bind fun xs => if szOk xs.length then some (zipEnum 0 xs) else none)
  | .chars c, e => EM.bind (runE c e) fun v => match v with
      | .d (.str x) => EM.o (if szOk x.length then some (x.cps.toList.map fun c => .str ⟨#[c]⟩) else none)
      | _ => EM.fail
end
end
/-! ### statements -/
inductive Flw where
  | next (e : Env) | ret (v : Vl) | brk (e : Env) | cnt (e : Env) | ex (x : Xc) (e : Env)
abbrev SM := Mem → Option (Flw × Mem)
/-- an expression's value, then a statement -/
def seqE {α : Type} (e : Env) (m : EM α) (k : α → SM) : SM := fun M =>
  match m M with
  | none => none
  | some (.ok a, M1) => k a M1
  | some (.ex x, M1) => some (.ex x e, M1)
def SM.pure (f : Flw) : SM := fun M => some (f, M)
def SM.then (m : SM) (k : Env → SM) : SM := fun M =>
  match m M with
  | none => none
  | some (.next e, M1) => k e M1
  | some (f, M1) => some (f, M1)
/-- one turn's end in a loop -/
def forGo (g : CG) (b : Env → SM) : List D → Env → SM
  | [], e => SM.pure (.next e)
  | x :: xs, e => fun M =>
    match asg g x e with
    | none => none
    | some e1 => match b e1 M with
      | none => none
      | some (.next e2, M2) => forGo g b xs e2 M2
      | some (.cnt e2, M2) => forGo g b xs e2 M2
      | some (.brk e2, M2) => some (.next e2, M2)
      | some (.ret v, M2) => some (.ret v, M2)
      | some (.ex x e2, M2) => some (.ex x e2, M2)
def asgV : CG → Vl → Env → EM Env
  | .name i, v, e => EM.pure (e.set i v)
  | .tup gs, v, e => EM.bind (toD v) fun d => EM.o (asg (.tup gs) d e)
def parS : List Nat → List Vl → Env → Option Env
  | [], [], e => some e
  | i :: is, v :: vs, e => parS is vs (e.set i v)
  | _, _, _ => none
def lstE (x : Vl) : EM Unit := fun M =>
  match peek x M with
  | some (.ok (.lst _), M1) => some (.ok (), M1)
  | _ => none
def mutV (m : BM) (o : Vl) (vs : List Vl) : EM Unit := fun M =>
  match o with
  | .loc n => match M[n]? with
    | some (.lst xs) => match m, vs with
      | .append, [v] => match toD v M with
        | some (.ok d, M1) => match M1[n]? with
          | some (.lst ys) => if ys.length < 16777216 then some (.ok (), M1.set n (.lst (ys ++ [d]))) else none
          | _ => none
        | _ => none
      | .extend, [v] => match peek v M with
        | some (.ok (.lst zs), M1) => if xs.length + zs.length ≤ 16777216 then some (.ok (), M1.set n (.lst (xs ++ zs))) else none
        | _ => none
      | _, _ => none
    | _ => none
  | _ => none
def subV (o i v : Vl) : EM Unit := fun M =>
  match o, i with
  | .loc n, .d (.int k) => match toD v M with
    | some (.ok d, M1) => match M1[n]? with
      | some (.lst ys) => match ixN ys.length k with
        | some j => some (.ok (), M1.set n (.lst (ys.set j d)))
        | none => none
      | _ => none
    | _ => none
  | _, _ => none
/-- the fields of an exception's class, in order -/
structure XTab where
  fs : Nat → Option (List Str)
def mkX (XT : XTab) (c : Nat) (ds : List D) : Option Xc :=
  match XT.fs c with
  | some fs => if fs.length = ds.length then some ⟨c, fs.zip ds⟩ else none
  | none => none
section
variable (T : Tab) (rp : D → Option Str) (XT : XTab) (cl : Cl)
mutual
def runS : CS → Env → SM
  | .pass, e => SM.pure (.next e)
  | .expr c, e => seqE e (runE T rp cl c e) fun _ => SM.pure (.next e)
  | .ret c, e => seqE e (runE T rp cl c e) fun v => SM.pure (.ret v)
  | .retN, _ => SM.pure (.ret (.d .non))
  | .set g c, e => seqE e (EM.bind (runE T rp cl c e) fun v => asgV g v e) fun e' => SM.pure (.next e')
  | .par is es, e => seqE e (EM.bind (runL T rp cl es e) fun vs => EM.o (parS is vs e)) fun e' => SM.pure (.next e')
  | .fld o f c, e => seqE e (EM.bind (runE T rp cl c e) fun v => EM.bind (runE T rp cl o e) fun x => setField T f v x) fun _ => SM.pure (.next e)
  | .sub o i c, e => seqE e (EM.bind (runE T rp cl c e) fun v => EM.bind (runE T rp cl o e) fun x => EM.bind (runE T rp cl i e) fun y => subV x y v) fun _ => SM.pure (.next e)
  | .mut m o es, e => seqE e (EM.bind (runE T rp cl o e) fun x => EM.bind (lstE x) fun _ => EM.bind (runL T rp cl es e) fun vs => mutV m x vs) fun _ => SM.pure (.next e)
  | .ife c a b, e => seqE e (runT T rp cl c e) fun k => if k then runSs a e else runSs b e
  | .fors g it b, e => seqE e (runI T rp cl it e) fun xs => forGo g (fun e' => runSs b e') xs e
  | .raise c es, e => seqE e (EM.bind (runL T rp cl es e) fun vs => EM.bind (toDs vs) fun ds => EM.o (mkX XT c ds)) fun x => SM.pure (.ex x e)
  | .tryx b hs, e => fun M => match runSs b e M with
    | some (.ex x e1, M1) => runH hs x e1 M1
    | r => r
  | .brk, e => SM.pure (.brk e)
  | .cnt, e => SM.pure (.cnt e)
def runSs : CSs → Env → SM
  | .nil, e => SM.pure (.next e)
  | .cons s r, e => SM.then (runS s e) fun e' => runSs r e'
def runH : CHs → Xc → Env → SM
  | .nil, x, e => SM.pure (.ex x e)
  | .cons c i b r, x, e => if (XT.fs x.cls).isSome && decide (i < e.s.length) then if T.sub x.cls c then fun M => match runSs b ⟨e.s.set i none, some x⟩ M with
      | some (.next e1, M1) => some (.next ⟨e1.s.set i none, none⟩, M1)
      | some (.brk e1, M1) => some (.brk ⟨e1.s.set i none, none⟩, M1)
      | some (.cnt e1, M1) => some (.cnt ⟨e1.s.set i none, none⟩, M1)
      | some (.ret v, M1) => some (.ret v, M1)
      | _ => none
    else runH r x e else fun _ => none
end
end
/-! ### calls -/
structure Fn where
  np : Nat
  ns : Nat
  body : CSs
  /-- 0: the result is data, what was made is dropped; 1: a live result is handed out; 2: all that was made stays -/
  mode : Nat
  /-- what is left over of the arguments comes as a tuple behind the first np -/
  star : Bool
structure Cd where
  init : Nat
  /-- its objects never change behind their making -/
  frz : Bool
structure Prg where
  T : Tab
  XT : XTab
  rp : D → Option Str
  fn : Nat → Option Fn
  cd : Nat → Option Cd
def noLoc (b : Nat) : Vl → Bool
  | .d _ => true
  | .loc n => decide (n < b)
def okCut (b : Nat) : Mem → Bool
  | [] => true
  | .ins _ fs :: r => (fs.all fun f => noLoc b f.2) && okCut b r
  | _ :: r => okCut b r
def fin (b mode : Nat) (v : Vl) (M : Mem) : Option (Res Vl × Mem) :=
  if mode = 2 then some (.ok v, M) else
  if okCut b (M.take b) then
    match v with
    | .d x => some (.ok (.d x), M.take b)
    | .loc n => if n < b then some (.ok (.loc n), M.take b) else
      if mode = 1 then match M[n]? with
        | some mo => if okCut b [mo] then some (.ok (.loc b), M.take b ++ [mo]) else none
        | none => none
      else match freeze n M with
        | some (.ok d, M1) => some (.ok (.d d), M1.take b)
        | _ => none
  else none
def bindF (F : Fn) (vs : List Vl) : EM (List Vl) :=
  if F.star then
    if F.np ≤ vs.length then EM.bind (toDs (vs.drop F.np)) fun ds => if szOk ds.length then EM.pure (vs.take F.np ++ [.d (.tup ds)]) else EM.fail
    else EM.fail
  else if vs.length = F.np then EM.pure vs else EM.fail
def endF (b mode : Nat) : Option (Flw × Mem) → Option (Res Vl × Mem)
  | some (.next _, M) => fin b mode (.d .non) M
  | some (.ret v, M) => fin b mode v M
  | some (.ex x _, M) => if okCut b (M.take b) then some (.ex x, M.take b) else none
  | _ => none
def callN (P : Prg) : Nat → Fi → List Vl → EM Vl
  | 0, _, _ => fun _ => none
  | n + 1, .fn f, vs => fun M =>
    match P.fn f with
    | none => none
    | some F => match bindF F vs M with
      | some (.ok ws, M0) => endF M.length F.mode (runSs P.T P.rp P.XT (callN P n) F.body ⟨ws.map some ++ List.replicate F.ns none, none⟩ M0)
      | _ => none
  | n + 1, .low f, vs => callN P n (.fn f) vs
  | n + 1, .mk c, vs => fun M =>
    match P.cd c with
    | none => none
    | some C => match callN P n (.fn C.init) (.loc M.length :: vs) (M ++ [.ins c []]) with
      | some (.ok (.d .non), M1) => if C.frz then match freeze M.length M1 with
          | some (.ok d, M2) => if okCut M.length (M2.take M.length) then some (.ok (.d d), M2.take M.length) else none
          | _ => none
        else some (.ok (.loc M.length), M1)
      | some (.ex x, M1) => if okCut M.length (M1.take M.length) then some (.ex x, M1.take M.length) else none
      | _ => none
end TD
set_option Elab.async false
set_option linter.all false
set_option maxRecDepth 100000
set_option maxHeartbeats 2000000
/-! TD, part C: what a computed result promises of the abstract heap; data read off the heap. -/
namespace TD
open PySem L2
/-! ### results -/
def Out (G : GG) (Z F : Hp) (as : List Addr) {α β : Type} (R : Hp → List Addr → β → α → Prop) (Q : β → Hp → Prop) (E : XK) : Option (Res α × Mem) → Prop
  | none => False
  | some (.ok a, M) => ∀ b F' as' H', Up F as F' as' → Good G Z F' as' M H' → R F' as' b a → Q b H'
  | some (.ex x, M) => ∀ dd fs F' as' H', Up F as F' as' → Good G Z F' as' M H' → F' dd = some (.xd fs) → RepF G F' fs x.fs → E (.ref (G.cl x.cls)) (some dd) H'
section
variable {G : GG} {F F' : Hp} {as as' : List Addr} {α β γ δ : Type} {R : Hp → List Addr → β → α → Prop} {S : Hp → List Addr → δ → γ → Prop} {Q Q' : β → Hp → Prop} {T : δ → Hp → Prop} {E : XK} {M : Mem}
theorem Out.up (u : Up F as F' as') : ∀ {r : Option (Res α × Mem)}, Out G Z F as R Q E r → Out G Z F' as' R Q E r
  | none, h => h
  | some (.ok a, M), h => fun b F2 as2 H2 u2 => h b F2 as2 H2 (u.trans u2)
  | some (.ex x, M), h => fun d fs F2 as2 H2 u2 => h d fs F2 as2 H2 (u.trans u2)
theorem Out.imp (f : ∀ b H, Q b H → Q' b H) : ∀ {r : Option (Res α × Mem)}, Out G Z F as R Q E r → Out G Z F as R Q' E r
  | none, h => h
  | some (.ok a, M), h => fun b F2 as2 H2 u2 g r => f _ _ (h b F2 as2 H2 u2 g r)
  | some (.ex x, M), h => h
/-- the first part of a bind -/
theorem Out.bind {m : EM α} {k : α → EM γ} (h : Out G Z F as S T E (EM.bind m k M))
    (f : ∀ b F' as' H' a M', m M = some (.ok a, M') → Up F as F' as' → Good G Z F' as' M' H' → R F' as' b a → Out G Z F' as' S T E (k a M') → Q b H') : Out G Z F as R Q E (m M) := by
  unfold EM.bind at h
  cases e : m M with
  | none => rw [e] at h; exact h
  | some r =>
    obtain ⟨r, M1⟩ := r
    rw [e] at h
    cases r with
    | ok a => exact fun b F' as' H' u g r => f b F' as' H' a M1 e u g r (Out.up u h)
    | ex x => exact h
/-- a pure part of a bind -/
theorem Out.step {m : EM α} {k : α → EM γ} {a : α} {M' : Mem} (e : m M = some (.ok a, M')) (h : Out G Z F as S T E (EM.bind m k M)) : Out G Z F as S T E (k a M') := by
  unfold EM.bind at h
  rw [e] at h
  exact h
theorem Out.got {m : EM α} {k : α → EM γ} (h : Out G Z F as S T E (EM.bind m k M)) (np : ∀ x M', m M ≠ some (.ex x, M')) : ∃ a M', m M = some (.ok a, M') ∧ Out G Z F as S T E (k a M') := by
  unfold EM.bind at h
  cases e : m M with
  | none => rw [e] at h; exact h.elim
  | some r =>
    obtain ⟨r, M1⟩ := r
    rw [e] at h
    cases r with
    | ok a => exact ⟨a, M1, rfl, h⟩
    | ex x => exact (np x M1 e).elim
/-- EM.o's end -/
theorem Out.o {o : Option α} (h : Out G Z F as R Q E (EM.o o M)) : ∃ a, o = some a ∧ ∀ b F' as' H', Up F as F' as' → Good G Z F' as' M H' → R F' as' b a → Q b H' := by
  cases o with
  | none => exact h.elim
  | some a => exact ⟨a, rfl, h⟩
end

/-! ### the frame -/
/-- the exception at hand: its slot, its address, its class, its dict -/
abbrev Hx := Option (Nat × Addr × Value × Addr)
structure EnvR (G : GG) (hx : Hx) (F : Hp) (as : List Addr) (σ : St) (e : Env) : Prop where
  len : σ.length = e.s.length
  at_ : ∀ (i : Nat) (v : Vl), e.s[i]? = some (some v) → ∃ x, σ[i]? = some (some x) ∧ RepL G F as x v
  exc : ∀ x, e.x = some x → ∃ i a dd fs, hx = some (i, a, .ref (G.cl x.cls), dd) ∧ σ[i]? = some (some (.ref a)) ∧ F dd = some (.xd fs) ∧ RepF G F fs x.fs
section
variable {G : GG} {hx : Hx} {F F' : Hp} {as as' : List Addr} {σ : St} {e : Env}
theorem EnvR.mono (u : Up F as F' as') (r : EnvR G hx F as σ e) : EnvR G hx F' as' σ e :=
  ⟨r.len, fun i v h => let ⟨x, h1, h2⟩ := r.at_ i v h; ⟨x, h1, h2.mono u⟩, fun x h => let ⟨i, a, dd, fs, h1, h0, h2, h3⟩ := r.exc x h; ⟨i, a, dd, fs, h1, h0, u.ex _ _ h2, h3.mono u.ex⟩⟩
theorem EnvR.set (r : EnvR G hx F as σ e) {i : Nat} {x : V} {v : Vl} (h : RepL G F as x v) : EnvR G hx F as (σ.set i (some x)) (e.set i v) := by
  refine ⟨by simp [Env.set, r.len], fun j u hj => ?_, fun x h => by cases h⟩
  have hj' : (e.s.set i (some v))[j]? = some (some u) := hj
  by_cases q : j = i
  · subst q
    have hl : j < e.s.length := by
      have := (List.getElem?_eq_some_iff.mp hj').1
      simpa using this
    rw [List.getElem?_set_self hl] at hj'
    cases hj'
    exact ⟨x, List.getElem?_set_self (by rw [r.len]; exact hl), h⟩
  · rw [List.getElem?_set_ne (Ne.symm q)] at hj'
    rw [List.getElem?_set_ne (Ne.symm q)]
    exact r.at_ j u hj'
end
/-- a reading, by a computation -/
def tM (G : GG) (hx : Hx) (W : WX) {α β : Type} (R : Hp → List Addr → β → α → Prop) (m : Env → EM α) : St → Hp → (β → Hp → Prop) → Prop := fun σ H Q =>
  ∃ Z F as e M, EnvR G hx F as σ e ∧ Good G Z F as M H ∧ Out G Z F as R Q (fun c d H' => W c d σ H') (m e M)
abbrev rB : Hp → List Addr → Bool → Bool → Prop := fun _ _ b k => b = k
abbrev rO : Hp → List Addr → Option Int → Option Int → Prop := fun _ _ b k => b = k

/-! ### data read off the heap -/
mutual
def py : D → PyData
  | .non => .none
  | .bl b => .bool b
  | .int i => .int i
  | .str x => .str x
  | .tup xs => .tuple (pys xs)
  | .lst xs => .list (pys xs)
  | .dic _ => .none
  | .obj _ _ => .none
def pys : List D → List PyData
  | [] => []
  | x :: xs => py x :: pys xs
end
mutual
theorem eqv_py : ∀ (n m : Nat) (a b : D), flat n a = true → flat m b = true → PyData.eqv (py a) (py b) = eqD a b
  | _, _, .non, b, _, h => by cases b <;> first | rfl | (unfold flat at h; cases h)
  | _, _, .bl _, b, _, h => by cases b <;> first | rfl | (unfold flat at h; cases h)
  | _, _, .int _, b, _, h => by cases b <;> first | rfl | (unfold flat at h; cases h)
  | _, _, .str x, b, _, h => by
    cases b <;> first | rfl | (unfold flat at h; cases h)
  | 0, _, .tup xs, b, h, _ => by unfold flat at h; cases h
  | 0, _, .lst xs, b, h, _ => by unfold flat at h; cases h
  | n + 1, m, .tup xs, b, ha, h => by
    cases b with
    | tup ys =>
      cases m with
      | zero => unfold flat at h; cases h
      | succ m =>
        unfold flat at h ha
        show PyData.eqvAll (pys xs) (pys ys) = eqDs xs ys
        exact eqvAll_py n m xs ys ha h
    | dic _ => unfold flat at h; cases h
    | obj _ _ => unfold flat at h; cases h
    | _ => rfl
  | n + 1, m, .lst xs, b, ha, h => by
    cases b with
    | lst ys =>
      cases m with
      | zero => unfold flat at h; cases h
      | succ m =>
        unfold flat at h ha
        show PyData.eqvAll (pys xs) (pys ys) = eqDs xs ys
        exact eqvAll_py n m xs ys ha h
    | dic _ => unfold flat at h; cases h
    | obj _ _ => unfold flat at h; cases h
    | _ => rfl
  | _, _, .dic _, b, h, _ => by unfold flat at h; cases h
  | _, _, .obj _ _, b, h, _ => by unfold flat at h; cases h
theorem eqvAll_py : ∀ (n m : Nat) (a b : List D), flats n a = true → flats m b = true → PyData.eqvAll (pys a) (pys b) = eqDs a b
  | _, _, [], [], _, _ => rfl
  | _, _, [], _ :: _, _, _ => rfl
  | _, _, _ :: _, [], _, _ => rfl
  | n, m, x :: xs, y :: ys, ha, hb => by
    unfold flats at ha hb
    obtain ⟨a1, a2⟩ := Bool.and_eq_true_iff.mp ha
    obtain ⟨b1, b2⟩ := Bool.and_eq_true_iff.mp hb
    show (PyData.eqv (py x) (py y) && PyData.eqvAll (pys xs) (pys ys)) = (eqD x y && eqDs xs ys)
    rw [eqv_py n m x y a1 b1, eqvAll_py n m xs ys a2 b2]
end
mutual
theorem plain_py : ∀ (n : Nat) (d : D), flat n d = true → (py d).plain = true
  | _, .non, _ => rfl
  | _, .bl _, _ => rfl
  | _, .int _, _ => rfl
  | _, .str _, _ => rfl
  | 0, .tup xs, h => by unfold flat at h; cases h
  | 0, .lst xs, h => by unfold flat at h; cases h
  | n + 1, .tup xs, h => by
    unfold flat at h
    exact plains_py n xs h
  | n + 1, .lst xs, h => by
    unfold flat at h
    exact plains_py n xs h
  | _, .dic _, h => by unfold flat at h; cases h
  | _, .obj _ _, h => by unfold flat at h; cases h
theorem plains_py : ∀ (n : Nat) (d : List D), flats n d = true → PyData.plainAll (pys d) = true
  | _, [], _ => rfl
  | n, x :: xs, h => by
    unfold flats at h
    obtain ⟨a1, a2⟩ := Bool.and_eq_true_iff.mp h
    show ((py x).plain && PyData.plainAll (pys xs)) = true
    rw [plain_py n x a1, plains_py n xs a2]
    rfl
end
mutual
theorem depth_py : ∀ (n : Nat) (d : D), flat n d = true → (py d).depth ≤ n + 1
  | n, .non, _ => by show PyData.depth .none ≤ _; unfold PyData.depth; omega
  | n, .bl b, _ => by show PyData.depth (.bool b) ≤ _; unfold PyData.depth; omega
  | n, .int b, _ => by show PyData.depth (.int b) ≤ _; unfold PyData.depth; omega
  | n, .str b, _ => by show PyData.depth (.str b) ≤ _; unfold PyData.depth; omega
  | 0, .tup xs, h => by unfold flat at h; cases h
  | 0, .lst xs, h => by unfold flat at h; cases h
  | n + 1, .tup xs, h => by
    unfold flat at h
    have := depths_py n xs h
    show PyData.depth (.tuple (pys xs)) ≤ _
    unfold PyData.depth
    omega
  | n + 1, .lst xs, h => by
    unfold flat at h
    have := depths_py n xs h
    show PyData.depth (.list (pys xs)) ≤ _
    unfold PyData.depth
    omega
  | _, .dic _, h => by unfold flat at h; cases h
  | _, .obj _ _, h => by unfold flat at h; cases h
theorem depths_py : ∀ (n : Nat) (d : List D), flats n d = true → PyData.depthAll (pys d) ≤ n + 1
  | n, [], _ => by show PyData.depthAll [] ≤ _; unfold PyData.depthAll; omega
  | n, x :: xs, h => by
    unfold flats at h
    obtain ⟨a1, a2⟩ := Bool.and_eq_true_iff.mp h
    have h1 := depth_py n x a1
    have h2 := depths_py n xs a2
    show PyData.depthAll (py x :: pys xs) ≤ _
    unfold PyData.depthAll
    omega
end
/-- what stands at a value, the items as data -/
def Sh (G : GG) (F H : Hp) (x : V) : D → Prop
  | .lst xs => ∃ a vs, x = .ref a ∧ H a = some (.lst vs) ∧ Reps G F vs xs
  | .dic kvs => ∃ a ks, x = .ref a ∧ H a = some (.dK ks) ∧ RepK G F ks kvs
  | d => Rep G F x d
/-- .. the script, too -/
def ShW (G : GG) (F H : Hp) (x : V) : D → Prop
  | .lst xs => ∃ a vs, x = .ref a ∧ Rd H a (.lst vs) ∧ Reps G F vs xs
  | d => Sh G F H x d
section
variable {G : GG} {F H : Hp} {as : List Addr} {M M' : Mem} {x : V} {v : Vl} {d : D}
theorem Sh.of (e : Ex F H) (r : Rep G F x d) : Sh G F H x d := by
  cases r with
  | lst h r => exact ⟨_, _, rfl, e _ _ h, r⟩
  | dic h r => exact ⟨_, _, rfl, e _ _ h, r⟩
  | non => exact .non
  | bl b => exact .bl b
  | int b => exact .int b
  | str b => exact .str b
  | tup h r => exact .tup h r
  | obj h r => exact .obj h r
theorem peek_ok (g : Good G Z F as M H) (r : RepL G F as x v) (e : peek v M = some (.ok d, M')) : M' = M ∧ Sh G F H x d := by
  cases v with
  | d y =>
    unfold peek at e
    cases e
    exact ⟨rfl, Sh.of g.sub r⟩
  | loc n =>
    obtain ⟨a, ha, rfl⟩ := r
    cases q : M[n]? with
    | none => simp only [peek, q] at e; cases e
    | some mo =>
      simp only [peek, q] at e
      have ok := g.ok n a mo ha q
      cases mo with
      | lst xs =>
        cases e
        obtain ⟨_, vs, h, r⟩ := ok
        exact ⟨rfl, a, vs, rfl, h, r⟩
      | dic xs =>
        cases e
        obtain ⟨_, vs, h, r⟩ := ok
        exact ⟨rfl, a, vs, rfl, h, r⟩
      | frz dd =>
        cases e
        exact ⟨rfl, Sh.of g.sub ok.2⟩
      | ins c fs => cases e
      | scr fs => cases e
theorem Sh.wide (h : Sh G F H x d) : ShW G F H x d := by
  cases d with
  | lst xs => obtain ⟨a, vs, h1, h2, h3⟩ := h; exact ⟨a, vs, h1, .inl h2, h3⟩
  | _ => exact h
theorem peekW_ok (g : Good G Z F as M H) (r : RepL G F as x v) (e : peekW v M = some (.ok d, M')) : M' = M ∧ ShW G F H x d := by
  cases v with
  | d y =>
    unfold peekW at e
    cases e
    exact ⟨rfl, (Sh.of g.sub r).wide⟩
  | loc n =>
    cases q : M[n]? with
    | none => simp only [peekW, q] at e; cases e
    | some mo =>
      by_cases hs : ∃ xs, mo = .scr xs
      · obtain ⟨xs, rfl⟩ := hs
        obtain ⟨a, ha, rfl⟩ := r
        have ok := g.ok n a _ ha q
        simp only [peekW, q] at e
        cases e
        obtain ⟨_, o, vs, h, r⟩ := ok
        exact ⟨rfl, a, vs, rfl, .inr ⟨o, h⟩, r⟩
      · have e2 : peek (.loc n) M = some (.ok d, M') := by
          cases mo with
          | scr xs => exact (hs ⟨xs, rfl⟩).elim
          | _ => simpa only [peekW, peek, q] using e
        obtain ⟨e3, h⟩ := peek_ok g r e2
        exact ⟨e3, h.wide⟩
theorem peekW_nx {x : Xc} : peekW v M ≠ some (.ex x, M') := by
  intro e
  cases v with
  | d y => unfold peekW at e; cases e
  | loc n =>
    unfold peekW at e
    simp only at e
    split at e <;> cases e
theorem peek_nx {x : Xc} : peek v M ≠ some (.ex x, M') := by
  intro e
  cases v with
  | d y => unfold peek at e; cases e
  | loc n =>
    unfold peek at e
    simp only at e
    split at e <;> cases e
theorem freeze_nx {n : Nat} {x : Xc} : freeze n M ≠ some (.ex x, M') := by
  intro e
  unfold freeze at e
  split at e
  · cases e
  · cases e
  · cases e
  · split at e <;> cases e
  · cases e
theorem toD_nx {x : Xc} : toD v M ≠ some (.ex x, M') := by
  cases v with
  | d y => intro e; cases e
  | loc n => exact freeze_nx
theorem RepLF.pure : ∀ {fs' : List (Str × V)} {fs : List (Str × Vl)} {ds : List (Str × D)}, RepLF G F as fs' fs → fsD fs = some ds → RepF G F fs' ds
  | _, _, _, .nil, e => by cases e; exact .nil
  | _, _, _, .cons (n := n) (d := .d x) (ds := r) h t, e => by
    have e' : (fsD r).map ((n, x) :: ·) = some _ := e
    cases q : fsD r with
    | none => rw [q] at e'; cases e'
    | some l =>
      rw [q] at e'
      cases e'
      exact .cons h (RepLF.pure t q)
  | _, _, _, .cons (d := .loc m) h t, e => by cases e
/-- data out of a value -/
theorem freeze_ok {n : Nat} {a : Addr} (g : Good G Z F as M H) (ha : as[n]? = some a) (e : freeze n M = some (.ok d, M')) : ∃ F', Good G Z F' as M' H ∧ Up F as F' as ∧ Rep G F' (.ref a) d := by
  unfold freeze at e
  cases q : M[n]? with
  | none => rw [q] at e; cases e
  | some mo =>
    rw [q] at e
    have ok := g.ok n a mo ha q
    cases mo with
    | lst xs =>
      cases e
      obtain ⟨f, vs, h, r⟩ := ok
      have hd : Rep G (upd F a (.lst vs)) (.ref a) (.lst xs) := .lst upd_same (r.mono (Evl.Ex.new f))
      obtain ⟨g1, u1⟩ := g.freeze ha f h hd
      exact ⟨_, g1, u1, hd⟩
    | dic xs =>
      cases e
      obtain ⟨f, vs, h, r⟩ := ok
      have hd : Rep G (upd F a (.dK vs)) (.ref a) (.dic xs) := .dic upd_same (r.mono (Evl.Ex.new f))
      obtain ⟨g1, u1⟩ := g.freeze ha f h hd
      exact ⟨_, g1, u1, hd⟩
    | frz dd =>
      cases e
      exact ⟨F, g, Up.refl, ok.2⟩
    | ins c fs =>
      cases q2 : fsD fs with
      | none => simp only [q2] at e; cases e
      | some ds =>
        simp only [q2] at e
        cases e
        obtain ⟨f, dx, fs', h, r⟩ := ok
        have hd : Rep G (upd F a (.ins (G.cl c) dx fs')) (.ref a) (.obj c ds) := .obj upd_same ((r.pure q2).mono (Evl.Ex.new f))
        obtain ⟨g1, u1⟩ := g.freeze ha f h hd
        exact ⟨_, g1, u1, hd⟩
    | scr fs => cases e
theorem toD_ok (g : Good G Z F as M H) (r : RepL G F as x v) (e : toD v M = some (.ok d, M')) : ∃ F', Good G Z F' as M' H ∧ Up F as F' as ∧ Rep G F' x d := by
  cases v with
  | d y =>
    cases e
    exact ⟨F, g, Up.refl, r⟩
  | loc n =>
    obtain ⟨a, ha, rfl⟩ := r
    exact freeze_ok g ha e
end
end TD
set_option Elab.async false
set_option linter.all false
set_option maxRecDepth 100000
set_option maxHeartbeats 2000000
/-! TD, part D: operators on data are the model's. -/
namespace TD
open PySem L2
theorem szOk_le {n : Nat} (h : szOk n = true) : n ≤ sizeLine := by
  rw [sizeLine_eq]
  exact of_decide_eq_true h
section
variable {G : GG} {F H : Hp} {x : V}
theorem Sh.int {i : Int} (h : Sh G F H x (.int i)) : x = .int i := by cases (show Rep G F x (.int i) from h); rfl
theorem Sh.bl {i : Bool} (h : Sh G F H x (.bl i)) : x = .bl i := by cases (show Rep G F x (.bl i) from h); rfl
theorem Sh.str {i : Str} (h : Sh G F H x (.str i)) : x = .str i := by cases (show Rep G F x (.str i) from h); rfl
theorem Sh.non (h : Sh G F H x .non) : x = .non := by cases (show Rep G F x .non from h); rfl
theorem Rep.tupE {xs : List D} (h : Rep G F x (.tup xs)) : ∃ a vs, x = .ref a ∧ SqT G.K F a vs ∧ Reps G F vs xs := by
  cases h with
  | tup h r => exact ⟨_, _, rfl, h, r⟩
theorem Sh.tup {xs : List D} (h : Sh G F H x (.tup xs)) : ∃ a vs, x = .ref a ∧ SqT G.K F a vs ∧ Reps G F vs xs := Rep.tupE h
theorem ShW.int {i : Int} (h : ShW G F H x (.int i)) : x = .int i := Sh.int (H := H) h
theorem ShW.str {i : Str} (h : ShW G F H x (.str i)) : x = .str i := Sh.str (H := H) h
theorem ShW.bl {i : Bool} (h : ShW G F H x (.bl i)) : x = .bl i := Sh.bl (H := H) h
theorem ShW.non (h : ShW G F H x .non) : x = .non := Sh.non (H := H) h
theorem ShW.tup {xs : List D} (h : ShW G F H x (.tup xs)) : ∃ a vs, x = .ref a ∧ SqT G.K F a vs ∧ Reps G F vs xs := Sh.tup (H := H) h
end
/-! ### reading -/
section
variable {G : GG} {X : Cx} {pins : List (Addr × Obj)} {σ : St} {F H : Hp} {s : Shared}
mutual
theorem Rep.reads (hk : X.K = G.K) (ex : Ex F H) (I : Inv X pins σ H s) : ∀ (n : Nat) (d : D) (v : V) (u : Value), flat n d = true → Rep G F v d → RelV v u → ∃ as, Reads s.heap u (py d) as
  | _, .non, _, _, _, h, r => by cases h; cases r; exact ⟨_, Reads.none⟩
  | _, .bl b, _, _, _, h, r => by cases h; cases r; exact ⟨_, Reads.bool b⟩
  | _, .int i, _, _, _, h, r => by cases h; obtain ⟨t, rfl⟩ := r; exact ⟨_, Reads.int i t⟩
  | _, .str i, _, _, _, h, r => by cases h; obtain ⟨t, rfl⟩ := r; exact ⟨_, Reads.str i t⟩
  | 0, .tup xs, _, _, f, _, _ => by unfold flat at f; cases f
  | 0, .lst xs, _, _, f, _, _ => by unfold flat at f; cases f
  | n + 1, .tup ds, _, _, f, h, r => by
    unfold flat at f
    cases h with
    | tup hs ha =>
      cases r
      obtain ⟨its, rv, ⟨o, ho, hc, n, hd⟩, _⟩ := I.tuple (by rw [hk]; exact Evl.ex_t ex hs)
      obtain ⟨as, hr⟩ := Reps.reads hk ex I _ ds _ its f ha rv
      exact ⟨_, Reads.tuple ho hc hd hr⟩
  | n + 1, .lst ds, _, _, f, h, r => by
    unfold flat at f
    cases h with
    | lst hs ha =>
      cases r
      obtain ⟨its, rv, ⟨o, n, ho, hc, _, hd⟩, _⟩ := I.list (.inl (.inl (ex _ _ hs)))
      obtain ⟨as, hr⟩ := Reps.reads hk ex I _ ds _ its f ha rv
      exact ⟨_, Reads.list ho hc hd hr⟩
  | _, .dic _, _, _, f, _, _ => by unfold flat at f; cases f
  | _, .obj _ _, _, _, f, _, _ => by unfold flat at f; cases f
theorem Reps.reads (hk : X.K = G.K) (ex : Ex F H) (I : Inv X pins σ H s) : ∀ (n : Nat) (ds : List D) (vs : List V) (us : List Value), flats n ds = true → Reps G F vs ds → Vals vs us → ∃ as, ReadsAll s.heap us (pys ds) as
  | _, [], _, _, _, h, r => by cases h; cases r; exact ⟨_, ReadsAll.nil⟩
  | n, d :: ds, _, _, f, h, r => by
    unfold flats at f
    obtain ⟨f1, f2⟩ := Bool.and_eq_true_iff.mp f
    cases h with
    | cons h1 h2 =>
      cases r with
      | cons r1 r2 =>
        obtain ⟨as, q1⟩ := Rep.reads hk ex I n d _ _ f1 h1 r1
        obtain ⟨bs, q2⟩ := Reps.reads hk ex I n ds _ _ f2 h2 r2
        exact ⟨_, ReadsAll.cons q1 q2⟩
end
theorem ShW.reads (hk : X.K = G.K) (ex : Ex F H) (I : Inv X pins σ H s) {n : Nat} {d : D} {v : V} {u : Value} (f : flat n d = true) (h : ShW G F H v d) (r : RelV v u) : ∃ as, Reads s.heap u (py d) as := by
  cases d with
  | lst ds =>
    obtain ⟨a, vs, rfl, hr, rs⟩ := h
    cases n with
    | zero => unfold flat at f; cases f
    | succ n =>
      unfold flat at f
      cases r
      obtain ⟨its, rv, ⟨o, k, ho, hc, _, hd⟩, _⟩ := I.list (.inl hr)
      obtain ⟨as, hr⟩ := Reps.reads hk ex I _ ds _ its f rs rv
      exact ⟨_, Reads.list ho hc hd hr⟩
  | dic _ => unfold flat at f; cases f
  | obj _ _ => unfold flat at f; cases f
  | non => exact Rep.reads hk ex I n _ v u f h r
  | bl _ => exact Rep.reads hk ex I n _ v u f h r
  | int _ => exact Rep.reads hk ex I n _ v u f h r
  | str _ => exact Rep.reads hk ex I n _ v u f h r
  | tup _ => exact Rep.reads hk ex I n _ v u f h r
end
/-! ### operators -/
def rV2 (G : GG) (f : Vl → Vl → EM Vl) : R2 := fun x y H Q => ∃ E Z F as a b M, Good G Z F as M H ∧ RepL G F as x a ∧ RepL G F as y b ∧ Out G Z F as (RepL G) Q E (f a b M)
def rV1 (G : GG) (f : Vl → EM Vl) : V → Hp → VK → Prop := fun x H Q => ∃ E Z F as a M, Good G Z F as M H ∧ RepL G F as x a ∧ Out G Z F as (RepL G) Q E (f a M)
def rVs (G : GG) (f : List Vl → EM Vl) : List V → Hp → VK → Prop := fun xs H Q => ∃ E Z F as vs M, Good G Z F as M H ∧ RepLs G F as xs vs ∧ Out G Z F as (RepL G) Q E (f vs M)
section
variable {G : GG} {X : Cx}
/-- both operands read -/
theorem two_peeks {F H : Hp} {as : List Addr} {M : Mem} {x y : V} {a b : Vl} {Q : VK} {E : XK} {f : D → D → EM Vl} (g : Good G Z F as M H) (ra : RepL G F as x a) (rb : RepL G F as y b)
    (o : Out G Z F as (RepL G) Q E (EM.bind (peek a) (fun dx => EM.bind (peek b) fun dy => f dx dy) M)) : ∃ dx dy, Sh G F H x dx ∧ Sh G F H y dy ∧ Out G Z F as (RepL G) Q E (f dx dy M) := by
  obtain ⟨dx, M1, e1, o1⟩ := o.got fun _ _ => peek_nx
  obtain ⟨q1, s1⟩ := peek_ok g ra e1
  rw [q1] at o1
  obtain ⟨dy, M2, e2, o2⟩ := o1.got fun _ _ => peek_nx
  obtain ⟨q2, s2⟩ := peek_ok g rb e2
  rw [q2] at o2
  exact ⟨dx, dy, s1, s2, o2⟩
theorem two_peeksW {F H : Hp} {as : List Addr} {M : Mem} {x y : V} {a b : Vl} {Q : VK} {E : XK} {f : D → D → EM Vl} (g : Good G Z F as M H) (ra : RepL G F as x a) (rb : RepL G F as y b)
    (o : Out G Z F as (RepL G) Q E (EM.bind (peekW a) (fun dx => EM.bind (peekW b) fun dy => f dx dy) M)) : ∃ dx dy, ShW G F H x dx ∧ ShW G F H y dy ∧ Out G Z F as (RepL G) Q E (f dx dy M) := by
  obtain ⟨dx, M1, e1, o1⟩ := o.got fun _ _ => peekW_nx
  obtain ⟨q1, s1⟩ := peekW_ok g ra e1
  rw [q1] at o1
  obtain ⟨dy, M2, e2, o2⟩ := o1.got fun _ _ => peekW_nx
  obtain ⟨q2, s2⟩ := peekW_ok g rb e2
  rw [q2] at o2
  exact ⟨dx, dy, s1, s2, o2⟩
/-- a text times an int -/
theorem mul_text (x : Str) (n : Int) (h0 : 0 ≤ n) : (if n < 1 then Str.empty else if (n == 1 || x.length == 0) = true then x else ⟨(List.replicate n.toNat x.cps).foldl (· ++ ·) #[]⟩) = (⟨(List.replicate n.toNat x.cps.toList).flatten.toArray⟩ : Str) := by
  have f0 : ∀ (m : Nat) (acc : Array Nat), (List.replicate m x.cps).foldl (· ++ ·) acc = acc ++ (List.replicate m x.cps.toList).flatten.toArray := by
    intro m
    induction m with
    | zero => intro acc; simp
    | succ m ih =>
      intro acc
      rw [List.replicate_succ, List.foldl_cons, ih, List.replicate_succ, List.flatten_cons]
      apply Array.ext'
      simp [List.append_assoc]
  by_cases h1 : n < 1
  · have : n = 0 := by omega
    subst this
    rw [if_pos h1]
    rfl
  · rw [if_neg h1]
    by_cases h2 : (n == 1 || x.length == 0) = true
    · rw [if_pos h2]
      rcases Bool.or_eq_true_iff.mp h2 with h3 | h3
      · have : n = 1 := by simpa using h3
        subst this
        cases x
        simp
      · have h4 : x.cps.toList = [] := by
          have : x.length = 0 := by simpa using h3
          have h5 : x.cps.size = 0 := this
          exact List.eq_nil_of_length_eq_zero (by rw [Array.length_toList]; exact h5)
        rw [h4]
        have h6 : ∀ m : Nat, (List.replicate m ([] : List Nat)).flatten = [] := fun m => by simp
        rw [h6]
        cases x with
        | mk cps =>
          have : cps = #[] := by
            apply Array.ext'
            simpa using h4
          subst this
          rfl
    · rw [if_neg h2, f0]
      simp
theorem op_bin {op : Operator} (hk : X.K = G.K) : OpR X (binaryOp op) (rV2 G (opB op)) := by
  intro pins s σ H x y v u Q I rx ry h
  obtain ⟨E, Z, F, as, a, b, M, g, ra, rb, o⟩ := h
  obtain ⟨dx, dy, s1, s2, o1⟩ := two_peeks (f := fun dx dy => EM.o ((binD op dx dy).map .d)) g ra rb o
  obtain ⟨z, ez, q⟩ := o1.o
  obtain ⟨d, ed, rfl⟩ := Option.map_eq_some_iff.mp ez
  have qd : ∀ {w : V}, Rep G F w d → Q w H := fun {w} r => q w F as H Up.refl g r
  have ql : ∀ {vs : List V} {ds : List D}, d = .lst ds → Reps G F vs ds → ∀ p, H p = none → Q (.ref p) (upd H p (.lst vs)) := fun {vs ds} e r p hp => by
    subst e
    obtain ⟨g1, u1⟩ := g.lay (o := .lst vs) hp
    exact q _ _ _ _ u1 g1 (Rep.lst upd_same (r.mono u1.ex))
  have qt : ∀ {vs : List V} {ds : List D}, d = .tup ds → Reps G F vs ds → ∀ p, H p = none → Q (.ref p) (upd H p (.tup vs)) := fun {vs ds} e r p hp => by
    subst e
    obtain ⟨g1, u1⟩ := g.lay (o := .tup vs) hp
    exact q _ _ _ _ u1 g1 (Rep.tup (.inl (.inl upd_same)) (r.mono u1.ex))
  unfold binD at ed
  split at ed
  · cases s1.int; cases s2.int; cases ed
    exact op_add pins s σ H _ _ v u Q I rx ry ⟨_, _, rfl, rfl, qd (.int _)⟩
  · cases s1.str; cases s2.str
    split at ed
    · rename_i hz
      cases ed
      exact op_add_str pins s σ H _ _ v u Q I rx ry ⟨_, _, rfl, rfl, szOk_le hz, qd (.str _)⟩
    · cases ed
  · split at ed
    · rename_i xs ys hz
      cases ed
      obtain ⟨a1, vs, rfl, t1, r1⟩ := s1.tup
      obtain ⟨a2, ws, rfl, t2, r2⟩ := s2.tup
      have l1 := r1.length
      have l2 := r2.length
      refine op_catA pins s σ H _ _ v u Q I rx ry ⟨a1, a2, vs, ws, rfl, rfl, by rw [hk]; exact Evl.ex_t g.sub t1, by rw [hk]; exact Evl.ex_t g.sub t2, by rw [l1, l2]; exact szOk_le hz, fun e => ?_, fun e1 e2 => ?_, fun _ _ => qt rfl (r1.append r2)⟩
      · subst e
        cases r1
        exact qd (.tup t2 r2)
      · subst e2
        cases r2
        exact qd (by rw [List.append_nil]; exact .tup t1 r1)
    · cases ed
  · split at ed
    · rename_i xs ys hz
      cases ed
      obtain ⟨a1, vs, rfl, t1, r1⟩ := s1
      obtain ⟨a2, ws, rfl, t2, r2⟩ := s2
      exact op_cat pins s σ H _ _ v u Q I rx ry ⟨a1, a2, vs, ws, rfl, rfl, t1, t2, by rw [r1.length, r2.length]; exact szOk_le hz, ql rfl (r1.append r2)⟩
    · cases ed
  · cases s1.int; cases s2.int; cases ed
    exact op_sub pins s σ H _ _ v u Q I rx ry ⟨_, _, rfl, rfl, qd (.int _)⟩
  · cases s1.int; cases s2.int
    split at ed
    · rename_i hz
      cases ed
      refine op_mul pins s σ H _ _ v u Q I rx ry ⟨_, _, rfl, rfl, ?_, qd (.int _)⟩
      unfold mulOk at hz
      rcases Bool.or_eq_true_iff.mp hz with h1 | h1
      · obtain ⟨h2, h3⟩ := Bool.and_eq_true_iff.mp h1
        exact .inl ⟨of_decide_eq_true h2, of_decide_eq_true h3⟩
      · obtain ⟨h2, h3⟩ := Bool.and_eq_true_iff.mp h1
        exact .inr ⟨of_decide_eq_true h2, of_decide_eq_true h3⟩
    · cases ed
  · cases s2.int
    split at ed
    · rename_i xs j hz
      cases ed
      obtain ⟨h12, h3⟩ := Bool.and_eq_true_iff.mp hz
      obtain ⟨h1, h2⟩ := Bool.and_eq_true_iff.mp h12
      have h1 := of_decide_eq_true h1
      have h2 := of_decide_eq_true h2
      obtain ⟨a1, vs, rfl, t1, r1⟩ := s1
      have rr : ∀ m : Nat, Reps G F (List.replicate m vs).flatten (List.replicate m xs).flatten := by
        intro m
        induction m with
        | zero => exact .nil
        | succ m ih =>
          rw [List.replicate_succ, List.replicate_succ, List.flatten_cons, List.flatten_cons]
          exact r1.append ih
      exact op_rep pins s σ H _ _ v u Q I rx ry ⟨a1, j, vs, rfl, rfl, t1, by omega, by omega, by rw [r1.length]; exact szOk_le h3, ql rfl (rr _)⟩
    · cases ed
  · cases s1.str; cases s2.int
    split at ed
    · rename_i xs j hz
      cases ed
      obtain ⟨h12, h3⟩ := Bool.and_eq_true_iff.mp hz
      obtain ⟨h1, h2⟩ := Bool.and_eq_true_iff.mp h12
      have h1 := of_decide_eq_true h1
      have h2 := of_decide_eq_true h2
      have h3 := of_decide_eq_true h3
      obtain ⟨t, rfl⟩ := rx
      obtain ⟨t', rfl⟩ := ry
      have em := mul_text xs j h1
      have qs : Q (.str (⟨(List.replicate j.toNat xs.cps.toList).flatten.toArray⟩ : Str)) H := qd (.str _)
      have hprod : xs.length * j.toNat ≤ 1000 * 1000 := Nat.mul_le_mul h3 (by omega)
      refine PySem.P.mul_str (by rw [decide_eq_false (by omega), decide_eq_false (by omega)]; rfl) (fun n1 _ => ?_) (fun n1 _ => ?_) ?_
      · have : (2 ^ 63 - 1) / j ≥ 1000 := by
          have h4 : (1000 : Int) * j ≤ 2 ^ 63 - 1 := by omega
          exact (Int.le_ediv_iff_mul_le (by omega)).mpr h4
        omega
      · unfold Builtin.Str.tooLong
        exact decide_eq_false (by rw [sizeLine_eq]; omega)
      · by_cases n1 : j < 1
        · rw [if_pos n1] at em ⊢
          exact ⟨by decide, ⟨.str _, H, I.tok _, ⟨_, rfl⟩, by rw [em]; exact qs⟩⟩
        · rw [if_neg n1] at em ⊢
          by_cases n2 : (j == 1 || xs.length == 0) = true
          · rw [if_pos n2] at em ⊢
            exact ⟨.str xs, H, I, ⟨t, rfl⟩, by rw [em]; exact qs⟩
          · rw [if_neg n2] at em ⊢
            refine ⟨?_, ⟨.str _, H, I.tok _, ⟨_, rfl⟩, by rw [em]; exact qs⟩⟩
            rw [em]
            show (List.replicate j.toNat xs.cps.toList).flatten.toArray.size ≤ sizeLine
            rw [List.size_toArray, PyProof.Rows.lm_len_rep_flat, sizeLine_eq]
            have : xs.cps.toList.length = xs.length := rfl
            rw [this, Nat.mul_comm]
            omega
    · cases ed
  · cases s1.int; cases s2.int
    split at ed
    · rename_i i j hz
      cases ed
      obtain ⟨h1, h2⟩ := Bool.and_eq_true_iff.mp hz
      have h1 := of_decide_eq_true h1
      have h2 := of_decide_eq_true h2
      refine op_fdivW pins s σ H _ _ v u Q I rx ry ⟨_, _, rfl, rfl, ⟨h1, ?_⟩, qd (.int _)⟩
      have h4 : j.natAbs < 2 ^ 1000 := by omega
      have h5 : j.natAbs ≠ 0 := by omega
      exact Nat.lt_trans ((Nat.log2_lt h5).mpr h4) (by decide)
    · cases ed
  · cases s1.int; cases s2.int
    split at ed
    · rename_i i j hz
      cases ed
      exact op_mod pins s σ H _ _ v u Q I rx ry ⟨_, _, rfl, rfl, of_decide_eq_true hz, qd (.int _)⟩
    · cases ed
  · cases s1.int; cases s2.int
    split at ed
    · rename_i i j hz
      cases ed
      obtain ⟨h123, h4⟩ := Bool.and_eq_true_iff.mp hz
      obtain ⟨h12, h3⟩ := Bool.and_eq_true_iff.mp h123
      obtain ⟨h1, h2⟩ := Bool.and_eq_true_iff.mp h12
      have h1 := of_decide_eq_true h1
      have h2 := of_decide_eq_true h2
      have h3 := of_decide_eq_true h3
      have h4 := of_decide_eq_true h4
      exact op_pow pins s σ H _ _ v u Q I rx ry ⟨_, _, rfl, rfl, ⟨h1, by omega, by omega⟩, qd (.int _)⟩
    · cases ed
  · cases ed
theorem op_neg : UnR X (unaryOp .USub) (rV1 G opN) := by
  intro pins s σ H x v Q I rx h
  obtain ⟨E, Z, F, as, a, M, g, ra, o⟩ := h
  obtain ⟨dx, M1, e1, o1⟩ := o.got fun _ _ => peek_nx
  obtain ⟨q1, s1⟩ := peek_ok g ra e1
  rw [q1] at o1
  obtain ⟨z, ez, q⟩ := o1.o
  obtain ⟨d, ed, rfl⟩ := Option.map_eq_some_iff.mp ez
  unfold negD at ed
  split at ed
  · cases s1.int
    cases ed
    exact un_neg pins s σ H _ v Q I rx ⟨_, rfl, q _ F as H Up.refl g (Rep.int _)⟩
  · cases ed
theorem any_pys (n m : Nat) (x : D) (hx : flat m x = true) : ∀ ys : List D, flats n ys = true → ((pys ys).any fun y => PyData.eqv y (py x)) = anyEq x ys
  | [], _ => rfl
  | y :: ys, h => by
    unfold flats at h
    obtain ⟨f1, f2⟩ := Bool.and_eq_true_iff.mp h
    show (PyData.eqv (py y) (py x) || (pys ys).any fun y => PyData.eqv y (py x)) = (eqD y x || anyEq x ys)
    rw [any_pys n m x hx ys f2, eqv_py n m y x f1 hx]
theorem flats_of : ∀ ys : List D, allOk ys = true → flats 20 ys = true
  | [], _ => rfl
  | y :: ys, h => by
    unfold allOk at h
    obtain ⟨f1, f2⟩ := Bool.and_eq_true_iff.mp h
    unfold flats
    rw [show flat 20 y = true from f1, flats_of ys f2]
    rfl
/-- x in y, x not in y over data -/
theorem in_data {pins : List (Addr × Obj)} {s : Shared} {σ : St} {F H : Hp} {x y : V} {v u : Value} {dx dy : D} {k : Bool} (hk : X.K = G.K) (hu : X.A.units + 64 < cLine) (ex : Ex F H) (I : Inv X pins σ H s) (rx : RelV x v) (ry : RelV y u)
    (s1 : ShW G F H x dx) (s2 : ShW G F H y dy) (e : inD dx dy = some k) {Q : VK} :
    (Q (.bl k) H → wpAny (model X.prog X.w) X.A (compareOp .In v u) (EP X pins σ Q) X.xe s) ∧ (Q (.bl (!k)) H → wpAny (model X.prog X.w) X.A (compareOp .NotIn v u) (EP X pins σ Q) X.xe s) := by
  unfold inD at e
  split at e
  · rename_i ys
    split at e
    · rename_i ok
      cases e
      obtain ⟨o1, o2⟩ := Bool.and_eq_true_iff.mp ok
      have f2 := flats_of ys o2
      obtain ⟨as1, r1⟩ := ShW.reads hk ex I o1 s1 rx
      obtain ⟨as2, r2⟩ := ShW.reads (n := 21) (d := .tup ys) hk ex I (by unfold flat; exact f2) s2 ry
      have h1 := depth_py 20 dx o1
      have hz : X.A.units + 1 + min (PyData.depthAll (pys ys)) (py dx).depth < cLine := by
        have := Nat.min_le_right (PyData.depthAll (pys ys)) (py dx).depth
        omega
      have e1 := any_pys 20 20 dx o1 ys f2
      exact ⟨fun q => SeqAt.in_tuple_data r2 r1 (plains_py 20 ys f2) (plain_py 20 dx o1) hz ⟨.bl _, H, I, rfl, by rw [e1]; exact q⟩,
        fun q => SeqAt.notIn_tuple_data r2 r1 (plains_py 20 ys f2) (plain_py 20 dx o1) hz ⟨.bl _, H, I, rfl, by rw [e1]; exact q⟩⟩
    · cases e
  · rename_i ys
    split at e
    · rename_i ok
      cases e
      obtain ⟨o1, o2⟩ := Bool.and_eq_true_iff.mp ok
      have f2 := flats_of ys o2
      obtain ⟨as1, r1⟩ := ShW.reads hk ex I o1 s1 rx
      obtain ⟨as2, r2⟩ := ShW.reads (n := 21) (d := .lst ys) hk ex I (by unfold flat; exact f2) s2 ry
      have h1 := depth_py 20 dx o1
      have hz : X.A.units + 1 + min (PyData.depthAll (pys ys)) (py dx).depth < cLine := by
        have := Nat.min_le_right (PyData.depthAll (pys ys)) (py dx).depth
        omega
      have e1 := any_pys 20 20 dx o1 ys f2
      exact ⟨fun q => SeqAt.in_list_data r2 r1 (plains_py 20 ys f2) (plain_py 20 dx o1) hz ⟨.bl _, H, I, rfl, by rw [e1]; exact q⟩,
        fun q => SeqAt.notIn_list_data r2 r1 (plains_py 20 ys f2) (plain_py 20 dx o1) hz ⟨.bl _, H, I, rfl, by rw [e1]; exact q⟩⟩
    · cases e
  · rename_i z
    split at e
    · rename_i w
      split at e
      · rename_i c hc
        cases e
        cases s1.str
        cases s2.str
        have ew : w = ⟨#[c]⟩ := by
          cases w with
          | mk cps =>
            have : cps = #[c] := by
              apply Array.ext'
              simpa using hc
            rw [this]
        subst ew
        exact ⟨fun q => op_in_sign pins s σ H _ _ v u Q I rx ry ⟨c, z, rfl, rfl, q⟩, fun q => op_notIn_sign pins s σ H _ _ v u Q I rx ry ⟨c, z, rfl, rfl, q⟩⟩
      · cases e
    · cases e
  · cases e
theorem op_cmp {op : CmpOp} (hk : X.K = G.K) (hu : X.A.units + 64 < cLine) : OpR X (compareOp op) (rV2 G (opC op)) := by
  intro pins s σ H x y v u Q I rx ry h
  obtain ⟨E, Z, F, as, a, b, M, g, ra, rb, o⟩ := h
  obtain ⟨dx, dy, s1, s2, o1⟩ := two_peeksW (f := fun dx dy => EM.o ((cmpD op dx dy).map fun b => .d (.bl b))) g ra rb o
  obtain ⟨z, ez, q⟩ := o1.o
  obtain ⟨k, ed, rfl⟩ := Option.map_eq_some_iff.mp ez
  have qd : Q (.bl k) H := q _ F as H Up.refl g (Rep.bl k)
  have ed2 : cmpD op dx dy = some k := ed
  unfold cmpD at ed2
  split at ed2
  · split at ed2
    · rename_i ok
      cases ed2
      obtain ⟨o1, o2⟩ := Bool.and_eq_true_iff.mp ok
      obtain ⟨as1, r1⟩ := ShW.reads hk g.sub I o1 s1 rx
      obtain ⟨as2, r2⟩ := ShW.reads hk g.sub I o2 s2 ry
      have h1 := depth_py 20 dx o1
      refine SeqAt.eq_plain r1 r2 (plain_py 20 dx o1) (plain_py 20 dy o2) (by have := Nat.min_le_left (py dx).depth (py dy).depth; omega) ⟨.bl _, H, I, rfl, ?_⟩
      rw [eqv_py 20 20 dx dy o1 o2]
      exact qd
    · cases ed2
  · split at ed2
    · rename_i ok
      cases ed2
      obtain ⟨o1, o2⟩ := Bool.and_eq_true_iff.mp ok
      obtain ⟨as1, r1⟩ := ShW.reads hk g.sub I o1 s1 rx
      obtain ⟨as2, r2⟩ := ShW.reads hk g.sub I o2 s2 ry
      have h1 := depth_py 20 dx o1
      refine SeqAt.ne_plain r1 r2 (plain_py 20 dx o1) (plain_py 20 dy o2) (by have := Nat.min_le_left (py dx).depth (py dy).depth; omega) ⟨.bl _, H, I, rfl, ?_⟩
      rw [eqv_py 20 20 dx dy o1 o2]
      exact qd
    · cases ed2
  · cases s1.int; cases s2.int; cases ed2
    exact op_lt pins s σ H _ _ v u Q I rx ry ⟨_, _, rfl, rfl, qd⟩
  · cases s1.int; cases s2.int; cases ed2
    exact op_le pins s σ H _ _ v u Q I rx ry ⟨_, _, rfl, rfl, qd⟩
  · cases s1.int; cases s2.int; cases ed2
    exact op_gt pins s σ H _ _ v u Q I rx ry ⟨_, _, rfl, rfl, qd⟩
  · cases s1.int; cases s2.int; cases ed2
    exact op_ge pins s σ H _ _ v u Q I rx ry ⟨_, _, rfl, rfl, qd⟩
  · cases s1.str; cases s2.str; cases ed2
    exact op_lt_str pins s σ H _ _ v u Q I rx ry ⟨_, _, rfl, rfl, qd⟩
  · cases s2.non; cases ed2
    refine op_isN pins s σ H _ _ v u Q I rx ry ⟨rfl, ?_⟩
    cases dx with
    | non => cases s1.non; exact qd
    | lst xs => obtain ⟨a, vs, rfl, _⟩ := s1; exact qd
    | dic xs => obtain ⟨a, vs, rfl, _⟩ := s1; exact qd
    | _ => cases (show Rep G F x _ from s1); exact qd
  · cases s2.non; cases ed2
    refine op_notN pins s σ H _ _ v u Q I rx ry ⟨rfl, ?_⟩
    cases dx with
    | non => cases s1.non; exact qd
    | lst xs => obtain ⟨a, vs, rfl, _⟩ := s1; exact qd
    | dic xs => obtain ⟨a, vs, rfl, _⟩ := s1; exact qd
    | _ => cases (show Rep G F x _ from s1); exact qd
  · exact (in_data hk hu g.sub I rx ry s1 s2 ed2).1 qd
  · obtain ⟨k0, e0, rfl⟩ := Option.map_eq_some_iff.mp ed2
    exact (in_data hk hu g.sub I rx ry s1 s2 e0).2 qd
  · cases ed2
end
end TD
set_option Elab.async false
set_option linter.all false
set_option maxRecDepth 100000
set_option maxHeartbeats 2000000
/-! TD, part E: an expression of the text does what its code computes. -/
namespace TD
open PySem L2
/-- where code stands -/
structure Kx where
  X : Cx
  W : WX
  G : GG
  P : Prg
  n : Nat
  hx : Hx
abbrev Kx.cl (κ : Kx) : Cl := callN κ.P κ.n
abbrev Kx.rE (κ : Kx) (c : CE) : L2.St → Hp → VK → Prop := tM κ.G κ.hx κ.W (RepL κ.G) (runE κ.P.T κ.P.rp κ.cl c)
def JE (κ : Kx) (e : Expr) (c : CE) : Prop := PE κ.X e (tM κ.G κ.hx κ.W (RepL κ.G) (runE κ.P.T κ.P.rp κ.cl c))
def JA (κ : Kx) (es : List Expr) (c : CL) : Prop := PA κ.X es (tM κ.G κ.hx κ.W (RepLs κ.G) (runL κ.P.T κ.P.rp κ.cl c))
def JO (κ : Kx) (e : Option Expr) (c : CO) : Prop := PO κ.X e (tM κ.G κ.hx κ.W rO (runO κ.P.T κ.P.rp κ.cl c))
def JT (κ : Kx) (e : Expr) (c : CT) : Prop := PT κ.X e (tM κ.G κ.hx κ.W rB (runT κ.P.T κ.P.rp κ.cl c))
def JW (κ : Kx) (e : Expr) (c : CT) : Prop := PW κ.X e (tM κ.G κ.hx κ.W rB (runT κ.P.T κ.P.rp κ.cl c))
def JTs (κ : Kx) (es : List Expr) (c : CTs) : Prop := PTs κ.X es (tM κ.G κ.hx κ.W rB (runTs κ.P.T κ.P.rp κ.cl c))
/-- what every place has -/
structure Ok0 (κ : Kx) : Prop where
  k : κ.X.K = κ.G.K
  u : κ.X.A.units + 64 < cLine
  gd : κ.X.A.guards = some []
theorem PE.weak {X : Cx} {e : Expr} {t t' : TE} (h : PE X e t) (f : ∀ σ H Q, t' σ H Q → t σ H Q) : PE X e t' := ⟨fun pins s σ H Q I q => h.run pins s σ H Q I (f σ H Q q)⟩
theorem PA.weak {X : Cx} {e : List Expr} {t t' : TA} (h : PA X e t) (f : ∀ σ H Q, t' σ H Q → t σ H Q) : PA X e t' := ⟨fun pos pins s σ H Q I q => h.run pos pins s σ H Q I (f σ H Q q)⟩
theorem PT.weak {X : Cx} {e : Expr} {t t' : TT} (h : PT X e t) (f : ∀ σ H Q, t' σ H Q → t σ H Q) : PT X e t' := ⟨fun pins s σ H Q I q => h.run pins s σ H Q I (f σ H Q q)⟩
theorem PW.weak {X : Cx} {e : Expr} {t t' : TT} (h : PW X e t) (f : ∀ σ H Q, t' σ H Q → t σ H Q) : PW X e t' := ⟨fun wh pins s σ H Q I q => h.run wh pins s σ H Q I (f σ H Q q)⟩
theorem PO.weak {X : Cx} {e : Option Expr} {t t' : TO} (h : PO X e t) (f : ∀ σ H Q, t' σ H Q → t σ H Q) : PO X e t' := ⟨fun pins s σ H Q I q => h.run pins s σ H Q I (f σ H Q q)⟩
section
variable {κ : Kx} {a b c e : Expr} {ca cb cc ce : CE} {es : List Expr} {cs : CL} {pos : Pos}
/-- the pieces of a bind, at a reading -/
theorem tM_bind {G : GG} {hx : Hx} {W : WX} {α β γ δ : Type} {R : Hp → List Addr → β → α → Prop} {S : Hp → List Addr → δ → γ → Prop} {m : Env → EM α} {k : α → Env → EM γ} {σ : L2.St} {H : Hp} {T : δ → Hp → Prop} {Q : β → Hp → Prop}
    (h : tM G hx W S (fun e => EM.bind (m e) fun x => k x e) σ H T)
    (f : ∀ b Z F as e M H' a, EnvR G hx F as σ e → Good G Z F as M H' → R F as b a → Out G Z F as S T (fun c d H' => W c d σ H') (k a e M) → Q b H') : tM G hx W R m σ H Q := by
  obtain ⟨Z, F, as, e, M, re, g, o⟩ := h
  exact ⟨Z, F, as, e, M, re, g, o.bind fun b F1 as1 H1 a M1 _ u1 g1 r1 o1 => f b Z F1 as1 e M1 H1 a (re.mono u1) g1 r1 o1⟩
theorem je_var {i : Nat} {x : Str} (hN : κ.X.N[i]? = some x) (hv : Vis κ.X.env.scope x) (hd : (x == ("__debug__" : Str)) = false := by decide) (hcd : (x == ("__classdict__" : Str)) = false := by decide) : JE κ (.Name x pos) (.var i) := by
  refine PE.weak (pe_var hN hv hd hcd) fun σ H Q h => ?_
  obtain ⟨Z, F, as, e, M, re, g, o⟩ := h
  have o1 : Out κ.G Z F as (RepL κ.G) Q (fun c d H' => κ.W c d σ H') (getV e i M) := o
  unfold getV at o1
  split at o1
  · rename_i v hv
    obtain ⟨x, hx, r⟩ := re.at_ i v hv
    exact ⟨x, hx, o1 x F as H Up.refl g r⟩
  · exact o1.elim
theorem je_con {X : Cx} {d : D} {v : V} (h : PE κ.X e (tC v)) (r : ∀ F, Rep κ.G F v d) : JE κ e (.con d) := by
  refine PE.weak h fun σ H Q h => ?_
  obtain ⟨Z, F, as, e, M, re, g, o⟩ := h
  exact o v F as H Up.refl g (r F)
theorem je_int {i : Int} {j : Nat} : JE κ (.Constant (.int i) j pos) (.con (.int i)) := je_con (X := κ.X) pe_int fun _ => .int i
theorem je_bl {i : Bool} {j : Nat} : JE κ (.Constant (.bool i) j pos) (.con (.bl i)) := je_con (X := κ.X) pe_bl fun _ => .bl i
theorem je_str {i : Str} {j : Nat} : JE κ (.Constant (.str i) j pos) (.con (.str i)) := je_con (X := κ.X) pe_str fun _ => .str i
theorem je_non {j : Nat} : JE κ (.Constant .none j pos) (.con .non) := je_con (X := κ.X) pe_non fun _ => .non
/-- a constant of the module -/
structure Con (κ : Kx) (x : Str) (d : D) : Prop where
  ex : ∃ v u, κ.X.mg x = some u ∧ RelV v u ∧ ∀ F, Rep κ.G F v d
theorem je_glb {x : Str} {d : D} (h : Con κ x d) (hg : Gl κ.X x) (hd : (x == ("__debug__" : Str)) = false := by decide) : JE κ (.Name x pos) (.glb d) := by
  obtain ⟨v, u, hm, r, rd⟩ := h.ex
  refine PE.weak (pe_glob hg hm r hd) fun σ H Q h => ?_
  obtain ⟨Z, F, as, e, M, re, g, o⟩ := h
  exact o v F as H Up.refl g (rd F)
theorem je_bin {op : Operator} (h : Ok0 κ) (ha : JE κ a ca) (hb : JE κ b cb) : JE κ (.BinOp a op b pos) (.bin op ca cb) :=
  PE.weak (pe_op (op_bin h.k) ha hb) fun σ H Q t => tM_bind (k := fun x e => EM.bind (runE κ.P.T κ.P.rp κ.cl cb e) fun y => opB op x y) t fun x Z F as e M H1 va re g ra o => ⟨Z, F, as, e, M, re, g, o.bind fun y F2 as2 H2 vb M2 _ u2 g2 rb o2 => ⟨_, Z, F2, as2, va, vb, M2, g2, ra.mono u2, rb, o2⟩⟩
theorem je_neg (h : Ok0 κ) (ha : JE κ a ca) : JE κ (.UnaryOp .USub a pos) (.neg ca) :=
  PE.weak (pe_un (op_neg (G := κ.G)) ha) fun σ H Q t => tM_bind (k := fun x e => opN x) t fun x Z F as e M H1 va re g ra o => ⟨_, Z, F, as, va, M, g, ra, o⟩
theorem w_cmp {op : CmpOp} {σ : L2.St} {H : Hp} {Q : VK} (t : tM κ.G κ.hx κ.W (RepL κ.G) (runE κ.P.T κ.P.rp κ.cl (.cmp op ca cb)) σ H Q) : tOp (rV2 κ.G (opC op)) (κ.rE ca) (κ.rE cb) σ H Q :=
  tM_bind (k := fun x e => EM.bind (runE κ.P.T κ.P.rp κ.cl cb e) fun y => opC op x y) t fun x Z F as e M H1 va re g ra o => ⟨Z, F, as, e, M, re, g, o.bind fun y F2 as2 H2 vb M2 _ u2 g2 rb o2 => ⟨_, Z, F2, as2, va, vb, M2, g2, ra.mono u2, rb, o2⟩⟩
theorem je_cmp {op : CmpOp} (h : Ok0 κ) (ha : JE κ a ca) (hb : JE κ b cb) (hm : behindInMarks op b = false := by rfl) : JE κ (.Compare a [op] [b] pos) (.cmp op ca cb) :=
  PE.weak (pe_cmpR (op_cmp h.k h.u) ha hb hm) fun σ H Q t => w_cmp t
end
end TD
set_option Elab.async false
set_option linter.all false
set_option maxRecDepth 100000
set_option maxHeartbeats 2000000
/-! TD, part F: expressions, further. -/
namespace TD
open PySem L2
section
variable {κ : Kx} {a b c e : Expr} {ca cb cc ce : CE} {es : List Expr} {cs : CL} {pos : Pos}
theorem Rep.blE {G : GG} {F : Hp} {x : V} {b : Bool} (r : Rep G F x (.bl b)) : x = .bl b := by cases r; rfl
theorem Rep.intE {G : GG} {F : Hp} {x : V} {b : Int} (r : Rep G F x (.int b)) : x = .int b := by cases r; rfl
theorem Rep.strE {G : GG} {F : Hp} {x : V} {b : Str} (r : Rep G F x (.str b)) : x = .str b := by cases r; rfl
theorem boolOf_ok {G : GG} {F : Hp} {as : List Addr} {x : V} {v : Vl} {M M' : Mem} {k : Bool} (r : RepL G F as x v) (e : boolOf v M = some (.ok k, M')) : x = .bl k ∧ M' = M := by
  cases v with
  | loc n => cases e
  | d d =>
    cases d with
    | bl b => cases e; exact ⟨Rep.blE r, rfl⟩
    | _ => cases e
theorem boolOf_nx {v : Vl} {M M' : Mem} {x : Xc} : boolOf v M ≠ some (.ex x, M') := by
  intro e
  cases v with
  | loc n => cases e
  | d d => cases d <;> cases e
theorem intOf_ok {G : GG} {F : Hp} {as : List Addr} {x : V} {v : Vl} {M M' : Mem} {k : Int} (r : RepL G F as x v) (e : intOf v M = some (.ok k, M')) : x = .int k ∧ M' = M := by
  cases v with
  | loc n => cases e
  | d d =>
    cases d with
    | int b => cases e; exact ⟨Rep.intE r, rfl⟩
    | _ => cases e
theorem intOf_nx {v : Vl} {M M' : Mem} {x : Xc} : intOf v M ≠ some (.ex x, M') := by
  intro e
  cases v with
  | loc n => cases e
  | d d => cases d <;> cases e
/-- a bool out of a value, then the rest -/
theorem Out.bool {G : GG} {F : Hp} {as : List Addr} {α β : Type} {R : Hp → List Addr → β → α → Prop} {Q : β → Hp → Prop} {E : XK} {M : Mem} {x : V} {v : Vl} {k : Bool → EM α} (r : RepL G F as x v) (o : Out G Z F as R Q E (EM.bind (boolOf v) k M)) :
    ∃ b, x = .bl b ∧ Out G Z F as R Q E (k b M) := by
  obtain ⟨b, M1, e1, o1⟩ := o.got fun _ _ => boolOf_nx
  obtain ⟨h1, h2⟩ := boolOf_ok r e1
  rw [h2] at o1
  exact ⟨b, h1, o1⟩
theorem Out.int {G : GG} {F : Hp} {as : List Addr} {α β : Type} {R : Hp → List Addr → β → α → Prop} {Q : β → Hp → Prop} {E : XK} {M : Mem} {x : V} {v : Vl} {k : Int → EM α} (r : RepL G F as x v) (o : Out G Z F as R Q E (EM.bind (intOf v) k M)) :
    ∃ b, x = .int b ∧ Out G Z F as R Q E (k b M) := by
  obtain ⟨b, M1, e1, o1⟩ := o.got fun _ _ => intOf_nx
  obtain ⟨h1, h2⟩ := intOf_ok r e1
  rw [h2] at o1
  exact ⟨b, h1, o1⟩
theorem w_chn {op op' : CmpOp} {σ : L2.St} {H : Hp} {Q : VK} (t : tM κ.G κ.hx κ.W (RepL κ.G) (runE κ.P.T κ.P.rp κ.cl (.chn op op' ca cb cc)) σ H Q) : tChain (rV2 κ.G (opC op)) (rV2 κ.G (opC op')) (κ.rE ca) (κ.rE cb) (κ.rE cc) σ H Q :=
  tM_bind (k := fun x e => EM.bind (runE κ.P.T κ.P.rp κ.cl cb e) fun y => EM.bind (opC op x y) fun r => EM.bind (boolOf r) fun k => if k then EM.bind (runE κ.P.T κ.P.rp κ.cl cc e) fun z => opC op' y z else EM.pure (.d (.bl false))) t
    fun x Z F as e M H1 va re g ra o => ⟨Z, F, as, e, M, re, g, o.bind fun y F2 as2 H2 vb M2 _ u2 g2 rb o2 => ⟨_, Z, F2, as2, va, vb, M2, g2, ra.mono u2, rb, o2.bind fun z F3 as3 H3 vz M3 _ u3 g3 rz o3 => by
      obtain ⟨k, hz, o4⟩ := Out.bool rz o3
      refine ⟨k, hz, ?_⟩
      cases k with
      | false => exact o4 _ _ _ _ Up.refl g3 (Rep.bl false)
      | true => exact ⟨Z, F3, as3, e, M3, (re.mono u2).mono u3, g3, Out.bind (k := fun z => opC op' vb z) o4 fun w F4 as4 H4 vw M4 _ u4 g4 rw o5 => ⟨_, Z, F4, as4, vb, vw, M4, g4, (rb.mono u3).mono u4, rw, o5⟩⟩⟩⟩
theorem je_chn {op op' : CmpOp} (h : Ok0 κ) (ha : JE κ a ca) (hb : JE κ b cb) (hc : JE κ c cc) (hm : lastMarks [op, op'] [b, c] = false := by with_unfolding_all rfl) : JE κ (.Compare a [op, op'] [b, c] pos) (.chn op op' ca cb cc) :=
  PE.weak (pe_chain (op_cmp h.k h.u) (op_cmp h.k h.u) ha hb hc hm) fun σ H Q t => w_chn t
/-- a bool value as a test -/
theorem t_tst {σ : L2.St} {H : Hp} {Q : Bool → Hp → Prop} (t : tM κ.G κ.hx κ.W rB (runT κ.P.T κ.P.rp κ.cl (.tst ca)) σ H Q) : tM κ.G κ.hx κ.W (RepL κ.G) (runE κ.P.T κ.P.rp κ.cl ca) σ H (fun x H' => ∃ k, x = .bl k ∧ Q k H') :=
  tM_bind (k := fun x e => boolOf x) t fun x Z F as e M H1 va re g ra o => by
    obtain ⟨b, hb, o1⟩ := Out.bool (k := EM.pure) ra (show Out κ.G Z F as rB Q (fun c d H' => κ.W c d σ H') (EM.bind (boolOf va) EM.pure M) by
      unfold EM.bind
      cases q : boolOf va M with
      | none => rw [q] at o; exact o
      | some r =>
        obtain ⟨r, M1⟩ := r
        rw [q] at o
        cases r <;> exact o)
    exact ⟨b, hb, o1 b F as H1 Up.refl g rfl⟩
theorem jt_chn {op op' : CmpOp} (h : Ok0 κ) (ha : JE κ a ca) (hb : JE κ b cb) (hc : JE κ c cc) (hm : lastMarks [op, op'] [b, c] = false := by with_unfolding_all rfl) : JT κ (.Compare a [op, op'] [b, c] pos) (.tst (.chn op op' ca cb cc)) :=
  PT.weak (pt_chain (op_cmp h.k h.u) (op_cmp h.k h.u) ha hb hc hm) fun σ H Q t => w_chn (t_tst t)
theorem jt_cmp {op : CmpOp} (h : Ok0 κ) (ha : JE κ a ca) (hb : JE κ b cb) (hm : behindInMarks op b = false := by rfl) : JT κ (.Compare a [op] [b] pos) (.tst (.cmp op ca cb)) :=
  PT.weak (pt_cmpR (op_cmp h.k h.u) ha hb hm) fun σ H Q t => w_cmp (t_tst t)
theorem je_one {op : BoolOp} (ha : JE κ a ca) : JE κ (.BoolOp op [a] pos) ca := pe_one ha
theorem je_and {rest : List Expr} (ha : JE κ a ca) (hb : JE κ (.BoolOp .And (b :: rest) pos) cb) : JE κ (.BoolOp .And (a :: b :: rest) pos) (.and ca cb) :=
  PE.weak (pe_and ha hb) fun σ H Q t => tM_bind (k := fun x e => EM.bind (boolOf x) fun k => if k then runE κ.P.T κ.P.rp κ.cl cb e else EM.pure (.d (.bl false))) t fun x Z F as e M H1 va re g ra o => by
    obtain ⟨k, hz, o4⟩ := Out.bool ra o
    refine ⟨k, hz, ?_⟩
    cases k with
    | false => exact o4 _ _ _ _ Up.refl g (Rep.bl false)
    | true => exact ⟨Z, F, as, e, M, re, g, o4⟩
theorem je_or {rest : List Expr} (ha : JE κ a ca) (hb : JE κ (.BoolOp .Or (b :: rest) pos) cb) : JE κ (.BoolOp .Or (a :: b :: rest) pos) (.or ca cb) :=
  PE.weak (pe_or ha hb) fun σ H Q t => tM_bind (k := fun x e => EM.bind (boolOf x) fun k => if k then EM.pure (.d (.bl true)) else runE κ.P.T κ.P.rp κ.cl cb e) t fun x Z F as e M H1 va re g ra o => by
    obtain ⟨k, hz, o4⟩ := Out.bool ra o
    refine ⟨k, hz, ?_⟩
    cases k with
    | true => exact o4 _ _ _ _ Up.refl g (Rep.bl true)
    | false => exact ⟨Z, F, as, e, M, re, g, o4⟩
theorem je_not (ha : JE κ a ca) : JE κ (.UnaryOp .Not a pos) (.not ca) :=
  PE.weak (pe_not ha) fun σ H Q t => tM_bind (R := RepL κ.G) (S := RepL κ.G) (k := fun x e => EM.bind (boolOf x) fun k => EM.pure (Vl.d (.bl (!k)))) t fun x Z F as e M H1 va re g ra o => by
    obtain ⟨k, hz, o4⟩ := Out.bool ra o
    exact ⟨k, hz, o4 _ _ _ _ Up.refl g (Rep.bl (!k))⟩
theorem je_ite {ct : CT} (hc : JT κ c ct) (ha : JE κ a ca) (hb : JE κ b cb) : JE κ (.IfExp c a b pos) (.ite ct ca cb) :=
  PE.weak (pe_ifExp hc ha hb) fun σ H Q t => tM_bind (R := rB) (k := fun k e => if k then runE κ.P.T κ.P.rp κ.cl ca e else runE κ.P.T κ.P.rp κ.cl cb e) t fun x Z F as e M H1 va re g ra o => by
    cases (show x = va from ra)
    cases x with
    | true => exact ⟨Z, F, as, e, M, re, g, o⟩
    | false => exact ⟨Z, F, as, e, M, re, g, o⟩
/-! ### tests -/
theorem truD_ok {X : Cx} {G : GG} {F H : Hp} {x : V} {d : D} {k : Bool} (hk : X.K = G.K) (ex : Ex F H) (h : Sh G F H x d) (e : truD d = some k) : TruV X.K x H k := by
  cases d with
  | non => cases h.non; cases e; rfl
  | bl b => cases h.bl; cases e; rfl
  | int i => cases h.int; cases e; rfl
  | str y =>
    cases h.str
    simp only [truD] at e
    split at e
    · rename_i hz
      cases e
      exact ⟨szOk_le hz, rfl⟩
    · cases e
  | tup xs =>
    obtain ⟨p, vs, rfl, t, r⟩ := h.tup
    cases e
    refine .inr (.inl ⟨vs, by rw [hk]; exact Evl.ex_t ex t, ?_⟩)
    have := r.length
    cases vs <;> cases xs <;> first | rfl | cases this
  | lst xs =>
    obtain ⟨p, vs, rfl, t, r⟩ := h
    cases e
    refine .inl ⟨vs, .inl (.inl t), ?_⟩
    have := r.length
    cases vs <;> cases xs <;> first | rfl | cases this
  | dic _ => cases e
  | obj _ _ => cases e
/-- a value that is a bool, as a test -/
theorem jt_val (h : Ok0 κ) (ha : JE κ a ca) (he : ∀ whole, isTrue a κ.X.env whole = (do let v ← whole; standAt a.pos; holding [v] (truthy v)) := by intro _; rfl) : JT κ a (.val ca) :=
  PT.weak (pt_truth ha he) fun σ H Q t => tM_bind (k := fun x e => EM.bind (peek x) fun d => EM.o (truD d)) t fun x Z F as e M H1 va re g ra o => by
    obtain ⟨d, M1, e1, o1⟩ := o.got fun _ _ => peek_nx
    obtain ⟨q1, s1⟩ := peek_ok g ra e1
    rw [q1] at o1
    obtain ⟨k, ek, q⟩ := o1.o
    have hq : Q k H1 := q k F as H1 Up.refl g rfl
    exact ⟨k, truD_ok h.k g.sub s1 ek, hq⟩
theorem jt_not {ct : CT} (ha : JT κ a ct) : JT κ (.UnaryOp .Not a pos) (.not ct) :=
  PT.weak (pt_not ha) fun σ H Q t => tM_bind (R := rB) (S := rB) (k := fun k e => EM.pure (!k)) t fun x Z F as e M H1 va re g ra o => by
    cases (show x = va from ra)
    exact o _ _ _ _ Up.refl g rfl
theorem jw_and {ct cu : CT} {rest : List Expr} (ha : JT κ a ct) (hb : JW κ (.BoolOp .And (b :: rest) pos) cu) : JW κ (.BoolOp .And (a :: b :: rest) pos) (.and ct cu) :=
  PW.weak (pw_and ha hb) fun σ H Q t => tM_bind (R := rB) (S := rB) (k := fun k e => if k then runT κ.P.T κ.P.rp κ.cl cu e else EM.pure false) t fun x Z F as e M H1 va re g ra o => by
    cases (show x = va from ra)
    cases x with
    | true => exact ⟨Z, F, as, e, M, re, g, o⟩
    | false => exact o _ _ _ _ Up.refl g rfl
theorem jw_or {ct cu : CT} {rest : List Expr} (ha : JT κ a ct) (hb : JW κ (.BoolOp .Or (b :: rest) pos) cu) : JW κ (.BoolOp .Or (a :: b :: rest) pos) (.or ct cu) :=
  PW.weak (pw_or ha hb) fun σ H Q t => tM_bind (R := rB) (S := rB) (k := fun k e => if k then EM.pure true else runT κ.P.T κ.P.rp κ.cl cu e) t fun x Z F as e M H1 va re g ra o => by
    cases (show x = va from ra)
    cases x with
    | false => exact ⟨Z, F, as, e, M, re, g, o⟩
    | true => exact o _ _ _ _ Up.refl g rfl
theorem jw_and1 {ct : CT} (ha : JT κ a ct) : JW κ (.BoolOp .And [a] pos) ct := pw_and1 ha
theorem jw_or1 {ct : CT} (ha : JT κ a ct) : JW κ (.BoolOp .Or [a] pos) ct := pw_or1 ha
theorem jt_w {ct : CT} (ha : JW κ a ct) : JT κ a ct := ha.pt
/-! ### arguments -/
theorem ja_nil : JA κ [] .nil := PA.weak pa_nil fun σ H Q t => by
  obtain ⟨Z, F, as, e, M, re, g, o⟩ := t
  exact o [] F as H Up.refl g .nil
theorem ja_cons (ha : JE κ a ca) (hr : JA κ es cs) (hs : starEach (a :: es) κ.X.env = (false, eval a κ.X.env) :: starEach es κ.X.env := by rfl) : JA κ (a :: es) (.cons ca cs) :=
  PA.weak (pa_cons ha hr hs) fun σ H Q t => tM_bind (S := RepLs κ.G) (k := fun v e => EM.bind (runL κ.P.T κ.P.rp κ.cl cs e) fun vs => EM.pure (v :: vs)) t fun x Z F as e M H1 va re g ra o =>
    ⟨Z, F, as, e, M, re, g, o.bind fun ys F2 as2 H2 vs M2 _ u2 g2 rs o2 => o2 _ _ _ _ Up.refl g2 (.cons (ra.mono u2) rs)⟩
theorem RepLs.ofReps {G : GG} {F : Hp} {as : List Addr} : ∀ {vs : List V} {ds : List D}, Reps G F vs ds → RepLs G F as vs (ds.map .d)
  | _, _, .nil => .nil
  | _, _, .cons h r => .cons h (RepLs.ofReps r)
theorem RepLs.append {G : GG} {F : Hp} {as : List Addr} : ∀ {vs ws : List V} {ds es : List Vl}, RepLs G F as vs ds → RepLs G F as ws es → RepLs G F as (vs ++ ws) (ds ++ es)
  | _, _, _, _, .nil, s => s
  | _, _, _, _, .cons h r, s => .cons h (RepLs.append r s)
theorem ja_star {p : Pos} (h : Ok0 κ) (ha : JE κ a ca) (hr : JA κ es cs) (hs : starEach (.Starred a p :: es) κ.X.env = (true, eval a κ.X.env) :: starEach es κ.X.env := by rfl) : JA κ (.Starred a p :: es) (.star ca cs) :=
  PA.weak (StX.pa_star ha hr hs) fun σ H Q t => tM_bind (S := RepLs κ.G) (k := fun v e => EM.bind (peek v) fun d => EM.bind (EM.o (items d)) fun xs => EM.bind (runL κ.P.T κ.P.rp κ.cl cs e) fun vs => EM.pure (xs.map Vl.d ++ vs)) t fun x Z F as e M H1 va re g ra o => by
    obtain ⟨d, M1, e1, o1⟩ := o.got fun _ _ => peek_nx
    obtain ⟨q1, s1⟩ := peek_ok g ra e1
    rw [q1] at o1
    cases d with
    | tup xs =>
      obtain ⟨p, ws, rfl, t1, r1⟩ := s1.tup
      exact ⟨p, ws, rfl, .inl (by rw [h.k]; exact Evl.ex_t g.sub t1), Z, F, as, e, M, re, g, Out.bind (m := runL κ.P.T κ.P.rp κ.cl cs e) (k := fun vs => EM.pure (xs.map Vl.d ++ vs)) o1 fun ys F2 as2 H2 vs M2 _ u2 g2 rs o2 => o2 _ _ _ _ Up.refl g2 ((RepLs.ofReps (r1.mono u2.ex)).append rs)⟩
    | lst xs =>
      obtain ⟨p, ws, rfl, t1, r1⟩ := s1
      exact ⟨p, ws, rfl, .inr (.inl (.inl t1)), Z, F, as, e, M, re, g, Out.bind (m := runL κ.P.T κ.P.rp κ.cl cs e) (k := fun vs => EM.pure (xs.map Vl.d ++ vs)) o1 fun ys F2 as2 H2 vs M2 _ u2 g2 rs o2 => o2 _ _ _ _ Up.refl g2 ((RepLs.ofReps (r1.mono u2.ex)).append rs)⟩
    | _ => exact o1.elim
/-! ### displays -/
theorem toDs_nx {vs : List Vl} {M M' : Mem} {x : Xc} : toDs vs M ≠ some (.ex x, M') := by
  induction vs generalizing M M' x with
  | nil => intro e; cases e
  | cons v r ih =>
    intro e
    unfold toDs EM.bind at e
    cases q : toD v M with
    | none => simp only [q] at e; cases e
    | some p =>
      obtain ⟨p, M1⟩ := p
      cases p with
      | ex y => exact toD_nx q
      | ok d =>
        simp only [q] at e
        cases q2 : toDs r M1 with
        | none => simp only [q2] at e; cases e
        | some p2 =>
          obtain ⟨p2, M2⟩ := p2
          cases p2 with
          | ex y => exact ih q2
          | ok ds => simp only [q2] at e; cases e
theorem toDs_ok {G : GG} {as : List Addr} {H : Hp} : ∀ {vs : List Vl} {xs : List V} {F : Hp} {M M' : Mem} {ds : List D}, Good G Z F as M H → RepLs G F as xs vs → toDs vs M = some (.ok ds, M') → ∃ F', Good G Z F' as M' H ∧ Up F as F' as ∧ Reps G F' xs ds
  | [], _, F, M, M', ds, g, .nil, e => by
    cases e
    exact ⟨F, g, Up.refl, .nil⟩
  | v :: r, _, F, M, M', ds, g, .cons h t, e => by
    unfold toDs EM.bind at e
    cases q : toD v M with
    | none => simp only [q] at e; cases e
    | some p =>
      obtain ⟨p, M1⟩ := p
      cases p with
      | ex y => exact (toD_nx q).elim
      | ok d =>
        simp only [q] at e
        obtain ⟨F1, g1, u1, r1⟩ := toD_ok g h q
        cases q2 : toDs r M1 with
        | none => simp only [q2] at e; cases e
        | some p2 =>
          obtain ⟨p2, M2⟩ := p2
          cases p2 with
          | ex y => exact (toDs_nx q2).elim
          | ok es =>
            simp only [q2] at e
            cases e
            obtain ⟨F2, g2, u2, r2⟩ := toDs_ok g1 (t.mono u1) q2
            exact ⟨F2, g2, u1.trans u2, .cons (r1.mono u2.ex) r2⟩
theorem je_tup {x1 : Nat} (ha : JA κ es cs) : JE κ (.Tuple es x1 pos) (.tup cs) :=
  PE.weak (pe_tup ha) fun σ H Q t => tM_bind (R := RepLs κ.G) (S := RepL κ.G) (k := fun vs e => EM.bind (toDs vs) mkTup) t fun xs Z F as e M H1 vs re g rs o => by
    obtain ⟨ds, M1, e1, o1⟩ := o.got fun _ _ => toDs_nx
    obtain ⟨F1, g1, u1, r1⟩ := toDs_ok g rs e1
    obtain ⟨v, ev, q⟩ := Out.o o1
    split at ev
    · rename_i hz
      cases ev
      refine ⟨by rw [r1.length]; exact szOk_le hz, fun p hp => ?_⟩
      obtain ⟨g2, u2⟩ := g1.lay (o := .tup xs) hp
      exact q _ _ _ _ (u1.trans u2) g2 (Rep.tup (.inl (.inl upd_same)) (r1.mono u2.ex))
    · cases ev
theorem je_lst (ha : JA κ es cs) : JE κ (.List es pos) (.lst cs) :=
  PE.weak (pe_lst ha) fun σ H Q t => tM_bind (R := RepLs κ.G) (S := RepL κ.G) (k := fun vs e => EM.bind (toDs vs) mkLst) t fun xs Z F as e M H1 vs re g rs o => by
    obtain ⟨ds, M1, e1, o1⟩ := o.got fun _ _ => toDs_nx
    obtain ⟨F1, g1, u1, r1⟩ := toDs_ok g rs e1
    obtain ⟨v, ev, q⟩ := Out.o o1
    split at ev
    · rename_i hz
      cases ev
      refine ⟨by rw [r1.length]; exact szOk_le hz, fun p hp => ?_⟩
      obtain ⟨g2, u2⟩ := g1.lay (o := .lst xs) hp
      exact q _ _ _ _ (u1.trans u2) g2 (Rep.lst upd_same (r1.mono u2.ex))
    · cases ev
theorem je_new (ha : JA κ es cs) : JE κ (.List es pos) (.new cs) :=
  PE.weak (pe_lst ha) fun σ H Q t => tM_bind (R := RepLs κ.G) (S := RepL κ.G) (k := fun vs e => EM.bind (toDs vs) mkNew) t fun xs Z F as e M H1 vs re g rs o => by
    obtain ⟨ds, M1, e1, o1⟩ := o.got fun _ _ => toDs_nx
    obtain ⟨F1, g1, u1, r1⟩ := toDs_ok g rs e1
    unfold mkNew at o1
    split at o1
    · rename_i hz
      refine ⟨by rw [r1.length]; exact szOk_le hz, fun p hp => ?_⟩
      obtain ⟨g2, u2⟩ := g1.born (o := .lst xs) (mo := .lst ds) hp fun as' _ => ⟨g1.noF hp, xs, upd_same, r1⟩
      refine o1 _ _ _ _ (u1.trans u2) g2 ⟨p, ?_, rfl⟩
      rw [← g1.len, List.getElem?_append_right (Nat.le_refl _)]
      simp
    · exact o1.elim
end
end TD
set_option Elab.async false
set_option linter.all false
set_option maxRecDepth 100000
set_option maxHeartbeats 2000000
/-! TD, part G: objects and calls. -/
namespace TD
open PySem L2
/-! ### what is dropped at a def's end -/
section
variable {G : GG} {F H : Hp} {as : List Addr} {M : Mem}
theorem take_get {b n : Nat} {a : Addr} (hn : n < b) (e : as[n]? = some a) : (as.take b)[n]? = some a := by
  rw [List.getElem?_take, if_pos hn]
  exact e
theorem RepLF.cut {b : Nat} : ∀ {fs' : List (Str × V)} {fs : List (Str × Vl)}, RepLF G F as fs' fs → (fs.all fun f => noLoc b f.2) = true → RepLF G F (as.take b) fs' fs
  | _, _, .nil, _ => .nil
  | _, _, .cons (d := d) h r, e => by
    rw [List.all_cons] at e
    obtain ⟨e1, e2⟩ := Bool.and_eq_true_iff.mp e
    refine .cons ?_ (RepLF.cut r e2)
    cases d with
    | d x => exact h
    | loc n =>
      obtain ⟨a, h1, h2⟩ := h
      exact ⟨a, take_get (of_decide_eq_true e1) h1, h2⟩
theorem okCut_get {b : Nat} : ∀ {M : Mem} {n c : Nat} {fs : List (Str × Vl)}, okCut b M = true → M[n]? = some (.ins c fs) → (fs.all fun f => noLoc b f.2) = true
  | [], _, _, _, _, e => by simp at e
  | mo :: r, 0, c, fs, h, e => by
    have e' : mo = .ins c fs := by simpa using e
    subst e'
    unfold okCut at h
    exact (Bool.and_eq_true_iff.mp h).1
  | mo :: r, n + 1, c, fs, h, e => by
    have h2 : okCut b r = true := by
      cases mo <;> unfold okCut at h <;> first | exact h | exact (Bool.and_eq_true_iff.mp h).2
    exact okCut_get (n := n) h2 (by simpa using e)
theorem Good.cut {b : Nat} (g : Good G Z F as M H) (h : okCut b (M.take b) = true) : Good G Z F (as.take b) (M.take b) H := by
  refine ⟨g.sub, by simp [g.len], g.nd.sublist (List.take_sublist _ _), fun n a mo e1 e2 => ?_, g.zh, g.zf, fun a o hz hm => g.za a o hz (List.mem_of_mem_take hm)⟩
  have hn : n < b := by
    have := (List.getElem?_eq_some_iff.mp e1).1
    rw [List.length_take] at this
    omega
  rw [List.getElem?_take, if_pos hn] at e1
  have e3 : M[n]? = some mo := by
    rw [List.getElem?_take, if_pos hn] at e2
    exact e2
  have ok := g.ok n a mo e1 e3
  cases mo with
  | ins c fs =>
    obtain ⟨f, dx, fs', h1, r⟩ := ok
    exact ⟨f, dx, fs', h1, r.cut (okCut_get h e2)⟩
  | lst _ => exact ok
  | dic _ => exact ok
  | frz _ => exact ok
  | scr _ => exact ok
theorem pre_take {as as' : List Addr} {n : Nat} (h : as <+: as') (hn : as.length = n) : as'.take n = as := by
  obtain ⟨t, rfl⟩ := h
  subst hn
  simp
end
/-! ### objects -/
structure Ok1 (κ : Kx) : Prop extends Ok0 κ where
  fld : ∀ c f, κ.P.T.fld c f = true → Cls κ.X.K (κ.G.cl c) ∧ NoAttr κ.X.K (κ.G.cl c) f
theorem RepLF.lookup {G : GG} {F : Hp} {as : List Addr} {n : Str} : ∀ {vs : List (Str × V)} {ds : List (Str × Vl)}, RepLF G F as vs ds → (ds.lookup n = none → vs.lookup n = none) ∧ ∀ d, ds.lookup n = some d → ∃ v, vs.lookup n = some v ∧ RepL G F as v d
  | _, _, .nil => ⟨fun _ => rfl, fun d e => by simp at e⟩
  | _, _, .cons (n := k) h r => by
    obtain ⟨h1, h2⟩ := RepLF.lookup (n := n) r
    simp only [List.lookup_cons]
    by_cases q : (n == k) = true
    · simp only [q]
      refine ⟨fun e => ?_, fun d e => ?_⟩
      · cases e
      · cases e
        exact ⟨_, rfl, h⟩
    · rw [Bool.not_eq_true] at q
      simp only [q]
      exact ⟨h1, h2⟩
theorem look_ok {G : GG} {F H : Hp} {as : List Addr} {M : Mem} {x : V} {v : Vl} {f : Str} {c : Nat} {o : Option Vl} (g : Good G Z F as M H) (r : RepL G F as x v) (e : look f v M = some (c, o)) :
    ∃ a dx fs, x = .ref a ∧ H a = some (.ins (G.cl c) dx fs) ∧ (o = none → fs.lookup f = none) ∧ ∀ u, o = some u → ∃ w, fs.lookup f = some w ∧ RepL G F as w u := by
  have frozen : ∀ {y : V} {fs : List (Str × D)}, Rep G F y (.obj c fs) → o = (fs.lookup f).map .d → ∃ a dx fs, y = .ref a ∧ H a = some (.ins (G.cl c) dx fs) ∧ (o = none → fs.lookup f = none) ∧ ∀ u, o = some u → ∃ w, fs.lookup f = some w ∧ RepL G F as w u := by
    intro y fs ry eo
    cases ry with
    | obj h rf =>
      refine ⟨_, _, _, rfl, g.sub _ _ h, fun z => ?_, fun u z => ?_⟩
      · subst z
        exact rf.lookup_none (Option.map_eq_none_iff.mp eo.symm)
      · subst z
        obtain ⟨d, hd, rfl⟩ := Option.map_eq_some_iff.mp eo.symm
        exact rf.lookup hd
  cases v with
  | d y =>
    cases y with
    | obj k fs =>
      simp only [look] at e
      cases e
      exact frozen r rfl
    | _ => cases e
  | loc n =>
    obtain ⟨a, ha, rfl⟩ := r
    cases q : M[n]? with
    | none => simp only [look, q] at e; cases e
    | some mo =>
      have ok := g.ok n a mo ha q
      cases mo with
      | ins k fs =>
        simp only [look, q] at e
        cases e
        obtain ⟨_, dx, fs', h, rf⟩ := ok
        exact ⟨a, dx, fs', rfl, h, (RepLF.lookup rf).1, (RepLF.lookup rf).2⟩
      | frz y =>
        cases y with
        | obj k fs =>
          simp only [look, q] at e
          cases e
          exact frozen ok.2 rfl
        | _ => simp only [look, q] at e; cases e
      | _ => simp only [look, q] at e; cases e
section
variable {κ : Kx} {a b c e o : Expr} {ca cb cc ce co : CE} {es : List Expr} {cs : CL} {pos : Pos}
theorem je_fld {f : Str} (h : Ok1 κ) (ha : JE κ a ca) (hb : attributeBase a f κ.X.env (eval a κ.X.env) = eval a κ.X.env := by rfl) (hl : ∀ (M : Model) (A : Around) (E : Value → Shared → Prop) (Q : Unit → Shared → Prop) (s : Shared) (x r : Value), True := by intros; trivial) : JE κ (.Attribute a f pos) (.fld ca f) :=
  PE.weak (pe_fld ha hb) fun σ H Q t => tM_bind (R := RepL κ.G) (S := RepL κ.G) (k := fun x e => fieldOf κ.P.T f x) t fun x Z F as e M H1 va re g ra o => by
    unfold fieldOf at o
    split at o
    · rename_i k u hu
      split at o
      · rename_i hf
        obtain ⟨p, dx, fs, rfl, h1, _, h2⟩ := look_ok g ra hu
        obtain ⟨w, h3, rw⟩ := h2 u rfl
        obtain ⟨h4, h5⟩ := h.fld k f hf
        exact ⟨p, _, dx, fs, w, rfl, h1, h4, h5, h3, o w F as H1 Up.refl g rw⟩
      · exact o.elim
    · exact o.elim
end
/-! ### calls -/
def spF (G : GG) (P : Prg) (k f : Nat) : Sp := fun vs H Q E => ∃ Z F as ds M, RepLs G F as vs ds ∧ Good G Z F as M H ∧ Out G Z F as (RepL G) Q E (callN P k (.fn f) ds M)
/-- a promise by positional values, where nothing is being shown by repr -/
def FnG (P : Program) (w : World) (K : PySem.W.Frag) (mg : Str → Option Value) (base : Heap) (k : Nat) (f : Addr) (sp : Sp) : Prop :=
  ∀ (A : Around) (outer : List PySem.Env) (s : Shared) (H : Hp) (us : List Value) (vs : List V) (Q : VK) (E : XK), Room k A → A.guards = some [] → Env0 P w K mg base A outer s H → Vals vs us → sp vs H Q E →
    codeAny (model P w) A (.call (.ref f) ⟨us, []⟩) (CR (L2.CX P w) outer P w H s Q E) s
structure Ok (κ : Kx) : Prop extends Ok1 κ where
  calm : κ.X.calm = true
  room : Room κ.n κ.X.A
  tk : Takes κ.X κ.W
  po : PassesOwn (model κ.X.prog κ.X.w) κ.X.A κ.X.env κ.X.xe
  nd : κ.X.N.Nodup
  fn : ∀ k, k ≤ κ.n → ∀ f, FnG κ.X.prog κ.X.w κ.X.K κ.X.mg κ.X.base k (κ.G.fa f) (spF κ.G κ.P k f)
  met : ∀ c m f, κ.P.T.met c m = some f → Cls κ.X.K (κ.G.cl c) ∧ Meth κ.X.K (κ.G.cl c) m (κ.G.fa f)
  cls : ∀ c C, κ.P.cd c = some C → Mk κ.X.K (κ.G.cl c) (κ.G.fa C.init)
theorem under_guards {A : Around} {a : Args} (h : A.guards = some []) : (A.under (.builtin "type.__call__" a)).guards = some [] := by
  unfold Around.under
  rw [h]
  rfl
section
variable {κ : Kx} {pins : List (Addr × Obj)} {σ : L2.St} {H : Hp} {s : Shared} {Q : VK} {us : List Value} {vs : List V}
theorem run_at (h : Ok κ) {k f : Nat} (hk : k ≤ κ.n) (I : Inv κ.X pins σ H s) (r : Vals vs us) (q : spF κ.G κ.P k f vs H Q (fun c d H' => κ.W c d σ H')) :
    wpAny (model κ.X.prog κ.X.w) κ.X.A (call (.ref (κ.G.fa f)) us) (EP κ.X pins σ Q) κ.X.xe s := by
  have run := h.fn k hk f κ.X.A κ.X.stack s H us vs Q _ (h.room.mono hk) h.gd I.env0 r q
  refine wpAny_call (codeAny_mono run fun res s' hres => ?_)
  match res, hres with
  | .error e, hres => exact h.tk e s' (XE.of_call I (fun _ _ _ z => z) hres)
  | .ok (.ret _), hres => exact I.after hres
  | .ok .next, hres => exact hres.elim
  | .ok .brk, hres => exact hres.elim
  | .ok .cont, hres => exact hres.elim
/-- a new object by its class -/
theorem mk_at (h : Ok κ) {c k : Nat} {C : Cd} (hc : κ.P.cd c = some C) (hn : κ.n = k + 1) (I : Inv κ.X pins σ H s) (r : Vals vs us) {F : Hp} {as : List Addr} {ds : List Vl} {M : Mem} (rs : RepLs κ.G F as vs ds) (g : Good κ.G Z F as M H)
    (o : Out κ.G Z F as (RepL κ.G) Q (fun c d H' => κ.W c d σ H') (callN κ.P κ.n (.mk c) ds M)) : wpAny (model κ.X.prog κ.X.w) κ.X.A (call (.ref (κ.G.cl c)) us) (EP κ.X pins σ Q) κ.X.xe s := by
  have m := h.cls c C hc
  have I2 := Inv.made (C := κ.G.cl c) I
  let x := s.heap.objs.size + 1
  let dx := s.heap.objs.size
  have nx : H x = none := I.hok.fresh (Nat.le_succ _)
  have nd : H dx = none := I.hok.fresh (Nat.le_refl _)
  have ne : x ≠ dx := Nat.succ_ne_self _
  have ex1 : Ex H (upd H dx (.own x)) := Evl.Ex.new nd
  have g1 : Good κ.G Z F as M (upd H dx (.own x)) := g.heap ex1
  have nx1 : (upd H dx (.own x)) x = none := by rw [upd_ne ne]; exact nx
  obtain ⟨g2, u2⟩ := g1.born (o := .ins (κ.G.cl c) dx []) (mo := .ins c []) nx1 fun as' _ => ⟨g1.noF nx1, dx, [], upd_same, .nil⟩
  have hx : (as ++ [x])[M.length]? = some x := by
    rw [← g.len, List.getElem?_append_right (Nat.le_refl _)]
    simp
  rw [hn] at o
  simp only [callN, hc] at o
  have want : spF κ.G κ.P k C.init (.ref x :: vs) (upd (upd H dx (.own x)) x (.ins (κ.G.cl c) dx [])) (fun v H2 => v = .non ∧ Q (.ref x) H2) (fun c d H' => κ.W c d σ H') := by
    refine ⟨Z, F, as ++ [x], .loc M.length :: ds, M ++ [.ins c []], .cons ⟨x, hx, rfl⟩ (rs.mono u2), g2, ?_⟩
    cases q : callN κ.P k (.fn C.init) (.loc M.length :: ds) (M ++ [.ins c []]) with
    | none => rw [q] at o; exact o
    | some p =>
      obtain ⟨p, M1⟩ := p
      rw [q] at o
      cases p with
      | ex y =>
        simp only at o
        split at o
        · rename_i hcut
          intro dd fs F1 as1 H1 u g3 h1 h2
          have hpre : as1.take M.length = as := pre_take (u2.trans u).pre g.len
          exact o dd fs F1 as H1 ⟨(u2.trans u).ex, List.prefix_refl _⟩ (by have := g3.cut hcut; rw [hpre] at this; exact this) h1 h2
        · exact o.elim
      | ok v =>
        cases v with
        | loc n => exact o.elim
        | d y =>
          cases y with
          | non =>
            simp only at o
            intro w F1 as1 H1 u g3 rw1
            have hw : w = .non := by cases (show Rep κ.G F1 w .non from rw1); rfl
            have hx1 : as1[M.length]? = some x := pre_get u.pre hx
            refine ⟨hw, ?_⟩
            split at o
            · cases q2 : freeze M.length M1 with
              | none => rw [q2] at o; exact o.elim
              | some p2 =>
                obtain ⟨p2, M2⟩ := p2
                rw [q2] at o
                cases p2 with
                | ex y => exact o.elim
                | ok d =>
                  simp only at o
                  split at o
                  · rename_i hcut
                    obtain ⟨F2, g4, u4, r4⟩ := freeze_ok g3 hx1 q2
                    have hpre : as1.take M.length = as := pre_take (u2.trans u).pre g.len
                    have g5 := g4.cut hcut
                    rw [hpre] at g5
                    exact o _ F2 as H1 ⟨((u2.trans u).trans u4).ex, List.prefix_refl _⟩ g5 r4
                  · exact o.elim
            · exact o _ F1 as1 H1 (u2.trans u) g3 ⟨x, hx1, rfl⟩
          | _ => exact o.elim
  have r2 : Vals (V.ref x :: vs) (Value.ref x :: us) := .cons rfl r
  have hk : k ≤ κ.n := by omega
  have hr : Room (k + 1) κ.X.A := by rw [← hn]; exact h.room
  have run := h.fn k hk C.init _ κ.X.stack _ _ (Value.ref x :: us) _ _ _ (hr.make (κ.G.cl c) us []) (under_guards h.gd) (I2.env0.make (κ.G.cl c) us []) r2 want
  refine wpAny_call (make_map I.kIn m.makes m.init (beq_iff_eq.mp m.fn) (codeAny_mono run fun res s' hres => ?_))
  match res, hres with
  | .error e, hres => exact h.tk e s' (XE.of_call I2 (fun _ _ _ z => z) hres)
  | .ok (.ret u), hres =>
    obtain ⟨v, H', I3, rv, ev, q3⟩ := I2.after hres
    subst ev
    exact ⟨rv, ⟨V.ref x, H', I3, rfl, q3⟩⟩
  | .ok .next, hres => exact hres.elim
  | .ok .brk, hres => exact hres.elim
  | .ok .cont, hres => exact hres.elim
end
/-- a function or a class, as it is called -/
structure Cal (κ : Kx) (f : Fi) (u : Value) : Prop where
  kp : PySem.W.keepIn κ.X.K u = true
  run : ∀ {pins : List (Addr × Obj)} {σ : L2.St} {H : Hp} {s : Shared} {Q : VK} {us : List Value} {vs : List V} {Z F : Hp} {as : List Addr} {ds : List Vl} {M : Mem}, Inv κ.X pins σ H s → Vals vs us → RepLs κ.G F as vs ds → Good κ.G Z F as M H →
    Out κ.G Z F as (RepL κ.G) Q (fun c d H' => κ.W c d σ H') (callN κ.P κ.n f ds M) → wpAny (model κ.X.prog κ.X.w) κ.X.A (call u us) (EP κ.X pins σ Q) κ.X.xe s
theorem cal_fn {κ : Kx} (h : Ok κ) {f : Nat} (kp : PySem.W.keepIn κ.X.K (.ref (κ.G.fa f)) = true) : Cal κ (.fn f) (.ref (κ.G.fa f)) :=
  ⟨kp, fun I r rs g o => run_at h (Nat.le_refl _) I r ⟨_, _, _, _, _, rs, g, o⟩⟩
theorem cal_mk {κ : Kx} (h : Ok κ) {c : Nat} {C : Cd} (hc : κ.P.cd c = some C) : Cal κ (.mk c) (.ref (κ.G.cl c)) :=
  ⟨(h.cls c C hc).kp, fun {pins σ H s Q us vs Z F as ds M} I r rs g o => by
    cases hn : κ.n with
    | zero =>
      rw [hn] at o
      exact o.elim
    | succ k => exact mk_at h hc hn I r rs g o⟩
section
variable {κ : Kx} {a b c e o : Expr} {ca cb cc ce co : CE} {es : List Expr} {cs : CL} {pos p apos : Pos} {f : Fi} {u : Value} {x : Str}
/-- x(), x(e, ..), x(*e), x(e, .., *e) -/
theorem je_call0 (k : Cal κ f u) (hg : Gl κ.X x) (hm : κ.X.mg x = some u) (hd : (x == ("__debug__" : Str)) = false := by decide) : JE κ (.Call (.Name x p) [] [] pos) (.call f .nil) := by
  refine ⟨fun pins s σ H Q I t => ?_⟩
  obtain ⟨Z, F, as, e, M, re, g, o⟩ := t
  refine wpAny_Call_Name_kw (ld_glob I hg hm ?_ hd)
  exact PySem.W.callWith_K0 I.kIn k.kp (k.run (us := []) (vs := []) (ds := []) I .nil .nil g o)
theorem je_call (k : Cal κ f u) (hg : Gl κ.X x) (hm : κ.X.mg x = some u) (ha : JA κ (e :: es) cs) (hd : (x == ("__debug__" : Str)) = false := by decide)
    (he : starEach (e :: es) κ.X.env = (false, eval e κ.X.env) :: starEach es κ.X.env := by rfl) (hp : (backTo pos (starEach es κ.X.env)).any (·.1) = false := by rfl) : JE κ (.Call (.Name x p) (e :: es) [] pos) (.call f cs) := by
  refine ⟨fun pins s σ H Q I t => ?_⟩
  refine wpAny_Call_Name_kw (ld_glob I hg hm ?_ hd)
  refine PySem.W.callWith_K (h₀ := κ.X.base) I.ok.mod.kin k.kp (thn (ha.run pos pins s σ H _ I (tM_bind (R := RepLs κ.G) (Q := fun vs H1 => ∃ Z F as ds M, RepLs κ.G F as vs ds ∧ Good κ.G Z F as M H1 ∧ Out κ.G Z F as (RepL κ.G) Q (fun c d H' => κ.W c d σ H') (callN κ.P κ.n f ds M)) (k := fun vs e => κ.cl f vs) t fun vs Z F as e M H1 ds re g rs o => ⟨Z, F, as, ds, M, rs, g, o⟩)) fun us s1 ⟨vs, H1, I1, r, Z, F, as, ds, M, rs, g, o⟩ => ⟨I1.kIn, ?_⟩) he hp
  exact k.run I1 r rs g o
theorem je_callS (k : Cal κ f u) (hg : Gl κ.X x) (hm : κ.X.mg x = some u) (ha : JA κ (e :: es) cs) (hd : (x == ("__debug__" : Str)) = false := by decide)
    (he : starEach (e :: es) κ.X.env = (false, eval e κ.X.env) :: starEach es κ.X.env := by rfl) (hp : (backTo pos (starEach es κ.X.env)).any (·.1) = true := by rfl) : JE κ (.Call (.Name x p) (e :: es) [] pos) (.call f cs) := by
  refine ⟨fun pins s σ H Q I t => ?_⟩
  refine wpAny_Call_Name_kw (ld_glob I hg hm ?_ hd)
  refine PySem.W.callWith_S2 (h₀ := κ.X.base) I.ok.mod.kin k.kp (thn (ha.run pos pins s σ H _ I (tM_bind (R := RepLs κ.G) (Q := fun vs H1 => ∃ Z F as ds M, RepLs κ.G F as vs ds ∧ Good κ.G Z F as M H1 ∧ Out κ.G Z F as (RepL κ.G) Q (fun c d H' => κ.W c d σ H') (callN κ.P κ.n f ds M)) (k := fun vs e => κ.cl f vs) t fun vs Z F as e M H1 ds re g rs o => ⟨Z, F, as, ds, M, rs, g, o⟩)) fun us s1 ⟨vs, H1, I1, r, Z, F, as, ds, M, rs, g, o⟩ => ⟨I1.kIn, ?_⟩) he hp
  exact k.run I1 r rs g o
theorem je_call1 {sp : Pos} (h : Ok0 κ) (k : Cal κ f u) (hg : Gl κ.X x) (hm : κ.X.mg x = some u) (ha : JE κ e ce) (hd : (x == ("__debug__" : Str)) = false := by decide) (hst : starEach [.Starred e sp] κ.X.env = [(true, eval e κ.X.env)] := by rfl) :
    JE κ (.Call (.Name x p) [.Starred e sp] [] pos) (.call f (.star ce .nil)) := by
  refine ⟨fun pins s σ H Q I t => ?_⟩
  refine wpAny_Call_Name_kw (ld_glob I hg hm ?_ hd)
  obtain ⟨Z, F, as, en, M, re, g, o⟩ := t
  have t2 : tM κ.G κ.hx κ.W (RepL κ.G) (runE κ.P.T κ.P.rp κ.cl ce) σ H (fun y H1 => ∃ a xs Z F as ds M, y = V.ref a ∧ (SqT κ.X.K H1 a xs ∨ SqL κ.X.K H1 a xs) ∧ RepLs κ.G F as xs ds ∧ Good κ.G Z F as M H1 ∧ Out κ.G Z F as (RepL κ.G) Q (fun c d H' => κ.W c d σ H') (callN κ.P κ.n f ds M)) := by
    refine ⟨Z, F, as, en, M, re, g, ?_⟩
    have o1 : Out κ.G Z F as (RepL κ.G) Q (fun c d H' => κ.W c d σ H') (EM.bind (runE κ.P.T κ.P.rp κ.cl ce en) (fun v => EM.bind (peek v) fun d => EM.bind (EM.o (items d)) fun xs => κ.cl f (xs.map Vl.d)) M) := by
      have o0 : Out κ.G Z F as (RepL κ.G) Q (fun c d H' => κ.W c d σ H') (EM.bind (EM.bind (runE κ.P.T κ.P.rp κ.cl ce en) fun v => EM.bind (peek v) fun d => EM.bind (EM.o (items d)) fun xs => EM.bind (EM.pure []) fun vs => EM.pure (xs.map Vl.d ++ vs)) (fun vs => κ.cl f vs) M) := o
      unfold EM.bind at o0 ⊢
      cases q : runE κ.P.T κ.P.rp κ.cl ce en M with
      | none => rw [q] at o0; exact o0
      | some r =>
        obtain ⟨r, M1⟩ := r
        rw [q] at o0
        cases r with
        | ex y => exact o0
        | ok v =>
          simp only at o0 ⊢
          cases q2 : peek v M1 with
          | none => rw [q2] at o0; exact o0
          | some r2 =>
            obtain ⟨r2, M2⟩ := r2
            rw [q2] at o0
            cases r2 with
            | ex y => exact o0
            | ok d =>
              simp only at o0 ⊢
              cases q3 : items d with
              | none => simp only [EM.o, q3] at o0; exact o0.elim
              | some xs =>
                simp only [EM.o, q3, EM.pure, List.append_nil] at o0 ⊢
                exact o0
    refine o1.bind fun y F1 as1 H1 v M1 _ u1 g1 rv o2 => ?_
    obtain ⟨d, M2, e2, o3⟩ := o2.got fun _ _ => peek_nx
    obtain ⟨q1, s1⟩ := peek_ok g1 rv e2
    rw [q1] at o3
    cases d with
    | tup xs =>
      obtain ⟨q, ws, rfl, t1, r1⟩ := s1.tup
      exact ⟨q, ws, Z, F1, as1, _, M1, rfl, .inl (by rw [h.k]; exact Evl.ex_t g1.sub t1), RepLs.ofReps r1, g1, o3⟩
    | lst xs =>
      obtain ⟨q, ws, rfl, t1, r1⟩ := s1
      exact ⟨q, ws, Z, F1, as1, _, M1, rfl, .inr (.inl (.inl t1)), RepLs.ofReps r1, g1, o3⟩
    | _ => exact o3.elim
  refine PySem.W.callWith_S (h₀ := κ.X.base) I.ok.mod.kin k.kp (thn (ha.run pins s σ H _ I t2) fun v s1 ⟨y, H1, I1, ry, q, xs, Z1, F1, as1, ds, M1, ey, hxs, rs, g1, o3⟩ => ?_) hst
  subst ey
  obtain rfl : v = Value.ref q := ry
  exact StX.star_any I1 hxs fun us s2 I2 rv => ⟨I2.kIn, k.run I2 rv rs g1 o3⟩
/-- o.m(), o.m(e, ..) -/
theorem met_ok {m : Str} {F H1 : Hp} {as : List Addr} {M : Mem} {y : V} {v : Vl} {g : Nat} (h : Ok κ) (gd : Good κ.G Z F as M H1) (r : RepL κ.G F as y v) (e : metOf κ.P.T m v M = some g) :
    ∃ c a dx fs, y = .ref a ∧ H1 a = some (.ins (κ.G.cl c) dx fs) ∧ fs.lookup m = none ∧ Cls κ.X.K (κ.G.cl c) ∧ Meth κ.X.K (κ.G.cl c) m (κ.G.fa g) := by
  unfold metOf at e
  split at e
  · rename_i c hl
    obtain ⟨a, dx, fs, rfl, h1, h2, _⟩ := look_ok gd r hl
    exact ⟨c, a, dx, fs, rfl, h1, h2 rfl, h.met c m g e⟩
  · cases e
end
end TD
set_option Elab.async false
set_option linter.all false
set_option maxRecDepth 100000
set_option maxHeartbeats 2000000
/-! TD, part H: methods, subscripts, slices, isinstance, built-in functions. -/
namespace TD
open PySem L2
section
variable {κ : Kx} {a b c e o : Expr} {ca cb cc ce co : CE} {es : List Expr} {cs : CL} {pos p apos : Pos} {x : Str}
theorem metE_ok {T : Tab} {m : Str} {v : Vl} {M M' : Mem} {f : Nat} (e : metE T m v M = some (.ok f, M')) : metOf T m v M = some f ∧ M' = M := by
  unfold metE at e
  split at e
  · rename_i g h
    cases e
    exact ⟨h, rfl⟩
  · cases e
theorem metE_nx {T : Tab} {m : Str} {v : Vl} {M M' : Mem} {x : Xc} : metE T m v M ≠ some (.ex x, M') := by
  intro e
  unfold metE at e
  split at e <;> cases e
theorem je_met0 {m : Str} {pl : Sem Bool} (h : Ok κ) (ho : JE κ o co)
    (ht : eval (.Call (.Attribute o m apos) [] [] pos) κ.X.env = (do
      let obj ← eval o κ.X.env
      standAt apos.atName
      let (fn, fst) ← holding [obj] (getMethod obj m pl)
      callWith pos fn fst (backTo pos (starEach [] κ.X.env)) (backToKw pos (keywordEach [] κ.X.env))) := by rfl) : JE κ (.Call (.Attribute o m apos) [] [] pos) (.met m co .nil) := by
  refine ⟨fun pins s σ H Q I t => ?_⟩
  have t2 : tM κ.G κ.hx κ.W (RepL κ.G) (runE κ.P.T κ.P.rp κ.cl co) σ H (fun y H1 => ∃ Z F as v M f, Good κ.G Z F as M H1 ∧ RepL κ.G F as y v ∧ metOf κ.P.T m v M = some f ∧ Out κ.G Z F as (RepL κ.G) Q (fun c d H' => κ.W c d σ H') (callN κ.P κ.n (.fn f) [v] M)) :=
    tM_bind (S := RepL κ.G) (k := fun x e => EM.bind (metE κ.P.T m x) fun f => EM.bind (EM.pure []) fun vs => κ.cl (.fn f) (x :: vs)) t fun y Z F as e M H1 v re g rv o => by
      obtain ⟨f, M1, e1, o1⟩ := o.got fun _ _ => metE_nx
      obtain ⟨h1, h2⟩ := metE_ok e1
      rw [h2] at o1
      exact ⟨Z, F, as, v, M, f, g, rv, h1, o1⟩
  refine PySem.W.methodCall_KW (pl := pl) (thn (ho.run pins s σ H _ I t2) fun u s1 ⟨y, H1, I1, ry, Z, F, as, v, M, f, g, rv, hf, o⟩ => ?_) ht
  obtain ⟨c, a, dx, fs, rfl, h1, h2, h3, h4⟩ := met_ok h g rv hf
  obtain rfl : u = Value.ref a := ry
  refine getmeth_ok I1 h1 h3 h4 h2 ?_
  exact PySem.W.callWith_K0 (first := [.ref a]) I1.kIn h4.kp (run_at (us := [.ref a]) (vs := [.ref a]) h (Nat.le_refl _) I1 (.cons rfl .nil) ⟨Z, F, as, [v], M, .cons rv .nil, g, o⟩)
theorem je_met {m : Str} {pl : Sem Bool} (h : Ok κ) (ho : JE κ o co) (ha : JA κ (e :: es) cs)
    (hst : starEach (e :: es) κ.X.env = (false, eval e κ.X.env) :: starEach es κ.X.env := by rfl) (hpl : (backTo pos (starEach es κ.X.env)).any (·.1) = false := by rfl)
    (ht : eval (.Call (.Attribute o m apos) (e :: es) [] pos) κ.X.env = (do
      let obj ← eval o κ.X.env
      standAt apos.atName
      let (fn, fst) ← holding [obj] (getMethod obj m pl)
      callWith pos fn fst (backTo pos (starEach (e :: es) κ.X.env)) (backToKw pos (keywordEach [] κ.X.env))) := by rfl) : JE κ (.Call (.Attribute o m apos) (e :: es) [] pos) (.met m co cs) := by
  refine ⟨fun pins s σ H Q I t => ?_⟩
  have t2 : tM κ.G κ.hx κ.W (RepL κ.G) (runE κ.P.T κ.P.rp κ.cl co) σ H (fun y H1 => ∃ v f c a dx fs, y = .ref a ∧ H1 a = some (.ins (κ.G.cl c) dx fs) ∧ fs.lookup m = none ∧ Cls κ.X.K (κ.G.cl c) ∧ Meth κ.X.K (κ.G.cl c) m (κ.G.fa f) ∧
      tM κ.G κ.hx κ.W (RepLs κ.G) (runL κ.P.T κ.P.rp κ.cl cs) σ H1 (fun ys H2 => ∃ Z F as vs M, Good κ.G Z F as M H2 ∧ RepLs κ.G F as (y :: ys) (v :: vs) ∧ Out κ.G Z F as (RepL κ.G) Q (fun c d H' => κ.W c d σ H') (callN κ.P κ.n (.fn f) (v :: vs) M))) :=
    tM_bind (S := RepL κ.G) (k := fun x e => EM.bind (metE κ.P.T m x) fun f => EM.bind (runL κ.P.T κ.P.rp κ.cl cs e) fun vs => κ.cl (.fn f) (x :: vs)) t fun y Z F as e M H1 v re g rv o => by
      obtain ⟨f, M1, e1, o1⟩ := o.got fun _ _ => metE_nx
      obtain ⟨h1, h2⟩ := metE_ok e1
      rw [h2] at o1
      obtain ⟨c, a, dx, fs, h3, h4, h5, h6, h7⟩ := met_ok h g rv h1
      exact ⟨v, f, c, a, dx, fs, h3, h4, h5, h6, h7, Z, F, as, e, M, re, g, o1.bind fun ys F2 as2 H2 vs M2 _ u2 g2 rs o2 => ⟨Z, F2, as2, vs, M2, g2, .cons (rv.mono u2) rs, o2⟩⟩
  refine PySem.W.methodCall_KW (pl := pl) (thn (ho.run pins s σ H _ I t2) fun u s1 ⟨y, H1, I1, ry, v, f, c, a, dx, fs, ey, h4, h5, h6, h7, t3⟩ => ?_) ht
  subst ey
  obtain rfl : u = Value.ref a := ry
  refine getmeth_ok I1 h4 h6 h7 h5 ?_
  refine PySem.W.callWith_K (first := [.ref a]) (h₀ := κ.X.base) I.ok.mod.kin h7.kp (thn (ha.run pos pins s1 σ H1 _ I1 t3) fun us s2 ⟨ys, H2, I2, r, Z, F, as, vs, M, g, rs, o⟩ => ⟨I2.kIn, ?_⟩) hst hpl
  exact run_at (us := .ref a :: us) (vs := .ref a :: ys) h (Nat.le_refl _) I2 (.cons rfl r) ⟨Z, F, as, v :: vs, M, rs, g, o⟩
/-! ### subscripts, slices -/
theorem Reps.atI {G : GG} {F : Hp} {vs : List V} {ds : List D} {i : Int} {d : D} (r : Reps G F vs ds) (e : atI ds i = some d) : ∃ v, L2.atI vs i = some v ∧ Rep G F v d := by
  unfold L2.atI at e ⊢
  rw [r.length]
  cases q : ixN ds.length i with
  | none => rw [q] at e; cases e
  | some j =>
    rw [q] at e
    exact r.get (by simpa using e)
theorem op_ix (h : Ok0 κ) : IxR κ.X (rV2 κ.G opI) := by
  intro value slice pins s σ H x y v u Q I rx ry hr hs
  obtain ⟨E, Z, F, as, a, b, M, g, ra, rb, o⟩ := hr
  obtain ⟨dx, dy, s1, s2, o1⟩ := two_peeksW (f := fun dx dy => EM.o ((ixD dx dy).map .d)) g ra rb o
  obtain ⟨z, ez, q⟩ := o1.o
  obtain ⟨d, ed, rfl⟩ := Option.map_eq_some_iff.mp ez
  unfold ixD at ed
  split at ed
  · cases s2.int
    obtain ⟨p, vs, rfl, t1, r1⟩ := s1.tup
    obtain ⟨w, hw, rw⟩ := r1.atI ed
    exact ix_seq value slice pins s σ H _ _ v u Q I rx ry (.inr (.inl ⟨p, vs, _, w, rfl, rfl, by rw [h.k]; exact Evl.ex_t g.sub t1, hw, q w F as H Up.refl g rw⟩)) hs
  · cases s2.int
    obtain ⟨p, vs, rfl, t1, r1⟩ := s1
    obtain ⟨w, hw, rw⟩ := r1.atI ed
    exact ix_seq value slice pins s σ H _ _ v u Q I rx ry (.inl ⟨p, vs, _, w, rfl, rfl, .inl t1, hw, q w F as H Up.refl g rw⟩) hs
  · cases s2.int
    cases s1.str
    split at ed
    · rename_i hz
      obtain ⟨ch, hc, rfl⟩ := Option.map_eq_some_iff.mp ed
      exact ix_seq value slice pins s σ H _ _ v u Q I rx ry (.inr (.inr ⟨_, _, ch, rfl, rfl, szOk_le hz, hc, q _ F as H Up.refl g (Rep.str _)⟩)) hs
    · cases ed
  · cases ed
theorem je_ix (h : Ok0 κ) (ha : JE κ a ca) (hb : JE κ b cb) (hs : PlainIx b := by intro _ _; rfl) : JE κ (.Subscript a b pos) (.ix ca cb) :=
  PE.weak (pe_ix (op_ix h) ha hb hs) fun σ H Q t => tM_bind (k := fun x e => EM.bind (runE κ.P.T κ.P.rp κ.cl cb e) fun y => opI x y) t fun x Z F as e M H1 va re g ra o => ⟨Z, F, as, e, M, re, g, o.bind fun y F2 as2 H2 vb M2 _ u2 g2 rb o2 => ⟨_, Z, F2, as2, va, vb, M2, g2, ra.mono u2, rb, o2⟩⟩
theorem jo_none : JO κ none .none := PO.weak po_none fun σ H Q t => by
  obtain ⟨Z, F, as, e, M, re, g, o⟩ := t
  exact o none F as H Up.refl g rfl
theorem jo_some (ha : JE κ a ca) : JO κ (some a) (.some ca) := PO.weak (po_some ha) fun σ H Q t => tM_bind (R := RepL κ.G) (S := rO) (k := fun v e => EM.bind (intOf v) fun i => EM.pure (some i)) t fun x Z F as e M H1 va re g ra o => by
  obtain ⟨i, hi, o1⟩ := Out.int ra o
  exact ⟨i, hi, o1 _ F as H1 Up.refl g rfl⟩
theorem Reps.cut {G : GG} {F : Hp} {vs : List V} {ds : List D} (r : Reps G F vs ds) (lo hi : Option Int) : Reps G F (cutV vs lo hi) ((ds.drop (HT.sIx ds.length 0 lo)).take (HT.sIx ds.length ds.length hi - HT.sIx ds.length 0 lo)) := by
  unfold cutV
  rw [r.length]
  exact (r.drop _).take _
def rSl (G : GG) : V → Option Int → Option Int → Hp → VK → Prop := fun x lo hi H Q => ∃ E Z F as a M, Good G Z F as M H ∧ RepL G F as x a ∧ Out G Z F as (RepL G) Q E (EM.bind (peekW a) (fun dx => EM.o ((slD dx lo hi).map .d)) M)
theorem op_sl (h : Ok0 κ) : SlR κ.X (rSl κ.G) := by
  intro pins s σ H x v vl vu lo hi sl Q I rx hs pl pu hr
  obtain ⟨E, Z, F, as, a, M, g, ra, o⟩ := hr
  obtain ⟨d, M1, e1, o1⟩ := o.got fun _ _ => peekW_nx
  obtain ⟨q1, s1⟩ := peekW_ok g ra e1
  rw [q1] at o1
  obtain ⟨z, ez, q⟩ := o1.o
  obtain ⟨d2, ed, rfl⟩ := Option.map_eq_some_iff.mp ez
  unfold slD at ed
  split at ed
  · cases ed
    obtain ⟨p, vs, rfl, t1, r1⟩ := s1.tup
    refine sl_tupA pins s σ H _ v vl vu lo hi sl Q I rx hs pl pu ⟨p, vs, rfl, by rw [h.k]; exact Evl.ex_t g.sub t1, fun hw => ?_, fun _ p2 hp => ?_⟩
    · refine q _ F as H Up.refl g ?_
      rw [r1.length] at hw
      rw [hw.1, hw.2, Nat.sub_zero, List.drop_zero, List.take_length]
      exact Rep.tup t1 r1
    · obtain ⟨g2, u2⟩ := g.lay (o := .tup (cutV vs lo hi)) hp
      exact q _ _ _ _ u2 g2 (Rep.tup (.inl (.inl upd_same)) ((r1.cut lo hi).mono u2.ex))
  · cases ed
    obtain ⟨p, vs, rfl, t1, r1⟩ := s1
    refine sl_list pins s σ H _ v vl vu lo hi sl Q I rx hs pl pu ⟨p, vs, rfl, .inl t1, fun p2 hp => ?_⟩
    obtain ⟨g2, u2⟩ := g.lay (o := .lst (cutV vs lo hi)) hp
    exact q _ _ _ _ u2 g2 (Rep.lst upd_same ((r1.cut lo hi).mono u2.ex))
  · cases ed
theorem je_sl {lo hi : Option Expr} {cl ch : CO} {p2 : Pos} (h : Ok0 κ) (ha : JE κ a ca) (hl : JO κ lo cl) (hh : JO κ hi ch) : JE κ (.Subscript a (.Slice lo hi none p2) pos) (.sl ca cl ch) :=
  PE.weak (pe_slice (op_sl h) ha hl hh) fun σ H Q t => tM_bind (k := fun x e => EM.bind (runO κ.P.T κ.P.rp κ.cl cl e) fun l => EM.bind (runO κ.P.T κ.P.rp κ.cl ch e) fun hh => EM.bind (peekW x) fun dx => EM.o ((slD dx l hh).map Vl.d)) t fun x Z F as e M H1 va re g ra o =>
    ⟨Z, F, as, e, M, re, g, o.bind fun l F2 as2 H2 l' M2 _ u2 g2 rl o2 => ⟨Z, F2, as2, e, M2, re.mono u2, g2, o2.bind fun hh F3 as3 H3 h' M3 _ u3 g3 rh o3 => by
      cases (show l = l' from rl)
      cases (show hh = h' from rh)
      exact ⟨_, Z, F3, as3, va, M3, g3, (ra.mono u2).mono u3, o3⟩⟩⟩
/-! ### isinstance -/
def tyD (G : GG) : D → Value
  | .non => .type "NoneType"
  | .bl _ => .type "bool"
  | .int _ => .type "int"
  | .str _ => .type "str"
  | .tup _ => .type "tuple"
  | .lst _ => .type "list"
  | .dic _ => .type "dict"
  | .obj c _ => .ref (G.cl c)
def tyU (G : GG) : Ty → Value
  | .int => .type "int"
  | .bool => .type "bool"
  | .str => .type "str"
  | .tuple => .type "tuple"
  | .list => .type "list"
  | .dict => .type "dict"
  | .cls c => .ref (G.cl c)
def tyVl (G : GG) : Ty → V
  | .int => .ty "int"
  | .bool => .ty "bool"
  | .str => .ty "str"
  | .tuple => .ty "tuple"
  | .list => .ty "list"
  | .dict => .ty "dict"
  | .cls c => .ref (G.cl c)
/-- what is known of the classes for isinstance -/
structure OkI (κ : Kx) : Prop where
  own : ∀ c a dx fs (H : Hp), H a = some (.ins (κ.G.cl c) dx fs) → κ.P.T.isb c c = true → TyX κ.X.K H (.ref a) (.ref (κ.G.cl c))
  kit : ∀ (t : Ty) (d : D), (∀ c fs, d = .obj c fs → κ.P.T.isb c c = true) → (∀ c, t = .cls c → κ.P.T.isb c c = true) → PySem.W.kitOne κ.X.K (tyD κ.G d) (tyU κ.G t) = some (isiD κ.P.T.isb t d)
theorem clsV_ty (G : GG) (t : Ty) : ClsV (tyVl G t) (tyU G t) := by
  cases t <;> first | exact .ty _ | exact .own _
theorem ShW.ty {G : GG} {X : Cx} {F H : Hp} {y : V} {d : D} (hk : X.K = G.K) (ex : Ex F H) (h : ShW G F H y d) (hno : ∀ c fs, d ≠ .obj c fs) : TyX X.K H y (tyD G d) := by
  cases d with
  | non => cases h.non; exact .base .non
  | bl b => cases h.bl; exact .base (.bl b)
  | int b => cases h.int; exact .base (.int b)
  | str b => cases h.str; exact .base (.str b)
  | tup xs =>
    obtain ⟨p, vs, rfl, t, _⟩ := h.tup
    rcases t with (t | ⟨o, t⟩) | ⟨o, its, n, hk2, hc, _⟩
    · exact .base (.tup (ex _ _ t))
    · exact .fTuple (ex _ _ t)
    · exact .kTuple (by rw [hk]; exact hk2) hc
  | lst xs =>
    obtain ⟨p, vs, rfl, t, _⟩ := h
    rcases t with t | ⟨o, t⟩
    · exact .base (.lst t)
    · exact .base (.frz t)
  | dic xs =>
    obtain ⟨p, vs, rfl, t, _⟩ := h
    exact .base (.dK t)
  | obj c fs => exact (hno c fs rfl).elim
theorem shape_ok {F H1 : Hp} {as : List Addr} {M : Mem} {y : V} {v : Vl} {d : D} (h : Ok0 κ) (hi : OkI κ) (g : Good κ.G Z F as M H1) (r : RepL κ.G F as y v) (e : shape v M = some d) (hc : ∀ c fs, d = .obj c fs → κ.P.T.isb c c = true) : TyX κ.X.K H1 y (tyD κ.G d) := by
  have frozen : ∀ {z : D} {w : V}, Rep κ.G F w z → (∀ c fs, z = .obj c fs → κ.P.T.isb c c = true) → TyX κ.X.K H1 w (tyD κ.G z) := fun {z w} rz hz => by
    cases z with
    | obj c fs =>
      cases rz with
      | obj ho _ => exact hi.own c _ _ _ H1 (g.sub _ _ ho) (hz c fs rfl)
    | _ => exact ShW.ty h.k g.sub (Sh.of g.sub rz).wide fun _ _ q => by cases q
  cases v with
  | d z =>
    cases e
    exact frozen r hc
  | loc n =>
    obtain ⟨a, ha, rfl⟩ := r
    cases q : M[n]? with
    | none => simp only [shape, q] at e; cases e
    | some mo =>
      have ok := g.ok n a mo ha q
      cases mo with
      | lst xs =>
        simp only [shape, q] at e
        cases e
        obtain ⟨_, vs, h1, _⟩ := ok
        exact .base (.lst h1)
      | scr xs =>
        simp only [shape, q] at e
        cases e
        obtain ⟨_, o, vs, h1, _⟩ := ok
        exact .base (.frz h1)
      | dic xs =>
        simp only [shape, q] at e
        cases e
        obtain ⟨_, vs, h1, _⟩ := ok
        exact .base (.dK h1)
      | frz z =>
        simp only [shape, q] at e
        cases e
        exact frozen ok.2 hc
      | ins c fs =>
        simp only [shape, q] at e
        cases e
        obtain ⟨_, dx, vs, h1, _⟩ := ok
        exact hi.own c _ _ _ H1 h1 (hc c [] rfl)
/-- isinstance(a, T): cb is the class's expression, v its value -/
theorem je_isi {t : Ty} (h : Ok0 κ) (hi : OkI κ) (ht : ∀ c, t = .cls c → κ.P.T.isb c c = true) (ha : JE κ a ca) (hb : PE κ.X b (tC (tyVl κ.G t))) (hg : Gl κ.X "isinstance") (hm : κ.X.mg "isinstance" = none)
    (he : starEach (a :: [b]) κ.X.env = (false, eval a κ.X.env) :: starEach [b] κ.X.env := by rfl) (he2 : starEach (b :: []) κ.X.env = (false, eval b κ.X.env) :: starEach [] κ.X.env := by rfl) (hpl : (backTo pos (starEach [b] κ.X.env)).any (·.1) = false := by rfl) :
    JE κ (.Call (.Name "isinstance" p) [a, b] [] pos) (.isi ca t) :=
  PE.weak (pe_callB call_isi hg hm (by decide +kernel) (pa_cons ha (pa_cons hb pa_nil he2) he) (he := he) (hpl := hpl)) fun σ H Q q => tM_bind (k := fun x e => isiV κ.P.T t x) q fun x Z F as e M H1 va re g ra o => by
    unfold isiV at o
    split at o
    · rename_i k hk
      obtain ⟨d, h1, h2⟩ := Option.bind_eq_some_iff.mp hk
      have hs := shape_ok h hi g ra h1
      refine ⟨x, _, tyD κ.G d, _, k, rfl, clsV_ty κ.G t, ?_, ?_, o _ F as H1 Up.refl g (Rep.bl k)⟩
      · unfold isiO at h2
        split at h2
        · rename_i c fs
          split at h2
          · rename_i hc
            cases h2
            exact hs fun _ _ z => by cases z; exact hc
          · cases h2
        · rename_i hno
          exact hs fun c fs z => (hno c fs z).elim
      · unfold isiO at h2
        split at h2
        · rename_i c fs
          split at h2
          · rename_i hc
            cases h2
            exact hi.kit t _ (fun _ _ z => by cases z; exact hc) ht
          · cases h2
        · rename_i hno
          cases h2
          exact hi.kit t d (fun c fs z => (hno c fs z).elim) ht
    · exact o.elim
end
end TD
set_option Elab.async false
set_option linter.all false
set_option maxRecDepth 100000
set_option maxHeartbeats 2000000
/-! TD, part I: built-in functions. -/
namespace TD
open PySem L2
inductive ShWs (G : GG) (F H : Hp) : List V → List D → Prop
  | nil : ShWs G F H [] []
  | cons {v : V} {vs : List V} {d : D} {ds : List D} : ShW G F H v d → ShWs G F H vs ds → ShWs G F H (v :: vs) (d :: ds)
theorem peeks_nx : ∀ {vs : List Vl} {M M' : Mem} {x : Xc}, peeks vs M ≠ some (.ex x, M')
  | [], M, M', x, e => by cases e
  | v :: r, M, M', x, e => by
    unfold peeks EM.bind at e
    cases q : peekW v M with
    | none => simp only [q] at e; cases e
    | some p =>
      obtain ⟨p, M1⟩ := p
      cases p with
      | ex y => exact peekW_nx q
      | ok d =>
        simp only [q] at e
        cases q2 : peeks r M1 with
        | none => simp only [q2] at e; cases e
        | some p2 =>
          obtain ⟨p2, M2⟩ := p2
          cases p2 with
          | ex y => exact peeks_nx q2
          | ok ds => simp only [q2] at e; cases e
theorem peeks_ok {G : GG} {F H : Hp} {as : List Addr} : ∀ {vs : List Vl} {xs : List V} {M M' : Mem} {ds : List D}, Good G Z F as M H → RepLs G F as xs vs → peeks vs M = some (.ok ds, M') → M' = M ∧ ShWs G F H xs ds
  | [], _, M, M', ds, g, .nil, e => by
    cases e
    exact ⟨rfl, .nil⟩
  | v :: r, _, M, M', ds, g, .cons h t, e => by
    unfold peeks EM.bind at e
    cases q : peekW v M with
    | none => simp only [q] at e; cases e
    | some p =>
      obtain ⟨p, M1⟩ := p
      cases p with
      | ex y => exact (peekW_nx q).elim
      | ok d =>
        simp only [q] at e
        obtain ⟨h1, h2⟩ := peekW_ok g h q
        subst h1
        cases q2 : peeks r M1 with
        | none => simp only [q2] at e; cases e
        | some p2 =>
          obtain ⟨p2, M2⟩ := p2
          cases p2 with
          | ex y => exact (peeks_nx q2).elim
          | ok es =>
            simp only [q2] at e
            cases e
            obtain ⟨h3, h4⟩ := peeks_ok g t q2
            exact ⟨h3, .cons h2 h4⟩
def bltU : BI → Value
  | .len => .builtin "len"
  | .all => .builtin "all"
  | .max2 => .builtin "max"
  | .min2 => .builtin "min"
  | .int => .type "int"
  | .tuple => .type "tuple"
  | .list => .type "list"
  | .repr => .builtin "repr"
  | .sortedSet => .builtin "sorted"
  | .sum => .builtin "sum"
  | .lenSet => .builtin "len"
/-- repr of data -/
def rpD (d : D) : Option Str :=
  match d with
  | .dic [] => some "{}"
  | d => if flat 20 d && (py d).showable && szOk (py d).shown.length then some (py d).shown else none
mutual
theorem noDict_py : ∀ (n : Nat) (d : D), flat n d = true → (py d).hasDict = false
  | _, .non, _ => rfl
  | _, .bl _, _ => rfl
  | _, .int _, _ => rfl
  | _, .str _, _ => rfl
  | 0, .tup xs, h => by unfold flat at h; cases h
  | 0, .lst xs, h => by unfold flat at h; cases h
  | n + 1, .tup xs, h => by
    unfold flat at h
    exact noDicts_py n xs h
  | n + 1, .lst xs, h => by
    unfold flat at h
    exact noDicts_py n xs h
  | _, .dic _, h => by unfold flat at h; cases h
  | _, .obj _ _, h => by unfold flat at h; cases h
theorem noDicts_py : ∀ (n : Nat) (d : List D), flats n d = true → PyData.hasDictAll (pys d) = false
  | _, [], _ => rfl
  | n, x :: xs, h => by
    unfold flats at h
    obtain ⟨a1, a2⟩ := Bool.and_eq_true_iff.mp h
    show ((py x).hasDict || PyData.hasDictAll (pys xs)) = false
    rw [noDict_py n x a1, noDicts_py n xs a2]
    rfl
end
theorem noDict_of {n : Nat} {d : D} {as : List Addr} (h : flat n d = true) : (py d).hasDict = true → sysModules ∉ as := fun q => by
  rw [noDict_py n d h] at q
  cases q
section
variable {κ : Kx} {F H : Hp} {as : List Addr} {M : Mem} {xs : List V} {vs : List Vl} {Q : VK} {E : XK}
theorem blt_got {b : BI} (g : Good κ.G Z F as M H) (r : RepLs κ.G F as xs vs) (o : Out κ.G Z F as (RepL κ.G) Q E (bltV κ.P.rp b vs M)) :
    ∃ ds d, bltD κ.P.rp b ds = some d ∧ ShWs κ.G F H xs ds ∧ ∀ w F' as' H', Up F as F' as' → Good κ.G Z F' as' M H' → Rep κ.G F' w d → Q w H' := by
  unfold bltV at o
  obtain ⟨ds, M1, e1, o1⟩ := o.got fun _ _ => peeks_nx
  obtain ⟨h1, h2⟩ := peeks_ok g r e1
  rw [h1] at o1
  obtain ⟨z, ez, q⟩ := o1.o
  obtain ⟨d, ed, rfl⟩ := Option.map_eq_some_iff.mp ez
  exact ⟨ds, d, ed, h2, q⟩
theorem call_len_ok (h : Ok0 κ) : CallR κ.X (.builtin "len") (rVs κ.G (bltV κ.P.rp .len)) := by
  intro pins s σ H xs us Q I r hr
  obtain ⟨E, Z, F, as, vs, M, g, rs, o⟩ := hr
  obtain ⟨ds, d, ed, sh, q⟩ := blt_got g rs o
  replace ed : lenD ds = some d := ed
  unfold lenD at ed
  split at ed
  · cases sh with
    | cons s1 s2 =>
      cases s2
      cases s1.str
      split at ed
      · rename_i hz
        cases ed
        exact call_len_str pins s σ H _ us Q I r ⟨_, rfl, szOk_le hz, q _ F as H Up.refl g (.int _)⟩
      · cases ed
  · cases ed
    cases sh with
    | cons s1 s2 =>
      cases s2
      obtain ⟨p, ws, rfl, t1, r1⟩ := s1.tup
      refine call_len_seq pins s σ H _ us Q I r ⟨p, ws, rfl, .inr (by rw [h.k]; exact Evl.ex_t g.sub t1), ?_⟩
      rw [r1.length]
      exact q _ F as H Up.refl g (.int _)
  · cases ed
    cases sh with
    | cons s1 s2 =>
      cases s2
      obtain ⟨p, ws, rfl, t1, r1⟩ := s1
      refine call_len_seq pins s σ H _ us Q I r ⟨p, ws, rfl, .inl (.inl t1), ?_⟩
      rw [r1.length]
      exact q _ F as H Up.refl g (.int _)
  · cases ed
    cases sh with
    | cons s1 s2 =>
      cases s2
      obtain ⟨p, ws, rfl, t1, r1⟩ := s1
      refine call_lenD pins s σ H _ us Q I r ⟨p, ws, rfl, t1, ?_⟩
      rw [r1.length]
      exact q _ F as H Up.refl g (.int _)
  · cases ed
theorem call_max_ok (hc : κ.X.calm = true) : CallR κ.X (.builtin "max") (rVs κ.G (bltV κ.P.rp .max2)) := by
  intro pins s σ H xs us Q I r hr
  obtain ⟨E, Z, F, as, vs, M, g, rs, o⟩ := hr
  obtain ⟨ds, d, ed, sh, q⟩ := blt_got g rs o
  replace ed : maxD ds = some d := ed
  unfold maxD at ed
  split at ed
  · cases ed
    cases sh with
    | cons s1 s2 =>
      cases s2 with
      | cons s2 s3 =>
        cases s3
        cases s1.int
        cases s2.int
        exact call_max2 hc pins s σ H _ us Q I r ⟨_, _, rfl, q _ F as H Up.refl g (.int _)⟩
  · cases ed
theorem call_min_ok (hc : κ.X.calm = true) : CallR κ.X (.builtin "min") (rVs κ.G (bltV κ.P.rp .min2)) := by
  intro pins s σ H xs us Q I r hr
  obtain ⟨E, Z, F, as, vs, M, g, rs, o⟩ := hr
  obtain ⟨ds, d, ed, sh, q⟩ := blt_got g rs o
  replace ed : minD ds = some d := ed
  unfold minD at ed
  split at ed
  · cases ed
    cases sh with
    | cons s1 s2 =>
      cases s2 with
      | cons s2 s3 =>
        cases s3
        cases s1.int
        cases s2.int
        exact call_min2 hc pins s σ H _ us Q I r ⟨_, _, rfl, q _ F as H Up.refl g (.int _)⟩
  · cases ed
theorem call_int_ok : CallR κ.X (.type "int") (rVs κ.G (bltV κ.P.rp .int)) := by
  intro pins s σ H xs us Q I r hr
  obtain ⟨E, Z, F, as, vs, M, g, rs, o⟩ := hr
  obtain ⟨ds, d, ed, sh, q⟩ := blt_got g rs o
  replace ed : intD ds = some d := ed
  unfold intD at ed
  split at ed
  · cases ed
    cases sh with
    | cons s1 s2 =>
      cases s2
      cases s1.int
      exact call_int1 pins s σ H _ us Q I r (.inl ⟨_, rfl, q _ F as H Up.refl g (.int _)⟩)
  · cases ed
    cases sh with
    | cons s1 s2 =>
      cases s2
      cases s1.bl
      exact call_int1 pins s σ H _ us Q I r (.inr ⟨_, rfl, q _ F as H Up.refl g (.int _)⟩)
  · cases ed
theorem call_tuple_ok (h : Ok0 κ) : CallR κ.X (.type "tuple") (rVs κ.G (bltV κ.P.rp .tuple)) := by
  intro pins s σ H xs us Q I r hr
  obtain ⟨E, Z, F, as, vs, M, g, rs, o⟩ := hr
  obtain ⟨ds, d, ed, sh, q⟩ := blt_got g rs o
  replace ed : tupleD ds = some d := ed
  unfold tupleD at ed
  split at ed
  · cases ed
    cases sh with
    | cons s1 s2 =>
      cases s2
      obtain ⟨p, ws, rfl, t1, r1⟩ := s1
      refine call_tuple_of pins s σ H _ us Q I r ⟨p, ws, rfl, .inl ⟨.inl t1, fun l hl => ?_⟩⟩
      obtain ⟨g2, u2⟩ := g.lay (o := .tup ws) hl
      exact q _ _ _ _ u2 g2 (.tup (.inl (.inl upd_same)) (r1.mono u2.ex))
  · cases ed
    cases sh with
    | cons s1 s2 =>
      cases s2
      obtain ⟨p, ws, rfl, t1, r1⟩ := s1.tup
      exact call_tuple_of pins s σ H _ us Q I r ⟨p, ws, rfl, .inr ⟨by rw [h.k]; exact Evl.ex_t g.sub t1, q _ F as H Up.refl g (.tup t1 r1)⟩⟩
  · cases ed
theorem call_list_ok (h : Ok0 κ) : CallR κ.X (.type "list") (rVs κ.G (bltV κ.P.rp .list)) := by
  intro pins s σ H xs us Q I r hr
  obtain ⟨E, Z, F, as, vs, M, g, rs, o⟩ := hr
  obtain ⟨ds, d, ed, sh, q⟩ := blt_got g rs o
  replace ed : listD ds = some d := ed
  unfold listD at ed
  split at ed
  · cases ed
    cases sh with
    | cons s1 s2 =>
      cases s2
      obtain ⟨p, ws, rfl, t1, r1⟩ := s1.tup
      refine call_list_of pins s σ H _ us Q I r ⟨p, ws, rfl, .inr (by rw [h.k]; exact Evl.ex_t g.sub t1), fun l hl => ?_⟩
      obtain ⟨g2, u2⟩ := g.lay (o := .lst ws) hl
      exact q _ _ _ _ u2 g2 (.lst upd_same (r1.mono u2.ex))
  · cases ed
    cases sh with
    | cons s1 s2 =>
      cases s2
      obtain ⟨p, ws, rfl, t1, r1⟩ := s1
      refine call_list_of pins s σ H _ us Q I r ⟨p, ws, rfl, .inl (.inl t1), fun l hl => ?_⟩
      obtain ⟨g2, u2⟩ := g.lay (o := .lst ws) hl
      exact q _ _ _ _ u2 g2 (.lst upd_same (r1.mono u2.ex))
  · cases ed
theorem allBl_bs {G : GG} {F : Hp} : ∀ {ws : List V} {ds : List D} {k : Bool}, Reps G F ws ds → allBl ds = some k → ∃ bs : List Bool, ws = bs.map V.bl ∧ bs.all id = k
  | _, _, k, .nil, e => by cases e; exact ⟨[], rfl, rfl⟩
  | _, _, k, .cons (d := d) h r, e => by
    cases d with
    | bl b =>
      simp only [allBl] at e
      obtain ⟨k2, e2, rfl⟩ := Option.map_eq_some_iff.mp e
      obtain ⟨bs, h1, h2⟩ := allBl_bs r e2
      cases Rep.blE h
      exact ⟨b :: bs, by rw [h1]; rfl, by rw [← h2]; rfl⟩
    | _ => cases e
theorem call_all_ok (hc : κ.X.calm = true) : CallR κ.X (.builtin "all") (rVs κ.G (bltV κ.P.rp .all)) := by
  intro pins s σ H xs us Q I r hr
  obtain ⟨E, Z, F, as, vs, M, g, rs, o⟩ := hr
  obtain ⟨ds, d, ed, sh, q⟩ := blt_got g rs o
  replace ed : allD ds = some d := ed
  unfold allD at ed
  split at ed
  · obtain ⟨k, ek, rfl⟩ := Option.map_eq_some_iff.mp ed
    cases sh with
    | cons s1 s2 =>
      cases s2
      obtain ⟨p, ws, rfl, t1, r1⟩ := s1
      obtain ⟨bs, rfl, hb⟩ := allBl_bs r1 ek
      refine cr_all hc pins s σ H _ us Q I r ⟨p, bs, rfl, .inl t1, ?_⟩
      rw [hb]
      exact q _ F as H Up.refl g (.bl _)
  · cases ed
theorem sumI_ns {G : GG} {F : Hp} : ∀ {ws : List V} {ds : List D} {k : Int}, Reps G F ws ds → sumI ds = some k → ∃ bs : List Int, ws = bs.map V.int ∧ bs.sum = k
  | _, _, k, .nil, e => by cases e; exact ⟨[], rfl, rfl⟩
  | _, _, k, .cons (d := d) h r, e => by
    cases d with
    | int b =>
      simp only [sumI] at e
      obtain ⟨k2, e2, rfl⟩ := Option.map_eq_some_iff.mp e
      obtain ⟨bs, h1, h2⟩ := sumI_ns r e2
      cases Rep.intE h
      exact ⟨b :: bs, by rw [h1]; rfl, by rw [← h2]; rfl⟩
    | _ => cases e
theorem call_sum_ok (hc : κ.X.calm = true) : CallR κ.X (.builtin "sum") (rVs κ.G (bltV κ.P.rp .sum)) := by
  intro pins s σ H xs us Q I r hr
  obtain ⟨E, Z, F, as, vs, M, g, rs, o⟩ := hr
  obtain ⟨ds, d, ed, sh, q⟩ := blt_got g rs o
  replace ed : sumD ds = some d := ed
  unfold sumD at ed
  split at ed
  · obtain ⟨k, ek, rfl⟩ := Option.map_eq_some_iff.mp ed
    cases sh with
    | cons s1 s2 =>
      cases s2
      obtain ⟨p, ws, rfl, t1, r1⟩ := s1
      obtain ⟨bs, rfl, hb⟩ := sumI_ns r1 ek
      refine cr_sum hc pins s σ H _ us Q I r ⟨p, bs, rfl, .inl t1, ?_⟩
      rw [hb]
      exact q _ F as H Up.refl g (.int _)
  · cases ed
theorem call_repr_ok (h : Ok0 κ) (hrp : κ.P.rp = rpD) : CallR κ.X (.builtin "repr") (rVs κ.G (bltV κ.P.rp .repr)) := by
  intro pins s σ H xs us Q I r hr
  obtain ⟨E, Z, F, as, vs, M, g, rs, o⟩ := hr
  obtain ⟨ds, d, ed, sh, q⟩ := blt_got g rs o
  replace ed : reprD κ.P.rp ds = some d := ed
  unfold reprD at ed
  split at ed
  · rename_i d0
    obtain ⟨z, ez, rfl⟩ := Option.map_eq_some_iff.mp ed
    rw [hrp] at ez
    cases sh with
    | cons s1 s2 =>
      cases s2
      obtain ⟨u, rfl, ru⟩ := r.one
      have qq : Q (.str z) H := q _ F as H Up.refl g (.str z)
      unfold rpD at ez
      split at ez
      · cases ez
        obtain ⟨p, ks, rfl, t1, r1⟩ := s1
        cases r1
        cases ru
        obtain ⟨_, hsm, ws, kv, ob, es, ep, e1, e2, e3, _, hp, _⟩ := I.hok p _ t1
        cases kv
        have hes : es.toList = [] := by
          cases q : es.toList with
          | nil => rfl
          | cons x y => rw [q] at hp; cases hp
        have rd : Reads s.heap (.ref p) (.dict []) (p :: [] ++ []) := Reads.dict e1 e2.1 e3 (by rw [hes]; exact ReadsAll.nil) (by rw [hes]; exact ReadsAll.nil)
        refine repr_of_reads' (d := .dict []) rd rfl (fun _ hm => ?_) h.gd (by have := h.u; show κ.X.A.units + (PyData.depth (.dict []) + 1) < cLine; have hd : PyData.depth (.dict []) ≤ 3 := by decide
                                                                               omega) (fun _ _ e => e) (fun h' u tk hk => ⟨.str _, H, I.kept hk, ⟨u, rfl⟩, qq⟩) (by decide +kernel)
        have : sysModules = p := by simpa using hm
        rw [this] at hsm
        simp at hsm
      · rename_i hno
        split at ez
        · rename_i ok
          cases ez
          obtain ⟨ok12, ok3⟩ := Bool.and_eq_true_iff.mp ok
          obtain ⟨ok1, ok2⟩ := Bool.and_eq_true_iff.mp ok12
          obtain ⟨as1, r1⟩ := ShW.reads h.k g.sub I ok1 s1 ru
          have hd := depth_py 20 d0 ok1
          have hu := h.u
          have hz := szOk_le ok3
          cases d0 with
          | non => cases s1.non; cases ru; exact PySem.P.repr_of_none ⟨.str _, H, I.tok _, ⟨_, rfl⟩, qq⟩
          | bl b =>
            cases s1.bl; cases ru
            cases b <;> exact PySem.P.repr_of_bool ⟨.str _, H, I.tok _, ⟨_, rfl⟩, qq⟩
          | int i =>
            cases s1.int; obtain ⟨t, rfl⟩ := ru
            exact PySem.P.repr_of_int (of_decide_eq_true ok2) ⟨.str _, H, I.tok _, ⟨_, rfl⟩, qq⟩
          | str w =>
            cases s1.str; obtain ⟨t, rfl⟩ := ru
            exact PySem.P.repr_of_str ⟨.str _, H, I.tok _, ⟨_, rfl⟩, qq⟩ hz
          | tup ys =>
            obtain ⟨p, ws, rfl, _, _⟩ := s1.tup
            cases ru
            exact repr_of_reads' r1 ok2 (noDict_of ok1) h.gd (by omega) (fun _ _ e => e) (fun h' u tk hk => ⟨.str _, H, I.kept hk, ⟨u, rfl⟩, qq⟩) hz
          | lst ys =>
            obtain ⟨p, ws, rfl, _, _⟩ := s1
            cases ru
            exact repr_of_reads' r1 ok2 (noDict_of ok1) h.gd (by omega) (fun _ _ e => e) (fun h' u tk hk => ⟨.str _, H, I.kept hk, ⟨u, rfl⟩, qq⟩) hz
          | dic _ => unfold flat at ok1; cases ok1
          | obj _ _ => unfold flat at ok1; cases ok1
        · cases ez
  · cases ed
end
end TD
set_option Elab.async false
set_option linter.all false
set_option maxRecDepth 100000
set_option maxHeartbeats 4000000
/-! TD, part N: enumerate(t), t a tuple. -/
namespace TD
open PySem L2
theorem enum_new_of {v : Value} {ob : Obj} {Hq : Heap → Prop} (B : Begins v ob Hq) :
    Meets (Builtin.«enumerate.__new__» ⟨[.type "enumerate", v], []⟩) (fun _ Rr st => Hq st.heap ∧
      Rr (.ok (.ret (.ref (st.heap.push ob).objs.size))) { st with heap := (st.heap.push ob).push { cls := .type "enumerate", data := .fields #[.none, .bool false, .ref st.heap.objs.size, rawInt 0, .none, .none] } }) :=
  .of_wp fun pr wo Ar Rr st hyp => by
    obtain ⟨hp, gn, dr, tk, os⟩ := st
    obtain ⟨hyp1, hyp2⟩ := hyp
    have sub1 := sub_enumerate
    have step1 : ∀ {Az : Around} {Ez : Value → Shared → Prop} {Qz : Value → Shared → Prop}, Qz (.ref hp.objs.size) ⟨hp.push ob, gn, dr, tk, os⟩ → wpAny (model pr wo) Az (pyIter v) Qz Ez ⟨hp, gn, dr, tk, os⟩ :=
      fun z => B.iter pr wo _ _ ⟨hp, gn, dr, tk, os⟩ _ hyp1 z
    wp_walk using step1
    refine wpAny_stack_any fun stk => wpAny_pure ?_
    split
    · rename_i cc _ _ _ _ _
      cases (cc == Value.type "enumerate")
      · wp_walk using step1
        exact ⟨_, rfl, hyp2⟩
      · wp_walk using step1
        exact ⟨_, rfl, hyp2⟩
    · wp_walk using step1
      exact ⟨_, rfl, hyp2⟩
theorem call_enum_of {pr : Program} {wo : World} {Ar : Around} {Er : Value → Shared → Prop} {st : Shared} {v : Value} {ob : Obj} {Hq : Heap → Prop} {Q : Value → Shared → Prop} (B : Begins v ob Hq) (h1 : Hq st.heap)
    (h : ∀ hh, IsEnum hh (st.heap.objs.size + 1) st.heap.objs.size 0 .none → hh.get? st.heap.objs.size = some ob → (∀ b o, st.heap.get? b = some o → hh.get? b = some o) → Q (.ref (st.heap.objs.size + 1)) { st with heap := hh }) :
    wpAny (model pr wo) Ar (call (.type "enumerate") [v]) Q Er st := by
  refine callType_new F.called_enumerate (by decide) (F.typeCall_enumerate_1 _) (F.newCall_enumerate_1 _) (fun obj => F.args_object_init_2 obj _) F.entry_enumerate_new (enum_new_of B) ⟨h1, ?_⟩
  have sz : (st.heap.push ob).objs.size = st.heap.objs.size + 1 := Heap.size_push ..
  show _ ∧ _
  rw [sz]
  have he : IsEnum ((st.heap.push ob).push { cls := .type "enumerate", data := .fields #[.none, .bool false, .ref st.heap.objs.size, rawInt 0, .none, .none] }) (st.heap.objs.size + 1) st.heap.objs.size 0 .none := by
    have q := Heap.get?_push_size (st.heap.push ob) (o := { cls := .type "enumerate", data := .fields #[.none, .bool false, .ref st.heap.objs.size, rawInt 0, .none, .none] }) rfl
    rw [sz] at q
    exact q
  exact ⟨⟨_, he, rfl⟩, h _ he (Heap.get?_push_of_some _ (Heap.get?_push_size _ B.free)) fun b o x => Heap.get?_push_of_some _ (Heap.get?_push_of_some _ x)⟩
/-- the tuple at a, its items in new pairs with their numbers -/
def ItT (K : PySem.W.Frag) (a : Addr) : It :=
  ⟨fun i H => ∃ (xs : List V) (x : V), SqT K H a xs ∧ xs[i]? = some x,
   fun i H v H2 => ∃ T x, v = .ref T ∧ H T = none ∧ H2 = upd H T (.tup [.int (i : Nat), x]) ∧ ∀ xs, SqT K H a xs → xs[i]? = some x,
   fun i H => ∃ xs : List V, SqT K H a xs ∧ xs.length = i⟩
theorem turn_enumT {P : Program} {w : World} {K : PySem.W.Frag} {elts : List Expr} {kk : Nat} {tpos : Pos} (a e it : Addr) (hai : a ≠ it) (hae : a ≠ e) :
    Turn P w K (.Tuple elts kk tpos) (ItT K a) [e, it] e (fun i h => (∃ old, IsEnum h e it ((i : Nat) : Int) old) ∧ h.IsTupleIter it a i ∧ e ≠ it) where
  mem := by simp
  obj := fun i h st b hb => by
    obtain ⟨⟨old, he⟩, ⟨o, ho, hc, hd⟩, _⟩ := st
    rcases (show b = e ∨ b = it by simpa using hb) with rfl | rfl
    · exact ⟨_, he, fun v q => nomatch q⟩
    · exact ⟨o, ho, fun v q => by rw [hd] at q; cases q⟩
  keep := fun i h h2 st k => by
    obtain ⟨⟨old, he⟩, hi, hne⟩ := st
    exact ⟨⟨old, k e (by simp) _ he⟩, hi.at fun o q => k it (by simp) o q, hne⟩
  item := by
    intro X hP hw hK hc i pins s σ H E I hf st hg
    subst hP hw hK
    obtain ⟨⟨old, he⟩, hit, hne⟩ := st
    obtain ⟨xs, x, hq, hx⟩ := hg
    obtain ⟨its, rv, p, hz⟩ := I.tuple hq
    obtain ⟨u, hu, ru⟩ := rv.get hx
    have D := Draws.tuple (prog := X.prog) (w := X.w) (A := X.A.in1) (I.ok.hd hc) it a hai its.toArray
    have Gn := GoesN.enumFrom (elts := elts) (x1 := kk) (pos := tpos) 0 D e hne (by simp [hne, hae.symm]) (by simp)
    have hil : i < its.toArray.size := by
      have := (List.getElem?_eq_some_iff.mp hu).1
      simpa using this
    refine wpAny_mono (Gn.goes i s (fun vv s2 => ∃ y H2, Inv X pins σ H2 s2 ∧ RelV y vv ∧ (ItT X.K a).yld i H y H2 ∧ ((∃ old, IsEnum s2.heap e it (((i + 1 : Nat)) : Int) old) ∧ s2.heap.IsTupleIter it a (i + 1) ∧ e ≠ it) ∧ ∀ b ∈ [e, it], H2 b = none) E hil ⟨⟨old, by rw [Int.zero_add]; exact he⟩, hit, p⟩ ?_) (fun r s1 z => z) (fun _ _ z => z)
    intro vv h2 tk hY hst hk _
    obtain ⟨T, t, xv, rfl, hT, hxv, hTu⟩ := hY
    obtain ⟨⟨old2, he2⟩, hit2, _⟩ := hst
    have exv : xv = u := by
      have h3 : its[i]? = some xv := by simpa using hxv
      rw [hu] at h3
      exact (Option.some.inj h3).symm
    subst exv
    have new : ObjOk X.prog X.w (upd H T (.tup [.int (i : Nat), x])) h2 T (.tup [.int (i : Nat), x]) :=
      ⟨by show 2 ≤ sizeLine; decide, [.int (0 + (i : Int)) t, xv], .cons ⟨t, by rw [Int.zero_add]⟩ (.cons ru .nil), hTu⟩
    have I1 := I.turnedNew (t' := tk) (ch := [e, it]) hk hf hT new
    refine ⟨.ref T, _, I1, rfl, ⟨T, x, rfl, I.hok.fresh hT, rfl, fun ys hy => ?_⟩, ⟨⟨old2, ?_⟩, hit2, hne⟩, fun b hb => ?_⟩
    · rw [I.tuple_inj hy hq]
      exact hx
    · rw [Int.zero_add] at he2
      exact he2
    · have hb1 : b < s.heap.objs.size := by
        rcases (show b = e ∨ b = it by simpa using hb) with rfl | rfl
        · exact Heap.lt_size he
        · obtain ⟨_, q, _⟩ := hit
          exact Heap.lt_size q
      rw [upd_ne (Nat.ne_of_lt (Nat.lt_of_lt_of_le hb1 hT))]
      exact (hf b hb).1
  done := by
    intro X hP hw hK hc i pins s σ H E I hf st hg
    subst hP hw hK
    obtain ⟨⟨old, he⟩, hit, hne⟩ := st
    obtain ⟨xs, hq, hx⟩ := hg
    obtain ⟨its, rv, p, hz⟩ := I.tuple hq
    have hl := rv.length
    obtain ⟨f0, f1, f2, f3, f4, f5⟩ := hf it (by simp)
    have D := Draws.tuple (prog := X.prog) (w := X.w) (A := X.A.in1) (I.ok.hd hc) it a hai its.toArray
    have hin : i = its.toArray.size := by rw [List.size_toArray, ← hl]; exact hx.symm
    refine wpAny_pyNext_enum_endD D he ⟨by rw [← hin]; exact hit, p⟩ fun h2 eb => ?_
    exact ⟨rfl, I.turned (t' := s.toks) (fun b o hb q => eb b o hb q) f0 f1 f3 f4 f5⟩
  self := fun A i s Q E st h => by
    obtain ⟨⟨_, he⟩, _⟩ := st
    exact wpAny_pyIter_enum he h
def iEnT (K : PySem.W.Frag) (ta : TA) : TI := fun σ H R => ta σ H fun vs H1 => ∃ a xs, vs = [.ref a] ∧ SqT K H1 a xs ∧ R (ItT K a) H1
theorem pi_enumT {X : Cx} {e : Expr} {ta : TA} {p pos tpos : Pos} {elts : List Expr} {kk : Nat} (hg : Gl X "enumerate") (hm : X.mg "enumerate" = none) (ha : PA X [e] ta) (hs : starEach [e] X.env = [(false, eval e X.env)] := by rfl) :
    PI X (.Tuple elts kk tpos) (.Call (.Name "enumerate" p) [e] [] pos) (iEnT X.K ta) := by
  refine ⟨fun pins s σ H R I h => ?_⟩
  refine wpAny_Call_Name_kw (ld_blt I hg hm PyProof.Rows.boot_enumerate (PyProof.Rows.callWith_type1 (thn (ha.run pos pins s σ H _ I h) fun us s1 ⟨vs, H1, I1, r1, a, xs, ex, hq, q⟩ => ?_) hs rfl))
  subst ex
  obtain ⟨u, rfl, ru⟩ := r1.one
  obtain rfl : u = Value.ref a := ru
  obtain ⟨its, rv, pt, hz⟩ := I1.tuple hq
  refine call_enum_of (begins_tuple a its.toArray) pt fun hh he hob hk => wpAny_pyIter_enum he ?_
  have I2 : Inv X pins σ H1 { s1 with heap := hh } := I1.kept (t' := s1.toks) hk
  have al : a < s1.heap.objs.size := by
    obtain ⟨o, g1, _⟩ := pt
    exact Heap.lt_size g1
  refine ⟨s1.heap.objs.size + 1, [s1.heap.objs.size + 1, s1.heap.objs.size], _, _, H1, rfl, I2, turn_enumT a (s1.heap.objs.size + 1) s1.heap.objs.size (Nat.ne_of_lt al) (Nat.ne_of_lt (Nat.lt_succ_of_lt al)), ⟨⟨.none, he⟩, ⟨_, hob, rfl, rfl⟩, Nat.succ_ne_self _⟩, fun b hb => ?_, q⟩
  have hle : s1.heap.objs.size ≤ b := by
    rcases (show b = s1.heap.objs.size + 1 ∨ b = s1.heap.objs.size by simpa using hb) with rfl | rfl
    · exact Nat.le_succ _
    · exact Nat.le_refl _
  exact I1.fpOk hle (I1.hok.fresh hle)
end TD
set_option Elab.async false
set_option linter.all false
set_option maxRecDepth 100000
set_option maxHeartbeats 4000000
/-! TD, part J: built-ins by name, iterators, targets, list comprehensions. -/
namespace TD
open PySem L2
section
variable {κ : Kx} {a b c e o : Expr} {ca cb cc ce co : CE} {es : List Expr} {cs : CL} {pos p p1 p2 p3 : Pos} {x : Str}
theorem je_bltB {b : BI} {id : String} (hc : CallR κ.X (.builtin id) (rVs κ.G (bltV κ.P.rp b))) (hg : Gl κ.X x) (hm : κ.X.mg x = none) (hv : bootBuiltins x = some (.builtin id)) (ha : JA κ (e :: es) cs) (hn : x ≠ "__name__" := by decide) (hdb : (x == ("__debug__" : Str)) = false := by decide)
    (he : starEach (e :: es) κ.X.env = (false, eval e κ.X.env) :: starEach es κ.X.env := by rfl) (hpl : (backTo pos (starEach es κ.X.env)).any (·.1) = false := by rfl) : JE κ (.Call (.Name x p) (e :: es) [] pos) (.blt b cs) :=
  PE.weak (pe_callB hc hg hm hv ha hn hdb he hpl) fun σ H Q t => tM_bind (R := RepLs κ.G) (S := RepL κ.G) (k := fun vs e => bltV κ.P.rp b vs) t fun vs Z F as e M H1 ds re g rs o => ⟨_, Z, F, as, ds, M, g, rs, o⟩
theorem je_bltT {b : BI} {id : String} (hc : CallR κ.X (.type id) (rVs κ.G (bltV κ.P.rp b))) (hg : Gl κ.X x) (hm : κ.X.mg x = none) (hv : bootBuiltins x = some (.type id)) (ha : JA κ (e :: es) cs) (hn : x ≠ "__name__" := by decide) (hdb : (x == ("__debug__" : Str)) = false := by decide)
    (he : starEach (e :: es) κ.X.env = (false, eval e κ.X.env) :: starEach es κ.X.env := by rfl) (hpl : (backTo pos (starEach es κ.X.env)).any (·.1) = false := by rfl) : JE κ (.Call (.Name x p) (e :: es) [] pos) (.blt b cs) :=
  PE.weak (pe_callTy hc hg hm hv ha hn hdb he hpl) fun σ H Q t => tM_bind (R := RepLs κ.G) (S := RepL κ.G) (k := fun vs e => bltV κ.P.rp b vs) t fun vs Z F as e M H1 ds re g rs o => ⟨_, Z, F, as, ds, M, g, rs, o⟩
theorem je_rev {k : Nat} (h : Ok0 κ) (ha : JE κ a ca) : JE κ (.Subscript a (.Slice none none (some (.UnaryOp .USub (.Constant (.int 1) k p1) p2)) p3) pos) (.rev ca) :=
  PE.weak (pe_revL ha) fun σ H Q t => tM_bind (R := RepL κ.G) (S := RepL κ.G) (k := fun x e => EM.bind (peek x) fun d => EM.o ((revD d).map .d)) t fun x Z F as e M H1 va re g ra o => by
    obtain ⟨d, M1, e1, o1⟩ := o.got fun _ _ => peek_nx
    obtain ⟨q1, s1⟩ := peek_ok g ra e1
    rw [q1] at o1
    obtain ⟨z, ez, q⟩ := o1.o
    obtain ⟨d2, ed, rfl⟩ := Option.map_eq_some_iff.mp ez
    cases d with
    | lst xs =>
      cases ed
      obtain ⟨p, vs, rfl, t1, r1⟩ := s1
      refine ⟨p, vs, rfl, .inl (.inl t1), fun l hl => ?_⟩
      obtain ⟨g2, u2⟩ := g.lay (o := .lst vs.reverse) hl
      exact q _ _ _ _ u2 g2 (.lst upd_same (r1.reverse.mono u2.ex))
    | _ => cases ed
end
/-! ### iterators -/
structure Walk (G : GG) (F : Hp) (as0 : List Addr) (J : It) (ds : List D) : Prop where
  go : ∀ {i : Nat} {d : D} {Z F' : Hp} {as : List Addr} {M : Mem} {H : Hp}, Ex F F' → Good G Z F' as M H → ds[i]? = some d → J.go i H
  yld : ∀ {i : Nat} {d : D} {Z F' : Hp} {as : List Addr} {M : Mem} {H : Hp} {x : V} {H2 : Hp}, Ex F F' → Good G Z F' as M H → ds[i]? = some d → J.yld i H x H2 → ∃ F2, Good G Z F2 as M H2 ∧ Ex F' F2 ∧ Rep G F2 x d
  stop : ∀ {Z F' : Hp} {as : List Addr} {M : Mem} {H : Hp}, Ex F F' → Good G Z F' as M H → J.stop ds.length H
theorem zipEnum_get : ∀ (xs : List D) (n i : Nat), (zipEnum n xs)[i]? = (xs[i]?).map fun x => .tup [.int ((n + i : Nat) : Int), x]
  | [], n, i => by simp [zipEnum]
  | x :: xs, n, 0 => by simp [zipEnum]
  | x :: xs, n, i + 1 => by
    have := zipEnum_get xs (n + 1) i
    simp only [zipEnum, List.getElem?_cons_succ]
    rw [this, show n + 1 + i = n + (i + 1) by omega]
theorem zipEnum_len : ∀ (xs : List D) (n : Nat), (zipEnum n xs).length = xs.length
  | [], n => rfl
  | x :: xs, n => by simp [zipEnum, zipEnum_len xs]
theorem rngGo_get : ∀ (n : Nat) (j : Int) (i : Nat) (d : D), (rngGo n j)[i]? = some d → i < n ∧ d = .int (j + i)
  | 0, j, i, d, h => by simp [rngGo] at h
  | n + 1, j, 0, d, h => by simp [rngGo] at h; exact ⟨by omega, by rw [← h]; simp⟩
  | n + 1, j, i + 1, d, h => by
    simp only [rngGo, List.getElem?_cons_succ] at h
    obtain ⟨h1, h2⟩ := rngGo_get n (j + 1) i d h
    exact ⟨by omega, by rw [h2]; congr 1; omega⟩
theorem rngGo_len : ∀ (n : Nat) (j : Int), (rngGo n j).length = n
  | 0, j => rfl
  | n + 1, j => by simp [rngGo, rngGo_len n]
section
variable {G : GG} {F : Hp} {as0 : List Addr} {K : PySem.W.Frag} {a : Addr} {vs : List V} {ds : List D}
theorem walk_list (h : F a = some (.lst vs)) (r : Reps G F vs ds) : Walk G F as0 (Itl K a) ds where
  go := fun e g hd => by
    obtain ⟨v, hv, _⟩ := r.get hd
    exact ⟨vs, v, .inl (.inl (g.sub _ _ (e _ _ h))), hv⟩
  yld := fun {i d Z F' as M H x H2} e g hd y => by
    obtain ⟨rfl, y⟩ := y
    obtain ⟨d2, h2, r2⟩ := r.getV (y vs (.inl (.inl (g.sub _ _ (e _ _ h)))))
    rw [hd] at h2
    cases h2
    exact ⟨F', g, Evl.Ex.refl _, r2.mono e⟩
  stop := fun e g => ⟨vs, .inl (.inl (g.sub _ _ (e _ _ h))), by rw [r.length]; exact Nat.le_refl _⟩
theorem walk_tup (h : SqT G.K F a vs) (r : Reps G F vs ds) : Walk G F as0 (Itt G.K a) ds where
  go := fun e g hd => by
    obtain ⟨v, hv, _⟩ := r.get hd
    exact ⟨vs, v, Evl.ex_t g.sub (Evl.ex_t e h), hv⟩
  yld := fun {i d Z F' as M H x H2} e g hd y => by
    obtain ⟨rfl, y⟩ := y
    obtain ⟨d2, h2, r2⟩ := r.getV (y vs (Evl.ex_t g.sub (Evl.ex_t e h)))
    rw [hd] at h2
    cases h2
    exact ⟨F', g, Evl.Ex.refl _, r2.mono e⟩
  stop := fun e g => ⟨vs, Evl.ex_t g.sub (Evl.ex_t e h), by rw [r.length]; exact Nat.le_refl _⟩
theorem pair_lay {Z F' : Hp} {as : List Addr} {M : Mem} {H : Hp} {T : Addr} {v : V} {d : D} {i : Nat} (g : Good G Z F' as M H) (hT : H T = none) (r : Rep G F' v d) :
    ∃ F2, Good G Z F2 as M (upd H T (.tup [.int (i : Nat), v])) ∧ Ex F' F2 ∧ Rep G F2 (.ref T) (.tup [.int ((0 + i : Nat) : Int), d]) := by
  obtain ⟨g2, u2⟩ := g.lay (o := .tup [.int (i : Nat), v]) hT
  refine ⟨_, g2, u2.ex, .tup (.inl (.inl upd_same)) (.cons ?_ (.cons (r.mono u2.ex) .nil))⟩
  rw [Nat.zero_add]
  exact .int _
theorem walk_enum (h : F a = some (.lst vs)) (r : Reps G F vs ds) : Walk G F as0 (Ite K a) (zipEnum 0 ds) where
  go := fun e g hd => by
    rw [zipEnum_get] at hd
    obtain ⟨d0, h0, rfl⟩ := Option.map_eq_some_iff.mp hd
    obtain ⟨v, hv, _⟩ := r.get h0
    exact ⟨vs, v, .inl (.inl (g.sub _ _ (e _ _ h))), hv⟩
  yld := fun {i d Z F' as M H x H2} e g hd y => by
    rw [zipEnum_get] at hd
    obtain ⟨d0, h0, rfl⟩ := Option.map_eq_some_iff.mp hd
    obtain ⟨T, v, rfl, hT, rfl, y⟩ := y
    obtain ⟨d2, h2, r2⟩ := r.getV (y vs (.inl (.inl (g.sub _ _ (e _ _ h)))))
    rw [h0] at h2
    cases h2
    exact pair_lay g hT (r2.mono e)
  stop := fun e g => ⟨vs, .inl (.inl (g.sub _ _ (e _ _ h))), by rw [r.length, zipEnum_len]; exact Nat.le_refl _⟩
theorem walk_enumT (h : SqT G.K F a vs) (r : Reps G F vs ds) : Walk G F as0 (ItT G.K a) (zipEnum 0 ds) where
  go := fun e g hd => by
    rw [zipEnum_get] at hd
    obtain ⟨d0, h0, rfl⟩ := Option.map_eq_some_iff.mp hd
    obtain ⟨v, hv, _⟩ := r.get h0
    exact ⟨vs, v, Evl.ex_t g.sub (Evl.ex_t e h), hv⟩
  yld := fun {i d Z F' as M H x H2} e g hd y => by
    rw [zipEnum_get] at hd
    obtain ⟨d0, h0, rfl⟩ := Option.map_eq_some_iff.mp hd
    obtain ⟨T, v, rfl, hT, rfl, y⟩ := y
    obtain ⟨d2, h2, r2⟩ := r.getV (y vs (Evl.ex_t g.sub (Evl.ex_t e h)))
    rw [h0] at h2
    cases h2
    exact pair_lay g hT (r2.mono e)
  stop := fun e g => ⟨vs, Evl.ex_t g.sub (Evl.ex_t e h), by rw [r.length, zipEnum_len]⟩
theorem walk_rng {n : Nat} : Walk G F as0 (Itr 0 n) (rngGo n 0) where
  go := fun e g hd => (rngGo_get _ _ _ _ hd).1
  yld := fun {i d Z F' as M H x H2} e g hd y => by
    obtain ⟨rfl, rfl⟩ := y
    rw [(rngGo_get _ _ _ _ hd).2]
    exact ⟨F', g, Evl.Ex.refl _, .int _⟩
  stop := fun e g => by
    rw [rngGo_len]
    exact Nat.le_refl _
theorem walk_chars {x : Str} : Walk G F as0 (Its x) (x.cps.toList.map fun c => .str ⟨#[c]⟩) where
  go := fun {i d Z F' as M H} e g hd => by
    have := (List.getElem?_eq_some_iff.mp hd).1
    show i < x.cps.size
    simpa using this
  yld := fun {i d Z F' as M H y H2} e g hd z => by
    obtain ⟨rfl, c, hc, rfl⟩ := z
    have : d = .str ⟨#[c]⟩ := by
      rw [List.getElem?_map, Array.getElem?_toList, hc] at hd
      exact (Option.some.inj hd).symm
    subst this
    exact ⟨F', g, Evl.Ex.refl _, .str _⟩
  stop := fun e g => by simp [Its]
end
def JI (κ : Kx) (tg e : Expr) (c : CI) : Prop := PI κ.X tg e (tM κ.G κ.hx κ.W (Walk κ.G) (runI κ.P.T κ.P.rp κ.cl c))
section
variable {κ : Kx} {tg a b c e o : Expr} {ca cb cc ce co : CE} {es elts : List Expr} {cs : CL} {pos p tpos : Pos} {x : Str} {kk : Nat}
theorem lst_of {F : Hp} {x : V} {xs : List D} {G : GG} (r : Rep G F x (.lst xs)) : ∃ a vs, x = .ref a ∧ F a = some (.lst vs) ∧ Reps G F vs xs := by
  cases r with
  | lst h r => exact ⟨_, _, rfl, h, r⟩
theorem tup_of {F : Hp} {x : V} {xs : List D} {G : GG} (r : Rep G F x (.tup xs)) : ∃ a vs, x = .ref a ∧ SqT G.K F a vs ∧ Reps G F vs xs := by
  cases r with
  | tup h r => exact ⟨_, _, rfl, h, r⟩
/-- which kind of sequence a computed one is -/
theorem seq_kind {m : EM Vl} {M : Mem} : (∃ v M1 xs M2, m M = some (.ok v, M1) ∧ toD v M1 = some (.ok (.lst xs), M2)) ∨ ∀ v M1 d M2, m M = some (.ok v, M1) → toD v M1 = some (.ok d, M2) → ∀ xs, d ≠ .lst xs := by
  by_cases h : ∃ v M1 xs M2, m M = some (.ok v, M1) ∧ toD v M1 = some (.ok (.lst xs), M2)
  · exact .inl h
  · exact .inr fun v M1 d M2 h1 h2 xs e => h ⟨v, M1, xs, M2, h1, by rw [h2, e]⟩
theorem ji_seq (h : Ok0 κ) (ha : JE κ a ca) : JI κ tg a (.seq ca) := by
  refine ⟨fun pins s σ H R I t => ?_⟩
  obtain ⟨Z, F, as, e, M, re, g, o⟩ := t
  rcases seq_kind (m := runE κ.P.T κ.P.rp κ.cl ca e) (M := M) with ⟨v, M1, xs, M2, h1, h2⟩ | hno
  · refine (pi_list ha).run pins s σ H R I ⟨Z, F, as, e, M, re, g, Out.bind o fun x F1 as1 H1 v' M1' e1 u1 g1 r1 o1 => ?_⟩
    rw [h1] at e1
    cases e1
    obtain ⟨F2, g2, u2, r2⟩ := toD_ok g1 r1 h2
    obtain ⟨p, vs, rfl, hp, rs⟩ := lst_of r2
    have o2 := Out.step h2 o1
    obtain ⟨ys, ey, q⟩ := Out.o o2
    refine ⟨p, rfl, ⟨vs, .inl (.inl (g2.sub _ _ hp))⟩, q _ F2 as1 H1 u2 g2 ?_⟩
    simp only [items, Option.bind_some] at ey
    split at ey
    · cases ey
      exact walk_list hp rs
    · cases ey
  · refine (pi_tup ha).run pins s σ H R I ⟨Z, F, as, e, M, re, g, Out.bind o fun x F1 as1 H1 v' M1' e1 u1 g1 r1 o1 => ?_⟩
    obtain ⟨d, M2, h2, o2⟩ := o1.got fun _ _ => toD_nx
    obtain ⟨F2, g2, u2, r2⟩ := toD_ok g1 r1 h2
    obtain ⟨ys, ey, q⟩ := Out.o o2
    have hl := hno _ _ _ _ e1 h2
    cases d with
    | tup xs =>
      obtain ⟨p, vs, rfl, hp, rs⟩ := tup_of r2
      refine ⟨p, rfl, ⟨vs, by rw [h.k]; exact Evl.ex_t g2.sub hp⟩, q _ F2 as1 H1 u2 g2 ?_⟩
      simp only [items, Option.bind_some] at ey
      split at ey
      · cases ey
        rw [h.k]
        exact walk_tup hp rs
      · cases ey
    | lst xs => exact (hl xs rfl).elim
    | _ => cases ey
theorem ji_enm (h : Ok0 κ) (hg : Gl κ.X "enumerate") (hm : κ.X.mg "enumerate" = none) (ha : JE κ a ca) (hs : starEach [a] κ.X.env = [(false, eval a κ.X.env)] := by rfl) : JI κ (.Tuple elts kk tpos) (.Call (.Name "enumerate" p) [a] [] pos) (.enm ca) := by
  have pa : PA κ.X [a] _ := pa_cons ha pa_nil hs
  refine ⟨fun pins s σ H R I t => ?_⟩
  obtain ⟨Z, F, as, e, M, re, g, o⟩ := t
  rcases seq_kind (m := runE κ.P.T κ.P.rp κ.cl ca e) (M := M) with ⟨v, M1, xs, M2, h1, h2⟩ | hno
  · refine (pi_enum hg hm pa hs).run pins s σ H R I ⟨Z, F, as, e, M, re, g, Out.bind o fun x F1 as1 H1 v' M1' e1 u1 g1 r1 o1 => ?_⟩
    rw [h1] at e1
    cases e1
    obtain ⟨F2, g2, u2, r2⟩ := toD_ok g1 r1 h2
    obtain ⟨p, vs, rfl, hp, rs⟩ := lst_of r2
    have o2 := Out.step h2 o1
    obtain ⟨ys, ey, q⟩ := Out.o o2
    refine ⟨p, vs, rfl, .inl (.inl (g2.sub _ _ hp)), q _ F2 as1 H1 u2 g2 ?_⟩
    simp only [items, Option.bind_some] at ey
    split at ey
    · cases ey
      exact walk_enum hp rs
    · cases ey
  · refine (pi_enumT hg hm pa hs).run pins s σ H R I ⟨Z, F, as, e, M, re, g, Out.bind o fun x F1 as1 H1 v' M1' e1 u1 g1 r1 o1 => ?_⟩
    obtain ⟨d, M2, h2, o2⟩ := o1.got fun _ _ => toD_nx
    obtain ⟨F2, g2, u2, r2⟩ := toD_ok g1 r1 h2
    obtain ⟨ys, ey, q⟩ := Out.o o2
    have hl := hno _ _ _ _ e1 h2
    cases d with
    | tup xs =>
      obtain ⟨p, vs, rfl, hp, rs⟩ := tup_of r2
      refine ⟨p, vs, rfl, by rw [h.k]; exact Evl.ex_t g2.sub hp, q _ F2 as1 H1 u2 g2 ?_⟩
      simp only [items, Option.bind_some] at ey
      split at ey
      · cases ey
        rw [h.k]
        exact walk_enumT hp rs
      · cases ey
    | lst xs => exact (hl xs rfl).elim
    | _ => cases ey
theorem ji_rng (hg : Gl κ.X "range") (hm : κ.X.mg "range" = none) (ha : JE κ a ca) (hs : starEach [a] κ.X.env = [(false, eval a κ.X.env)] := by rfl) : JI κ tg (.Call (.Name "range" p) [a] [] pos) (.rng ca) := by
  have pa : PA κ.X [a] _ := pa_cons ha pa_nil hs
  refine ⟨fun pins s σ H R I t => (pi_range1 hg hm pa hs).run pins s σ H R I ?_⟩
  obtain ⟨Z, F, as, e, M, re, g, o⟩ := t
  refine ⟨Z, F, as, e, M, re, g, Out.bind o fun x F1 as1 H1 v' M1' e1 u1 g1 r1 o1 => ?_⟩
  obtain ⟨i, rfl, o2⟩ := Out.int r1 o1
  obtain ⟨ys, ey, q⟩ := Out.o o2
  split at ey
  · rename_i hb
    cases ey
    obtain ⟨b1, b2⟩ := Bool.and_eq_true_iff.mp hb
    have b1 := of_decide_eq_true b1
    have b2 := of_decide_eq_true b2
    exact ⟨i, rfl, b1, by omega, q _ F1 as1 H1 Up.refl g1 walk_rng⟩
  · cases ey
theorem ji_chars (ha : JE κ a ca) : JI κ tg a (.chars ca) := by
  refine ⟨fun pins s σ H R I t => (pi_str ha).run pins s σ H R I ?_⟩
  obtain ⟨Z, F, as, e, M, re, g, o⟩ := t
  refine ⟨Z, F, as, e, M, re, g, Out.bind o fun x F1 as1 H1 v' M1' e1 u1 g1 r1 o1 => ?_⟩
  cases v' with
  | loc n => exact o1.elim
  | d d =>
    cases d with
    | str y =>
      cases Rep.strE r1
      obtain ⟨ys, ey, q⟩ := Out.o o1
      split at ey
      · cases ey
        exact ⟨y, rfl, q _ F1 as1 H1 Up.refl g1 walk_chars⟩
      · cases ey
    | _ => exact o1.elim
end
/-! ### targets -/
mutual
def CG.sub : CG → List Nat → Bool
  | .name i, vs => vs.contains i
  | .tup gs, vs => gs.sub vs
def CGs.sub : CGs → List Nat → Bool
  | .nil, _ => true
  | .cons g r, vs => g.sub vs && r.sub vs
end
def CGs.len : CGs → Nat
  | .nil => 0
  | .cons _ r => r.len + 1
theorem asgs_len : ∀ {gs : CGs} {ds : List D} {e e' : Env}, asgs gs ds e = some e' → ds.length = gs.len
  | .nil, [], _, _, _ => rfl
  | .nil, _ :: _, _, _, h => by cases h
  | .cons _ _, [], _, _, h => by cases h
  | .cons g r, d :: ds, e, e', h => by
    unfold asgs at h
    obtain ⟨e1, h1, h2⟩ := Option.bind_eq_some_iff.mp h
    show _ + 1 = _ + 1
    rw [asgs_len h2]
theorem wipe_in {σ : L2.St} {j : Nat} : ∀ {vs : List Nat}, j ∈ vs → j < σ.length → (wipe σ vs)[j]? = some none
  | v :: vs, h, hl => by
    unfold wipe
    by_cases e : v = j
    · subst e
      exact List.getElem?_set_self (by rw [wipe_length]; exact hl)
    · rw [List.getElem?_set_ne e]
      exact wipe_in ((List.mem_cons.mp h).resolve_left fun q => e q.symm) hl
theorem wipe_set {σ : L2.St} {i : Nat} {x : Option V} {vs : List Nat} (h : i ∈ vs) : wipe (σ.set i x) vs = wipe σ vs := by
  refine List.ext_getElem? fun j => ?_
  by_cases hj : j ∈ vs
  · by_cases hl : j < σ.length
    · rw [wipe_in hj hl, wipe_in hj (by simpa using hl)]
    · rw [List.getElem?_eq_none (by rw [wipe_length]; simpa using hl), List.getElem?_eq_none (by rw [wipe_length]; omega)]
  · rw [wipe_out hj, wipe_out hj, List.getElem?_set_ne fun q => hj (by rw [← q]; exact h)]
theorem wipe_wipe {σ : L2.St} {vs : List Nat} : wipe (wipe σ vs) vs = wipe σ vs := by
  refine List.ext_getElem? fun j => ?_
  by_cases hj : j ∈ vs
  · by_cases hl : j < σ.length
    · rw [wipe_in hj hl, wipe_in hj (by rw [wipe_length]; exact hl)]
    · rw [List.getElem?_eq_none (by rw [wipe_length, wipe_length]; omega), List.getElem?_eq_none (by rw [wipe_length]; omega)]
  · rw [wipe_out hj]
def tgM (G : GG) (hx : Hx) (g : CG) : TG := fun v σ H Q => ∃ Z F as e M d e', EnvR G hx F as σ e ∧ Good G Z F as M H ∧ Rep G F v d ∧ asg g d e = some e' ∧ ∀ σ', EnvR G hx F as σ' e' → (∀ vs, g.sub vs = true → wipe σ' vs = wipe σ vs) → Q σ' H
def tgMs (G : GG) (hx : Hx) (g : CGs) : TGs := fun v σ H Q => ∃ Z F as e M d e', EnvR G hx F as σ e ∧ Good G Z F as M H ∧ Reps G F v d ∧ asgs g d e = some e' ∧ ∀ σ', EnvR G hx F as σ' e' → (∀ vs, g.sub vs = true → wipe σ' vs = wipe σ vs) → Q σ' H
def JG (κ : Kx) (tg : Expr) (g : CG) : Prop := PG κ.X tg (tgM κ.G κ.hx g)
def JGs (κ : Kx) (tg : List Expr) (g : CGs) : Prop := PGs κ.X tg (tgMs κ.G κ.hx g)
section
variable {κ : Kx} {tg : Expr} {es : List Expr} {g : CG} {gs : CGs} {pos : Pos} {x : Str} {i kk : Nat}
theorem jg_name (hN : κ.X.N.Nodup) (hi : κ.X.N[i]? = some x) (hx : Loc κ.X.env.scope x) (hf : κ.X.fn x = true ∨ κ.X.env.scope.names.lookup x = some .local) : JG κ (.Name x pos) (.name i) := by
  refine ⟨fun pins s σ H v u Q I r t => (pg_name hN hi hx hf).run pins s σ H v u Q I r ?_⟩
  obtain ⟨Z, F, as, e, M, d, e', re, g, rd, ea, q⟩ := t
  cases ea
  refine q _ (re.set (v := .d d) rd) fun vs hv => wipe_set ?_
  simpa [CG.sub] using hv
theorem jgs_nil : JGs κ [] .nil := by
  refine ⟨fun pins s σ H v u Q I r t => pgs_nil.run pins s σ H v u Q I r ?_⟩
  obtain ⟨Z, F, as, e, M, d, e', re, g, rd, ea, q⟩ := t
  cases rd with
  | nil =>
    cases ea
    exact ⟨rfl, q _ re fun _ _ => rfl⟩
  | cons _ _ => cases ea
theorem jgs_cons (h1 : JG κ tg g) (h2 : JGs κ es gs) (hs : (assignEach (tg :: es) κ.X.env).map (·.2) = assign tg κ.X.env :: (assignEach es κ.X.env).map (·.2) := by rfl) : JGs κ (tg :: es) (.cons g gs) := by
  refine ⟨fun pins s σ H v u Q I r t => (pgs_cons h1 h2 hs).run pins s σ H v u Q I r ?_⟩
  obtain ⟨Z, F, as, e, M, d, e', re, gd, rd, ea, q⟩ := t
  cases rd with
  | nil => cases ea
  | cons r1 r2 =>
    unfold asgs at ea
    obtain ⟨e1, h1, h2⟩ := Option.bind_eq_some_iff.mp ea
    refine ⟨_, _, rfl, Z, F, as, e, M, _, e1, re, gd, r1, h1, fun σ1 re1 w1 => ?_⟩
    refine ⟨Z, F, as, e1, M, _, e', re1, gd, r2, h2, fun σ2 re2 w2 => q σ2 re2 fun vs hv => ?_⟩
    unfold CGs.sub at hv
    obtain ⟨v1, v2⟩ := Bool.and_eq_true_iff.mp hv
    rw [w2 vs v2, w1 vs v1]
theorem jg_tup (h : Ok0 κ) (hc : κ.X.calm = true) (hg : JGs κ es gs) (hn : (assignEach es κ.X.env).length = gs.len := by rfl) (hst : (assignEach es κ.X.env).findIdx? (·.1) = none := by rfl) : JG κ (.Tuple es kk pos) (.tup gs) := by
  refine ⟨fun pins s σ H v u Q I r t => ?_⟩
  obtain ⟨Z, F, as, e, M, d, e', re, gd, rd, ea, q⟩ := t
  cases d with
  | tup xs =>
    obtain ⟨p, vs, rfl, hp, rs⟩ := tup_of rd
    have ea : asgs gs xs e = some e' := ea
    exact (pg_tup hc hg hn hst).run pins s σ H _ u Q I r ⟨p, vs, rfl, by rw [h.k]; exact Evl.ex_t gd.sub hp, by rw [rs.length, asgs_len ea], Z, F, as, e, M, xs, e', re, gd, rs, ea, fun σ' re' w => q σ' re' fun vs hv => w vs hv⟩
  | lst xs =>
    obtain ⟨p, vs, rfl, hp, rs⟩ := lst_of rd
    have ea : asgs gs xs e = some e' := ea
    exact (pg_unl hc hg hn hst).run pins s σ H _ u Q I r ⟨p, vs, rfl, .inl (.inl (gd.sub _ _ hp)), by rw [rs.length, asgs_len ea], Z, F, as, e, M, xs, e', re, gd, rs, ea, fun σ' re' w => q σ' re' fun vs hv => w vs hv⟩
  | _ => cases ea
end

/-! ### list comprehensions -/
abbrev Kx.blk (κ : Kx) (s : Shared) (H : Hp) (scope : Scope) (cenv : PySem.Env) (fp : List Addr) : Kx := { κ with X := κ.X.blk s H scope cenv fp, W := fun _ _ _ _ => False }
theorem Ok.blk {κ : Kx} (h : Ok κ) (s : Shared) (H : Hp) (scope : Scope) (cenv : PySem.Env) (fp : List Addr) : Ok (κ.blk s H scope cenv fp) where
  k := h.k
  u := h.u
  gd := h.gd
  fld := h.fld
  calm := h.calm
  room := h.room
  tk := fun u s' ⟨a, B, sI, pins, σ, H, cls, d, e, I, nb, up, sky, na, os, ag, w⟩ => w.elim
  po := PassesOwn.never
  nd := h.nd
  fn := h.fn
  met := h.met
  cls := h.cls
theorem wipeS_some {l : List (Option Vl)} {i : Nat} {x : Vl} : ∀ {vs : List Nat}, (wipeS l vs)[i]? = some (some x) → l[i]? = some (some x) ∧ i ∉ vs
  | [], h => ⟨h, by simp⟩
  | v :: vs, h => by
    unfold wipeS at h
    by_cases e : v = i
    · subst e
      by_cases hv : v < (wipeS l vs).length
      · rw [List.getElem?_set_self hv] at h; cases h
      · rw [List.getElem?_eq_none (by simpa using hv)] at h; cases h
    · rw [List.getElem?_set_ne e] at h
      obtain ⟨h1, h2⟩ := wipeS_some h
      exact ⟨h1, fun q => (List.mem_cons.mp q).elim (fun z => e z.symm) h2⟩
theorem wipeS_length (l : List (Option Vl)) : ∀ vs : List Nat, (wipeS l vs).length = l.length
  | [] => rfl
  | v :: vs => by unfold wipeS; rw [List.length_set, wipeS_length l vs]
theorem EnvR.wipe {G : GG} {hx : Hx} {F : Hp} {as : List Addr} {σ : L2.St} {e : Env} (r : EnvR G hx F as σ e) (vs : List Nat) : EnvR G hx F as (L2.wipe σ vs) (e.wipe vs) :=
  ⟨by rw [wipe_length, r.len]; exact (wipeS_length _ _).symm, fun i v h => by
    obtain ⟨h1, h2⟩ := wipeS_some h
    obtain ⟨x, h3, h4⟩ := r.at_ i v h1
    exact ⟨x, by rw [wipe_out h2]; exact h3, h4⟩, fun x h => by cases h⟩
theorem noEx_ok {α : Type} {m : EM α} {M M' : Mem} {a : α} (h : noEx m M = some (.ok a, M')) : m M = some (.ok a, M') := by
  unfold noEx at h
  split at h
  · rename_i h1
    rw [h1]
    exact h
  · cases h
theorem noEx_nx {α : Type} {m : EM α} {M M' : Mem} {x : Xc} : noEx m M ≠ some (.ex x, M') := by
  intro h
  unfold noEx at h
  split at h <;> cases h
theorem EM.bind_ok {α β : Type} {m : EM α} {k : α → EM β} {M M' : Mem} {b : β} (h : EM.bind m k M = some (.ok b, M')) : ∃ a M1, m M = some (.ok a, M1) ∧ k a M1 = some (.ok b, M') := by
  unfold EM.bind at h
  cases q : m M with
  | none => rw [q] at h; cases h
  | some r =>
    obtain ⟨r, M1⟩ := r
    rw [q] at h
    cases r with
    | ok a => exact ⟨a, M1, rfl, h⟩
    | ex x => cases h
theorem lcGo_nx {f : D → EM (Option D)} : ∀ {xs : List D} {M M' : Mem} {x : Xc}, lcGo f xs M ≠ some (.ex x, M')
  | [], M, M', x, h => by cases h
  | d :: xs, M, M', x, h => by
    unfold lcGo EM.bind at h
    cases q : noEx (f d) M with
    | none => rw [q] at h; cases h
    | some r =>
      obtain ⟨r, M1⟩ := r
      rw [q] at h
      cases r with
      | ex y => exact noEx_nx q
      | ok a =>
        simp only at h
        cases q2 : lcGo f xs M1 with
        | none => rw [q2] at h; cases h
        | some r2 =>
          obtain ⟨r2, M2⟩ := r2
          rw [q2] at h
          cases r2 with
          | ex y => exact lcGo_nx q2
          | ok ys => cases h
theorem lcGo_cons {f : D → EM (Option D)} {d : D} {xs ys : List D} {M M' : Mem} (h : lcGo f (d :: xs) M = some (.ok ys, M')) : ∃ o M1 zs, f d M = some (.ok o, M1) ∧ lcGo f xs M1 = some (.ok zs, M') ∧ ys = (match o with | some y => y :: zs | none => zs) := by
  unfold lcGo at h
  obtain ⟨o, M1, h1, h2⟩ := EM.bind_ok h
  obtain ⟨zs, M2, h3, h4⟩ := EM.bind_ok h2
  cases h4
  exact ⟨o, M1, zs, noEx_ok h1, h3, rfl⟩
section
variable {κ : Kx} {tg iter elt : Expr} {ifs : List Expr} {scope : Scope} {own : List (Str × Nat)} {ci : CI} {g : CG} {ct : CTs} {ce : CE} {pos spos py : Pos}
theorem jts_nil : JTs κ [] .nil := ⟨fun pins s σ H Q I t => by
  obtain ⟨Z, F, as, e, M, re, g, o⟩ := t
  exact pts_nil.run pins s σ H Q I (o _ F as H Up.refl g rfl)⟩
theorem jts_one {c : Expr} {t : CT} (h : JT κ c t) : JTs κ [c] (.one t) := pts_one h
theorem w_lc {σ : L2.St} {H : Hp} {Q : VK} (hsub : g.sub (own.map (·.2)) = true) (t : tM κ.G κ.hx κ.W (RepL κ.G) (runE κ.P.T κ.P.rp κ.cl (.lc g ci ct ce (own.map (·.2)))) σ H Q) :
    tLc (tM κ.G κ.hx κ.W (Walk κ.G) (runI κ.P.T κ.P.rp κ.cl ci)) (tgM κ.G κ.hx g) (tM κ.G κ.hx (fun _ _ _ _ => False) rB (runTs κ.P.T κ.P.rp κ.cl ct)) (tM κ.G κ.hx (fun _ _ _ _ => False) (RepL κ.G) (runE κ.P.T κ.P.rp κ.cl ce)) (own.map (·.2)) σ H Q := by
  generalize hvs : own.map (·.2) = vs at t hsub
  refine tM_bind (R := Walk κ.G) (S := RepL κ.G) (k := fun xs e => EM.bind (lcGo (fun x => match asg g x (e.wipe vs) with
      | none => EM.fail
      | some e' => EM.bind (runTs κ.P.T κ.P.rp κ.cl ct e') fun k => if k then EM.bind (runE κ.P.T κ.P.rp κ.cl ce e') fun v => EM.bind (toD v) fun d => EM.pure (some d) else EM.pure none) xs) mkLst) t fun J Z F as e M H1 xs re gd wk o => ?_
  intro D hD
  generalize hf : (fun x => match asg g x (e.wipe vs) with
      | none => EM.fail
      | some e' => EM.bind (runTs κ.P.T κ.P.rp κ.cl ct e') fun k => if k then EM.bind (runE κ.P.T κ.P.rp κ.cl ce e') fun v => EM.bind (toD v) fun d => EM.pure (some d) else EM.pure none) = f at o
  obtain ⟨tot, Me, e1, o1⟩ := o.got fun _ _ => lcGo_nx
  obtain ⟨z, ez, q⟩ := Out.o o1
  split at ez
  case isFalse => cases ez
  rename_i hz
  cases ez
  have hz := szOk_le hz
  let S : Nat → Hp → Prop := fun i H => ∃ F' as' M' acc accD ys, Up F as F' as' ∧ Good κ.G (upd Z D (.lst acc)) F' as' M' H ∧ Reps κ.G F' acc accD ∧ lcGo f (xs.drop i) M' = some (.ok ys, Me) ∧ tot = accD ++ ys
  refine ⟨fun i m H => m = xs.length - i ∧ i ≤ xs.length ∧ S i H, ⟨xs.length, by simp, Nat.zero_le _, F, as, M, [], [], tot, Up.refl, gd.aside hD, .nil, e1, rfl⟩, ?_⟩
  rintro i m H2 ⟨rfl, hi, F', as', M', acc, accD, ys, u1, g1, ra, el, et⟩
  by_cases hlt : i < xs.length
  · refine .inr ?_
    have hx : xs[i]? = some xs[i] := List.getElem?_eq_getElem hlt
    refine ⟨wk.go u1.ex g1 hx, S (i + 1), fun H3 h3 => ⟨_, by omega, rfl, by omega, h3⟩, fun xv H3 y3 => ?_⟩
    obtain ⟨F2, g2, ex2, rx⟩ := wk.yld u1.ex g1 hx y3
    rw [List.drop_eq_getElem_cons hlt] at el
    obtain ⟨oo, M1, zs, ef, el2, ey⟩ := lcGo_cons el
    rw [← hf] at ef
    simp only at ef
    cases qa : asg g xs[i] (e.wipe vs) with
    | none => rw [qa] at ef; cases ef
    | some e' =>
      rw [qa] at ef
      simp only at ef
      have u2 : Up F as F2 as' := u1.trans ⟨ex2, List.prefix_refl _⟩
      refine ⟨_, F2, as', e.wipe vs, M', xs[i], e', (re.mono u2).wipe vs, g2, rx, qa, fun σ2 re2 w2 => ⟨(w2 vs hsub).trans wipe_wipe, ?_⟩⟩
      obtain ⟨k, M3, et3, ef⟩ := EM.bind_ok ef
      refine ⟨_, F2, as', e', M', re2, g2, ?_⟩
      rw [et3]
      intro b F3 as3 H4 u3 g3 hb
      cases (show b = k from hb)
      cases k with
      | false =>
        cases ef
        simp only [Bool.false_eq_true, if_false]
        exact ⟨F3, as3, M1, acc, accD, zs, u2.trans u3, g3, (ra.mono ex2).mono u3.ex, el2, by rw [et, ey]⟩
      | true =>
        simp only [if_true] at ef ⊢
        obtain ⟨v, M4, ev, ef⟩ := EM.bind_ok ef
        obtain ⟨d, M5, ed, ef⟩ := EM.bind_ok ef
        cases ef
        refine ⟨_, F3, as3, e', M3, re2.mono u3, g3, ?_⟩
        rw [ev]
        intro y F4 as4 H5 u4 g4 ry
        obtain ⟨F5, g5, u5, rd⟩ := toD_ok g4 ry ed
        have racc := ((ra.mono ex2).mono u3.ex).mono (u4.trans u5).ex
        have htot : tot = (accD ++ [d]) ++ zs := by rw [et, ey]; simp
        refine ⟨acc, g4.zh _ _ upd_same, ?_, F5, as4, M1, acc ++ [y], accD ++ [d], zs, (u2.trans u3).trans (u4.trans u5), ?_, racc.append (.cons rd .nil), el2, htot⟩
        · have := ra.length
          have hl : tot.length = accD.length + 1 + zs.length := by rw [htot]; simp; omega
          show acc.length < 16777216
          have h9 : tot.length ≤ 16777216 := hz
          omega
        · have := g5.turn (p := D) (u := .lst (acc ++ [y])) upd_same
          rw [upd_upd] at this
          exact this
  · have : i = xs.length := by omega
    subst this
    rw [List.drop_length] at el
    cases el
    refine .inl ⟨wk.stop u1.ex g1, ?_⟩
    obtain ⟨g3, u3⟩ := g1.adopt (Z0 := Z) (p := D) upd_same fun a u h => by
      have ne : a ≠ D := ne_of_none (gd.zh _ _ h) hD
      exact ⟨by rw [upd_ne ne]; exact h, ne⟩
    refine q _ _ _ _ (u1.trans u3) g3 (.lst upd_same ?_)
    rw [et, List.append_nil]
    exact ra.mono u3.ex
theorem je_lc (h : Ok κ) (hi : JI κ tg iter ci) (ok : BlkOk κ.X.N κ.X.env.scope scope own) (hsub : g.sub (own.map (·.2)) = true)
    (hg : ∀ (s : Shared) (H : Hp) (C : Addr) (cl : List (Str × Addr)) (fp : List Addr), JG (κ.blk s H scope (compEnvC scope cl C κ.X.env) fp) tg g)
    (ht : ∀ (s : Shared) (H : Hp) (C : Addr) (cl : List (Str × Addr)) (fp : List Addr), JTs (κ.blk s H scope (compEnvC scope cl C κ.X.env) fp) ifs ct)
    (he : ∀ (s : Shared) (H : Hp) (C : Addr) (cl : List (Str × Addr)) (fp : List Addr), JE (κ.blk s H scope (compEnvC scope cl C κ.X.env) fp) elt ce)
    (hs : ∀ x, foldedSetIterable iter κ.X.env x = pure x := by intro _; rfl) : JE κ (.ListComp elt [⟨tg, iter, ifs, 0⟩] scope pos) (.lc g ci ct ce (own.map (·.2))) :=
  PE.weak (pe_lc (g := tgM κ.G κ.hx g) (tt := tM κ.G κ.hx (fun _ _ _ _ => False) rB (runTs κ.P.T κ.P.rp κ.cl ct)) (te := tM κ.G κ.hx (fun _ _ _ _ => False) (RepL κ.G) (runE κ.P.T κ.P.rp κ.cl ce)) h.calm h.nd hi ok hg ht he hs) fun σ H Q t => w_lc hsub t
end
end TD
set_option Elab.async false
set_option linter.all false
set_option maxRecDepth 100000
set_option maxHeartbeats 4000000
/-! TD, part K: statements. -/
namespace TD
open PySem L2
def OutS (G : GG) (hx : Hx) (W : WX) (Z F : Hp) (as : List Addr) (D : Ends) : Option (Flw × Mem) → Prop
  | none => False
  | some (.next e, M) => ∀ σ F' as' H, Up F as F' as' → EnvR G hx F' as' σ e → Good G Z F' as' M H → D.nx σ H
  | some (.brk e, M) => ∀ σ F' as' H, Up F as F' as' → EnvR G hx F' as' σ e → Good G Z F' as' M H → D.bk σ H
  | some (.cnt e, M) => ∀ σ F' as' H, Up F as F' as' → EnvR G hx F' as' σ e → Good G Z F' as' M H → D.ct σ H
  | some (.ret v, M) => ∀ x F' as' H, Up F as F' as' → Good G Z F' as' M H → RepL G F' as' x v → D.rt x H
  | some (.ex x e, M) => ∀ dd fs σ F' as' H, Up F as F' as' → EnvR G hx F' as' σ e → Good G Z F' as' M H → F' dd = some (.xd fs) → RepF G F' fs x.fs → W (.ref (G.cl x.cls)) (some dd) σ H
def tS (G : GG) (hx : Hx) (W : WX) (m : Env → SM) : TS := fun D σ H => ∃ Z F as e M, EnvR G hx F as σ e ∧ Good G Z F as M H ∧ OutS G hx W Z F as D (m e M)
abbrev Kx.rS (κ : Kx) (c : CS) : Env → SM := runS κ.P.T κ.P.rp κ.P.XT κ.cl c
abbrev Kx.rSs (κ : Kx) (c : CSs) : Env → SM := runSs κ.P.T κ.P.rp κ.P.XT κ.cl c
def JS (κ : Kx) (st : Stmt) (c : CS) : Prop := PS κ.X st (tS κ.G κ.hx κ.W (κ.rS c))
def JSs (κ : Kx) (st : List Stmt) (c : CSs) : Prop := PSs κ.X st (tS κ.G κ.hx κ.W (κ.rSs c))
theorem PS.weak {X : Cx} {e : Stmt} {t t' : TS} (h : PS X e t) (f : ∀ D σ H, t' D σ H → t D σ H) : PS X e t' := ⟨fun pins s σ H D I q => h.run pins s σ H D I (f D σ H q)⟩
theorem PSs.weak {X : Cx} {e : List Stmt} {t t' : TS} (h : PSs X e t) (f : ∀ D σ H, t' D σ H → t D σ H) : PSs X e t' := ⟨fun pins s σ H D I q => h.run pins s σ H D I (f D σ H q)⟩
section
variable {G : GG} {hx : Hx} {W : WX} {Z F F' : Hp} {as as' : List Addr} {D D' : Ends} {α β : Type} {R : Hp → List Addr → β → α → Prop} {Q : β → Hp → Prop} {M : Mem} {σ : L2.St} {e : Env}
theorem OutS.up (u : Up F as F' as') : ∀ {r : Option (Flw × Mem)}, OutS G hx W Z F as D r → OutS G hx W Z F' as' D r
  | none, h => h
  | some (.next _, _), h => fun σ F2 as2 H2 u2 => h σ F2 as2 H2 (u.trans u2)
  | some (.brk _, _), h => fun σ F2 as2 H2 u2 => h σ F2 as2 H2 (u.trans u2)
  | some (.cnt _, _), h => fun σ F2 as2 H2 u2 => h σ F2 as2 H2 (u.trans u2)
  | some (.ret _, _), h => fun σ F2 as2 H2 u2 => h σ F2 as2 H2 (u.trans u2)
  | some (.ex _ _, _), h => fun dd fs σ F2 as2 H2 u2 => h dd fs σ F2 as2 H2 (u.trans u2)
theorem OutS.seq {m : EM α} {k : α → SM} (o : OutS G hx W Z F as D (seqE e m k M)) (re : EnvR G hx F as σ e)
    (f : ∀ b F' as' H' a M', m M = some (.ok a, M') → Up F as F' as' → Good G Z F' as' M' H' → R F' as' b a → OutS G hx W Z F' as' D (k a M') → Q b H') : Out G Z F as R Q (fun c d H' => W c d σ H') (m M) := by
  unfold seqE at o
  cases q : m M with
  | none => rw [q] at o; exact o
  | some r =>
    obtain ⟨r, M1⟩ := r
    rw [q] at o
    cases r with
    | ok a => exact fun b F' as' H' u g r => f b F' as' H' a M1 q u g r (OutS.up u o)
    | ex x => exact fun dd fs F' as' H' u g h1 h2 => o dd fs σ F' as' H' u (re.mono u) g h1 h2
theorem seqE_bind {γ : Type} {m : EM α} {f : α → EM γ} {k : γ → SM} : seqE e (EM.bind m f) k = seqE e m fun a => seqE e (f a) k := by
  funext M
  unfold seqE EM.bind
  cases m M with
  | none => rfl
  | some r =>
    obtain ⟨r, M1⟩ := r
    cases r <;> rfl
theorem OutS.got {m : EM α} {k : α → SM} (o : OutS G hx W Z F as D (seqE e m k M)) (np : ∀ x M', m M ≠ some (.ex x, M')) : ∃ a M', m M = some (.ok a, M') ∧ OutS G hx W Z F as D (k a M') := by
  unfold seqE at o
  cases q : m M with
  | none => rw [q] at o; exact o.elim
  | some r =>
    obtain ⟨r, M1⟩ := r
    rw [q] at o
    cases r with
    | ok a => exact ⟨a, M1, rfl, o⟩
    | ex x => exact (np x M1 q).elim
theorem OutS.gotO {o' : Option α} {k : α → SM} (o : OutS G hx W Z F as D (seqE e (EM.o o') k M)) : ∃ a, o' = some a ∧ OutS G hx W Z F as D (k a M) := by
  cases o' with
  | none => exact o.elim
  | some a => exact ⟨a, rfl, o⟩
theorem tS_bind {m : Env → EM α} {k : α → Env → SM} {H : Hp} (t : tS G hx W (fun e => seqE e (m e) fun a => k a e) D σ H)
    (f : ∀ b Z F as e M H' a, EnvR G hx F as σ e → Good G Z F as M H' → R F as b a → OutS G hx W Z F as D (k a e M) → Q b H') : tM G hx W R m σ H Q := by
  obtain ⟨Z, F, as, e, M, re, g, o⟩ := t
  exact ⟨Z, F, as, e, M, re, g, o.seq re fun b F1 as1 H1 a M1 _ u1 g1 r1 o1 => f b Z F1 as1 e M1 H1 a (re.mono u1) g1 r1 o1⟩
end
section
variable {κ : Kx} {a b c e o : Expr} {ca cb cc ce co : CE} {es : List Expr} {cs : CL} {pos p apos cpos pos' px py pz pt pt2 : Pos} {x y z : Str} {i j l : Nat} {st : Stmt} {sts : List Stmt} {cst : CS} {csts cb1 cb2 : CSs}
theorem jss_nil : JSs κ [] .nil := PSs.weak pss_nil fun D σ H t => by
  obtain ⟨Z, F, as, e, M, re, g, o⟩ := t
  exact o σ F as H Up.refl re g
theorem jss_cons (h1 : JS κ st cst) (h2 : JSs κ sts csts) : JSs κ (st :: sts) (.cons cst csts) := PSs.weak (pss_cons h1 h2) fun D σ H t => by
  obtain ⟨Z, F, as, e, M, re, g, o⟩ := t
  refine ⟨Z, F, as, e, M, re, g, ?_⟩
  have o : OutS κ.G κ.hx κ.W Z F as D (SM.then (κ.rS cst e) (fun e' => κ.rSs csts e') M) := o
  unfold SM.then at o
  cases q : κ.rS cst e M with
  | none => rw [q] at o; exact o
  | some r =>
    obtain ⟨r, M1⟩ := r
    rw [q] at o
    cases r with
    | next e1 => exact fun σ1 F1 as1 H1 u1 re1 g1 => ⟨Z, F1, as1, e1, M1, re1, g1, OutS.up u1 o⟩
    | ret v => exact o
    | brk e1 => exact o
    | cnt e1 => exact o
    | ex x e1 => exact o
theorem js_pass : JS κ (.Pass pos) .pass := PS.weak ps_pass fun D σ H t => by
  obtain ⟨Z, F, as, e, M, re, g, o⟩ := t
  exact o σ F as H Up.refl re g
theorem js_brk : JS κ (.Break pos) .brk := PS.weak ps_break fun D σ H t => by
  obtain ⟨Z, F, as, e, M, re, g, o⟩ := t
  exact o σ F as H Up.refl re g
theorem js_cnt : JS κ (.Continue pos) .cnt := PS.weak ps_continue fun D σ H t => by
  obtain ⟨Z, F, as, e, M, re, g, o⟩ := t
  exact o σ F as H Up.refl re g
theorem js_retN : JS κ (.Return none pos) .retN := PS.weak ps_retN fun D σ H t => by
  obtain ⟨Z, F, as, e, M, re, g, o⟩ := t
  exact o .non F as H Up.refl g .non
theorem js_ret (ha : JE κ a ca) : JS κ (.Return (some a) pos) (.ret ca) := PS.weak (ps_ret ha) fun D σ H t =>
  tS_bind (k := fun v e => SM.pure (.ret v)) t fun x Z F as e M H1 va re g ra o => o x F as H1 Up.refl g ra
theorem js_expr (ha : JE κ a ca) (hs : swapsWith a none pos.line κ.X.env = pure false := by rfl) : JS κ (.Expr a pos) (.expr ca) := PS.weak (ps_expr ha hs) fun D σ H t =>
  tS_bind (k := fun v e => SM.pure (.next e)) t fun x Z F as e M H1 va re g ra o => o σ F as H1 Up.refl re g
theorem w_set {D : Ends} {σ : L2.St} {H : Hp} (t : tS κ.G κ.hx κ.W (κ.rS (.set (.name i) ca)) D σ H) : tAsg (κ.rE ca) (gName i) D σ H := by
  have t : tS κ.G κ.hx κ.W (fun e => seqE e (EM.bind (runE κ.P.T κ.P.rp κ.cl ca e) fun v => EM.pure (e.set i v)) fun e' => SM.pure (.next e')) D σ H := t
  simp only [seqE_bind] at t
  exact tS_bind (k := fun v e => seqE e (EM.pure (e.set i v)) fun e' => SM.pure (.next e')) t fun x Z F as e M H1 va re g ra o => o _ F as H1 Up.refl (re.set ra) g
theorem js_set (hN : κ.X.N.Nodup) (hi : κ.X.N[i]? = some x) (hx : Loc κ.X.env.scope x) (hf : κ.X.fn x = true ∨ κ.X.env.scope.names.lookup x = some .local) (ha : JE κ a ca) (hs : swapsWith a (some (.Name x pos')) pos.line κ.X.env = pure false := by rfl) :
    JS κ (.Assign [.Name x pos'] a pos) (.set (.name i) ca) := PS.weak (ps_set hN hi hx ha hs hf) fun D σ H t => w_set t
theorem js_asg {g : CG} {gs : CGs} (ha : JE κ a ca) (hg : JG κ b (.tup gs)) (hs : swapsWithSole [b] a pos.line κ.X.env = pure false := by rfl) (hw : swappedStores [b] a κ.X.env = pure none := by rfl)
    (h1 : (assignEach [b] κ.X.env).map (·.2) = [assign b κ.X.env] := by rfl) : JS κ (.Assign [b] a pos) (.set (.tup gs) ca) := PS.weak (ps_asg ha hg hs hw h1) fun D σ H t => by
  have t : tS κ.G κ.hx κ.W (fun e => seqE e (EM.bind (runE κ.P.T κ.P.rp κ.cl ca e) fun v => EM.bind (toD v) fun d => EM.o (asg (.tup gs) d e)) fun e' => SM.pure (.next e')) D σ H := t
  simp only [seqE_bind] at t
  refine tS_bind (k := fun v e => seqE e (toD v) fun d => seqE e (EM.o (asg (.tup gs) d e)) fun e' => SM.pure (.next e')) t fun x Z F as e M H1 va re g ra o => ?_
  obtain ⟨d, M1, e1, o1⟩ := o.got fun _ _ => toD_nx
  obtain ⟨F1, g1, u1, r1⟩ := toD_ok g ra e1
  obtain ⟨e', ee, o2⟩ := o1.gotO
  exact ⟨Z, F1, as, e, M1, d, e', re.mono u1, g1, r1, ee, fun σ' re' _ => o2 σ' F1 as H1 u1 re' g1⟩
theorem js_par2 (h : Ok κ) {kt k2 : Nat} (hi : κ.X.N[i]? = some x) (hj : κ.X.N[j]? = some y) (hij : i ≠ j) (hx : κ.X.env.scope.names.lookup x = some .local) (hy : κ.X.env.scope.names.lookup y = some .local) (ha : JA κ [a, b] cs)
    (hw : swappedStores [.Tuple [.Name x px, .Name y py] kt pt] (.Tuple [a, b] k2 pt2) κ.X.env = pure (some [x, y]))
    (hs : swapsWithSole [.Tuple [.Name x px, .Name y py] kt pt] (.Tuple [a, b] k2 pt2) pos.line κ.X.env = pure false := by rfl) : JS κ (.Assign [.Tuple [.Name x px, .Name y py] kt pt] (.Tuple [a, b] k2 pt2) pos) (.par [i, j] cs) :=
  PS.weak (ps_par h.calm h.nd hi hj hij hx hy ha hw hs) fun D σ H t => by
    have t : tS κ.G κ.hx κ.W (fun e => seqE e (EM.bind (runL κ.P.T κ.P.rp κ.cl cs e) fun vs => EM.o (parS [i, j] vs e)) fun e' => SM.pure (.next e')) D σ H := t
    simp only [seqE_bind] at t
    refine tS_bind (R := RepLs κ.G) (k := fun vs e => seqE e (EM.o (parS [i, j] vs e)) fun e' => SM.pure (.next e')) t fun xs Z F as e M H1 vs re g rs o => ?_
    obtain ⟨e', ee, o2⟩ := o.gotO
    cases rs with
    | nil => cases ee
    | cons r1 rs =>
      cases rs with
      | nil => cases ee
      | cons r2 rs =>
        cases rs with
        | nil =>
          cases ee
          exact ⟨_, _, rfl, o2 _ F as H1 Up.refl ((re.set r1).set r2) g⟩
        | cons r3 rs => cases ee
theorem js_par3 (h : Ok κ) {kt k2 : Nat} (hi : κ.X.N[i]? = some x) (hj : κ.X.N[j]? = some y) (hl : κ.X.N[l]? = some z) (hij : i ≠ j) (hil : i ≠ l) (hjl : j ≠ l) (hx : κ.X.env.scope.names.lookup x = some .local) (hy : κ.X.env.scope.names.lookup y = some .local) (hz : κ.X.env.scope.names.lookup z = some .local) (ha : JA κ [a, b, c] cs)
    (hw : swappedStores [.Tuple [.Name x px, .Name y py, .Name z pz] kt pt] (.Tuple [a, b, c] k2 pt2) κ.X.env = pure (some [x, y, z]))
    (hs : swapsWithSole [.Tuple [.Name x px, .Name y py, .Name z pz] kt pt] (.Tuple [a, b, c] k2 pt2) pos.line κ.X.env = pure false := by rfl) : JS κ (.Assign [.Tuple [.Name x px, .Name y py, .Name z pz] kt pt] (.Tuple [a, b, c] k2 pt2) pos) (.par [i, j, l] cs) :=
  PS.weak (ps_par3 h.calm h.nd hi hj hl hij hil hjl hx hy hz ha hw hs) fun D σ H t => by
    have t : tS κ.G κ.hx κ.W (fun e => seqE e (EM.bind (runL κ.P.T κ.P.rp κ.cl cs e) fun vs => EM.o (parS [i, j, l] vs e)) fun e' => SM.pure (.next e')) D σ H := t
    simp only [seqE_bind] at t
    refine tS_bind (R := RepLs κ.G) (k := fun vs e => seqE e (EM.o (parS [i, j, l] vs e)) fun e' => SM.pure (.next e')) t fun xs Z F as e M H1 vs re g rs o => ?_
    obtain ⟨e', ee, o2⟩ := o.gotO
    cases rs with
    | nil => cases ee
    | cons r1 rs =>
      cases rs with
      | nil => cases ee
      | cons r2 rs =>
        cases rs with
        | nil => cases ee
        | cons r3 rs =>
          cases rs with
          | nil =>
            cases ee
            exact ⟨_, _, _, rfl, o2 _ F as H1 Up.refl (((re.set r1).set r2).set r3) g⟩
          | cons r4 rs => cases ee
theorem js_if {ct : CT} (hc : JT κ c ct) (ha : JSs κ sts cb1) {sts2 : List Stmt} (hb : JSs κ sts2 cb2) : JS κ (.If c sts sts2 pos) (.ife ct cb1 cb2) := PS.weak (ps_if hc ha hb) fun D σ H t =>
  tS_bind (R := rB) (k := fun k e => if k then κ.rSs cb1 e else κ.rSs cb2 e) t fun x Z F as e M H1 va re g ra o => by
    cases (show x = va from ra)
    cases x with
    | true => exact ⟨Z, F, as, e, M, re, g, o⟩
    | false => exact ⟨Z, F, as, e, M, re, g, o⟩
end
end TD
set_option Elab.async false
set_option linter.all false
set_option maxRecDepth 100000
set_option maxHeartbeats 4000000
/-! TD, part L: statements, further. -/
namespace TD
open PySem L2
theorem RepLF.put {G : GG} {F : Hp} {as : List Addr} {f : Str} {y : V} {v : Vl} (h : RepL G F as y v) : ∀ {fs' : List (Str × V)} {fs : List (Str × Vl)}, RepLF G F as fs' fs → RepLF G F as (putF f y fs') (putL f v fs)
  | _, _, .nil => .cons h .nil
  | _, _, .cons (n := n) h1 r => by
    unfold putF putL
    by_cases q : n = f
    · rw [if_pos q, if_pos q]
      exact .cons h r
    · rw [if_neg q, if_neg q]
      exact .cons h1 (RepLF.put h r)
theorem RepLF.length {G : GG} {F : Hp} {as : List Addr} : ∀ {vs : List (Str × V)} {ds : List (Str × Vl)}, RepLF G F as vs ds → vs.length = ds.length
  | _, _, .nil => rfl
  | _, _, .cons _ r => congrArg (· + 1) r.length
section
variable {κ : Kx} {a b c e o : Expr} {ca cb cc ce co : CE} {es : List Expr} {cs : CL} {pos p apos cpos pos' px py pz pt pt2 : Pos} {x y z : Str} {i j l : Nat} {st : Stmt} {sts : List Stmt} {cst : CS} {csts cb1 cb2 : CSs}
theorem js_fld {f : Str} (h : Ok1 κ) (ho : JE κ o co) (ha : JE κ a ca) (hs : swapsWith a (some (.Attribute o f pos')) pos.line κ.X.env = pure false := by rfl) : JS κ (.Assign [.Attribute o f pos'] a pos) (.fld co f ca) := PS.weak (ps_fld ho ha hs) fun D σ H t => by
  have t : tS κ.G κ.hx κ.W (fun e => seqE e (EM.bind (runE κ.P.T κ.P.rp κ.cl ca e) fun v => EM.bind (runE κ.P.T κ.P.rp κ.cl co e) fun x => setField κ.P.T f v x) fun _ => SM.pure (.next e)) D σ H := t
  simp only [seqE_bind] at t
  refine tS_bind (R := RepL κ.G) (k := fun v e => seqE e (runE κ.P.T κ.P.rp κ.cl co e) fun x => seqE e (setField κ.P.T f v x) fun _ => SM.pure (.next e)) t fun y Z F as e M H1 va re g ra o => ?_
  refine ⟨Z, F, as, e, M, re, g, o.seq re fun xo F2 as2 H2 vo M2 _ u2 g2 ro o2 => ?_⟩
  cases vo with
  | d d => exact o2.elim
  | loc n =>
    obtain ⟨p, hp, rfl⟩ := ro
    unfold seqE setField at o2
    cases q : M2[n]? with
    | none => simp only [q] at o2; exact o2.elim
    | some mo =>
      have ok := g2.ok n p mo hp q
      cases mo with
      | ins k fs =>
        simp only [q] at o2
        by_cases hc : (κ.P.T.fld k f && decide (fs.length < 1000)) = true
        · rw [if_pos hc] at o2
          obtain ⟨hf, hl⟩ := Bool.and_eq_true_iff.mp hc
          obtain ⟨h4, h5⟩ := h.fld k f hf
          obtain ⟨hn, dx, fs', hH, rf⟩ := ok
          refine ⟨p, _, dx, fs', rfl, hH, h4, h5, by rw [rf.length]; exact of_decide_eq_true hl, ?_⟩
          exact o2 σ F2 as2 _ Up.refl (re.mono u2) (g2.write hp hn ⟨hn, dx, _, upd_same, rf.put (ra.mono u2)⟩)
        · rw [if_neg hc] at o2
          exact o2.elim
      | _ => simp only [q] at o2; exact o2.elim
theorem js_sub (ho : JE κ o co) (hi : JE κ b cb) (ha : JE κ a ca) (hs : swapsWithSole [.Subscript o b pos'] a pos.line κ.X.env = pure false := by rfl) (hw : swappedStores [.Subscript o b pos'] a κ.X.env = pure none := by rfl)
    (h1 : (assignEach [.Subscript o b pos'] κ.X.env).map (·.2) = [assign (.Subscript o b pos') κ.X.env] := by rfl)
    (hsub : ∀ v, assign (.Subscript o b pos') κ.X.env v = (do
      let ov ← holding [v] (eval o κ.X.env)
      let iv ← holding [v, ov] (eval b κ.X.env)
      standAt pos'
      holding [v, ov, iv] (setItem ov iv v)
      release [v, ov, iv] []) := by intro _; rfl) : JS κ (.Assign [.Subscript o b pos'] a pos) (.sub co cb ca) := PS.weak (ps_asg ha (pg_sub ho hi set_list hsub) hs hw h1) fun D σ H t => by
  have t : tS κ.G κ.hx κ.W (fun e => seqE e (EM.bind (runE κ.P.T κ.P.rp κ.cl ca e) fun v => EM.bind (runE κ.P.T κ.P.rp κ.cl co e) fun x => EM.bind (runE κ.P.T κ.P.rp κ.cl cb e) fun y => subV x y v) fun _ => SM.pure (.next e)) D σ H := t
  simp only [seqE_bind] at t
  refine tS_bind (R := RepL κ.G) (k := fun v e => seqE e (runE κ.P.T κ.P.rp κ.cl co e) fun x => seqE e (runE κ.P.T κ.P.rp κ.cl cb e) fun y => seqE e (subV x y v) fun _ => SM.pure (.next e)) t fun y Z F as e M H1 va re g ra o => ?_
  refine ⟨Z, F, as, e, M, re, g, o.seq re fun xo F2 as2 H2 vo M2 _ u2 g2 ro o2 => ?_⟩
  refine ⟨Z, F2, as2, e, M2, re.mono u2, g2, o2.seq (re.mono u2) fun xi F3 as3 H3 vi M3 _ u3 g3 ri o3 => ?_⟩
  cases vo with
  | d d => exact o3.elim
  | loc n =>
    obtain ⟨p, hp, rfl⟩ := ro
    have hp := pre_get u3.pre hp
    cases vi with
    | loc m => exact o3.elim
    | d di =>
      cases di with
      | int k =>
        cases Rep.intE ri
        unfold seqE subV at o3
        cases q1 : toD va M3 with
        | none => simp only [q1] at o3; exact o3.elim
        | some r1 =>
          obtain ⟨r1, M4⟩ := r1
          cases r1 with
          | ex x => exact (toD_nx q1).elim
          | ok d =>
            obtain ⟨F4, g4, u4, r4⟩ := toD_ok g3 ((ra.mono u2).mono u3) q1
            simp only [q1] at o3
            cases q : M4[n]? with
            | none => simp only [q] at o3; exact o3.elim
            | some mo =>
              have ok := g4.ok n p mo hp q
              cases mo with
              | lst ys =>
                simp only [q] at o3
                cases q5 : ixN ys.length k with
                | none => simp only [q5] at o3; exact o3.elim
                | some jj =>
                  simp only [q5] at o3
                  obtain ⟨hn, vs, hH, rs⟩ := ok
                  refine ⟨p, vs, k, jj, rfl, rfl, hH, by rw [rs.length]; exact q5, ?_⟩
                  exact o3 σ F4 as3 _ u4 (((re.mono u2).mono u3).mono u4) (g4.write hp hn ⟨hn, _, upd_same, rs.set r4 jj⟩)
              | _ => simp only [q] at o3; exact o3.elim
      | _ => exact o3.elim
theorem lstE_ok {G : GG} {Z F H : Hp} {as : List Addr} {M M' : Mem} {x : V} {v : Vl} {u : Unit} (g : Good G Z F as M H) (r : RepL G F as x v) (e : lstE v M = some (.ok u, M')) : M' = M ∧ ∃ p vs, x = .ref p ∧ H p = some (.lst vs) := by
  unfold lstE at e
  split at e
  · rename_i e1
    cases e
    obtain ⟨h1, p, vs, h2, h3, _⟩ := peek_ok g r e1
    exact ⟨h1, p, vs, h2, h3⟩
  · cases e
theorem lstE_nx {v : Vl} {M M' : Mem} {x : Xc} : lstE v M ≠ some (.ex x, M') := by
  intro e
  unfold lstE at e
  split at e <;> cases e
/-- xs.append(v) -/
theorem js_append (ho : JE κ o co) (ha : JE κ a ca)
    (hfew : ((backTo cpos (starEach [a] κ.X.env)).all (fun x => !x.1) && (backToKw cpos (keywordEach [] κ.X.env)).all (fun x => x.1.isSome)
      && decide ([a].length + ([] : List Keyword).length + (if ([] : List Keyword).isEmpty then 0 else 1) < 30)) = true := by rfl)
    (hbase : attributeBase o "append" κ.X.env (eval o κ.X.env) = eval o κ.X.env := by rfl) (hline : (apos.endLine == cpos.line) = true := by rfl) (hs : starEach [a] κ.X.env = (false, eval a κ.X.env) :: starEach [] κ.X.env := by rfl)
    (hsw : swapsWith (.Call (.Attribute o "append" apos) [a] [] cpos) none pos.line κ.X.env = pure false := by rfl) : JS κ (.Expr (.Call (.Attribute o "append" apos) [a] [] cpos) pos) (.mut .append co (.cons ca .nil)) :=
  PS.weak (ps_expr (pe_bm PySem.F.plainAttrs_list PySem.F.slot_list_append PySem.F.type_list_append mt_append ho (pa_cons ha pa_nil hs) hbase hfew hline hs rfl) hsw) fun D σ H t => by
    have t : tS κ.G κ.hx κ.W (fun e => seqE e (EM.bind (runE κ.P.T κ.P.rp κ.cl co e) fun x => EM.bind (lstE x) fun _ => EM.bind (EM.bind (runE κ.P.T κ.P.rp κ.cl ca e) fun v => EM.bind (EM.pure []) fun vs => EM.pure (v :: vs)) fun vs => mutV .append x vs) fun _ => SM.pure (.next e)) D σ H := t
    simp only [seqE_bind] at t
    refine tS_bind (R := RepL κ.G) (k := fun x e => seqE e (lstE x) fun _ => seqE e (runE κ.P.T κ.P.rp κ.cl ca e) fun v => seqE e (EM.pure []) fun vs => seqE e (EM.pure (v :: vs)) fun vs => seqE e (mutV .append x vs) fun _ => SM.pure (.next e)) t fun xo Z F as e M H1 vo re g ro o => ?_
    obtain ⟨_, M1, e1, o1⟩ := o.got fun _ _ => lstE_nx
    obtain ⟨rfl, p, ws, rfl, hw⟩ := lstE_ok g ro e1
    refine ⟨.inl ⟨rfl, ws, .inl (.inl hw)⟩, Z, F, as, e, M1, re, g, o1.seq re fun xa F2 as2 H2 va M2 _ u2 g2 ra o2 => ?_⟩
    have o2 : OutS κ.G κ.hx κ.W Z F2 as2 D (seqE e (mutV .append vo [va]) (fun _ => SM.pure (.next e)) M2) := o2
    cases vo with
    | d d => exact o2.elim
    | loc n =>
      obtain ⟨p', hp, ep⟩ := ro
      cases ep
      have hp := pre_get u2.pre hp
      unfold seqE mutV at o2
      cases q : M2[n]? with
      | none => simp only [q] at o2; exact o2.elim
      | some mo =>
        cases mo with
        | lst ys0 =>
          simp only [q] at o2
          cases q1 : toD va M2 with
          | none => simp only [q1] at o2; exact o2.elim
          | some r1 =>
            obtain ⟨r1, M4⟩ := r1
            cases r1 with
            | ex x => exact (toD_nx q1).elim
            | ok d =>
              obtain ⟨F4, g4, u4, r4⟩ := toD_ok g2 ra q1
              simp only [q1] at o2
              cases q5 : M4[n]? with
              | none => simp only [q5] at o2; exact o2.elim
              | some mo =>
                have ok := g4.ok n p mo hp q5
                cases mo with
                | lst ys =>
                  simp only [q5] at o2
                  obtain ⟨hn, vs, hH, rs⟩ := ok
                  by_cases hz : ys.length < 16777216
                  · rw [if_pos hz] at o2
                    refine ⟨p, vs, xa, rfl, rfl, hH, by rw [rs.length]; exact hz, ?_⟩
                    exact o2 σ F4 as2 _ u4 ((re.mono u2).mono u4) (g4.write hp hn ⟨hn, _, upd_same, rs.append (.cons r4 .nil)⟩)
                  · rw [if_neg hz] at o2
                    exact o2.elim
                | _ => simp only [q5] at o2; exact o2.elim
        | _ => simp only [q] at o2; exact o2.elim
/-- xs.extend(ys) -/
theorem js_extend (ho : JE κ o co) (ha : JE κ a ca)
    (hfew : ((backTo cpos (starEach [a] κ.X.env)).all (fun x => !x.1) && (backToKw cpos (keywordEach [] κ.X.env)).all (fun x => x.1.isSome)
      && decide ([a].length + ([] : List Keyword).length + (if ([] : List Keyword).isEmpty then 0 else 1) < 30)) = true := by rfl)
    (hbase : attributeBase o "extend" κ.X.env (eval o κ.X.env) = eval o κ.X.env := by rfl) (hline : (apos.endLine == cpos.line) = true := by rfl) (hs : starEach [a] κ.X.env = (false, eval a κ.X.env) :: starEach [] κ.X.env := by rfl)
    (hsw : swapsWith (.Call (.Attribute o "extend" apos) [a] [] cpos) none pos.line κ.X.env = pure false := by rfl) : JS κ (.Expr (.Call (.Attribute o "extend" apos) [a] [] cpos) pos) (.mut .extend co (.cons ca .nil)) :=
  PS.weak (ps_expr (pe_bm PySem.F.plainAttrs_list PySem.F.slot_list_extend PySem.F.type_list_extend mt_extend ho (pa_cons ha pa_nil hs) hbase hfew hline hs rfl) hsw) fun D σ H t => by
    have t : tS κ.G κ.hx κ.W (fun e => seqE e (EM.bind (runE κ.P.T κ.P.rp κ.cl co e) fun x => EM.bind (lstE x) fun _ => EM.bind (EM.bind (runE κ.P.T κ.P.rp κ.cl ca e) fun v => EM.bind (EM.pure []) fun vs => EM.pure (v :: vs)) fun vs => mutV .extend x vs) fun _ => SM.pure (.next e)) D σ H := t
    simp only [seqE_bind] at t
    refine tS_bind (R := RepL κ.G) (k := fun x e => seqE e (lstE x) fun _ => seqE e (runE κ.P.T κ.P.rp κ.cl ca e) fun v => seqE e (EM.pure []) fun vs => seqE e (EM.pure (v :: vs)) fun vs => seqE e (mutV .extend x vs) fun _ => SM.pure (.next e)) t fun xo Z F as e M H1 vo re g ro o => ?_
    obtain ⟨_, M1, e1, o1⟩ := o.got fun _ _ => lstE_nx
    obtain ⟨rfl, p, ws, rfl, hw⟩ := lstE_ok g ro e1
    refine ⟨.inl ⟨rfl, ws, .inl (.inl hw)⟩, Z, F, as, e, M1, re, g, o1.seq re fun xa F2 as2 H2 va M2 _ u2 g2 ra o2 => ?_⟩
    have o2 : OutS κ.G κ.hx κ.W Z F2 as2 D (seqE e (mutV .extend vo [va]) (fun _ => SM.pure (.next e)) M2) := o2
    cases vo with
    | d d => exact o2.elim
    | loc n =>
      obtain ⟨p', hp, ep⟩ := ro
      cases ep
      have hp := pre_get u2.pre hp
      unfold seqE mutV at o2
      cases q : M2[n]? with
      | none => simp only [q] at o2; exact o2.elim
      | some mo =>
        have ok := g2.ok n p mo hp q
        cases mo with
        | lst ys =>
          simp only [q] at o2
          obtain ⟨hn, vs, hH, rs⟩ := ok
          cases q1 : peek va M2 with
          | none => simp only [q1] at o2; exact o2.elim
          | some r1 =>
            obtain ⟨r1, M4⟩ := r1
            cases r1 with
            | ex x => exact (peek_nx q1).elim
            | ok d =>
              obtain ⟨rfl, sh⟩ := peek_ok g2 ra q1
              cases d with
              | lst zs =>
                simp only [q1] at o2
                obtain ⟨pb, ws2, rfl, hb, rz⟩ := sh
                by_cases hz : ys.length + zs.length ≤ 16777216
                · rw [if_pos hz] at o2
                  refine ⟨p, pb, vs, ws2, rfl, rfl, hH, hb, by rw [rs.length, rz.length]; exact hz, ?_⟩
                  exact o2 σ F2 as2 _ Up.refl (re.mono u2) (g2.write hp hn ⟨hn, _, upd_same, rs.append rz⟩)
                · rw [if_neg hz] at o2
                  exact o2.elim
              | _ => simp only [q1] at o2; exact o2.elim
        | _ => simp only [q] at o2; exact o2.elim
/-- for tg in iter: body -/
theorem js_for {tg iter : Expr} {g : CG} {ci : CI} (h : Ok κ) (hi : JI κ tg iter ci) (hg : JG κ tg g) (hb : JSs κ sts csts) (hs : ∀ x, foldedSetIterable iter κ.X.env x = pure x := by intro _; rfl) : JS κ (.For tg iter sts [] pos) (.fors g ci csts) :=
  PS.weak (ps_for h.po h.calm hi hg hb hs) fun D σ H t => by
    refine tS_bind (R := Walk κ.G) (k := fun xs e => forGo g (fun e' => κ.rSs csts e') xs e) t fun J Z F as e M H1 xs re gd wk o => ?_
    let S : Nat → L2.St → Hp → Prop := fun i σ H => ∃ F' as' M' e', Up F as F' as' ∧ EnvR κ.G κ.hx F' as' σ e' ∧ Good κ.G Z F' as' M' H ∧ OutS κ.G κ.hx κ.W Z F' as' D (forGo g (fun e' => κ.rSs csts e') (xs.drop i) e' M')
    refine ⟨fun i m σ H => m = xs.length - i ∧ i ≤ xs.length ∧ S i σ H, ⟨xs.length, by simp, Nat.zero_le _, F, as, M, e, Up.refl, re, gd, o⟩, ?_⟩
    rintro i m σ2 H2 ⟨rfl, hi, F', as', M', e', u1, re1, g1, o1⟩
    by_cases hlt : i < xs.length
    · refine .inr ?_
      have hx : xs[i]? = some xs[i] := List.getElem?_eq_getElem hlt
      refine ⟨wk.go u1.ex g1 hx, S (i + 1), fun σ3 H3 h3 => ⟨_, by omega, rfl, by omega, h3⟩, fun xv H3 y3 => ?_⟩
      obtain ⟨F2, g2, ex2, rx⟩ := wk.yld u1.ex g1 hx y3
      have u2 : Up F' as' F2 as' := ⟨ex2, List.prefix_refl _⟩
      rw [List.drop_eq_getElem_cons hlt] at o1
      unfold forGo at o1
      cases qa : asg g xs[i] e' with
      | none => rw [qa] at o1; exact o1.elim
      | some e1 =>
        rw [qa] at o1
        simp only at o1
        refine ⟨Z, F2, as', e', M', xs[i], e1, re1.mono u2, g2, rx, qa, fun σ3 re3 _ => ⟨Z, F2, as', e1, M', re3, g2, ?_⟩⟩
        cases qb : κ.rSs csts e1 M' with
        | none => rw [qb] at o1; exact o1
        | some r =>
          obtain ⟨r, M2⟩ := r
          rw [qb] at o1
          cases r with
          | next e2 => exact fun σ4 F3 as3 H4 u3 re4 g4 => ⟨F3, as3, M2, e2, (u1.trans u2).trans u3, re4, g4, OutS.up (u2.trans u3) o1⟩
          | cnt e2 => exact fun σ4 F3 as3 H4 u3 re4 g4 => ⟨F3, as3, M2, e2, (u1.trans u2).trans u3, re4, g4, OutS.up (u2.trans u3) o1⟩
          | brk e2 => exact fun σ4 F3 as3 H4 u3 re4 g4 => o1 σ4 F3 as3 H4 (u2.trans u3) re4 g4
          | ret v => exact fun x F3 as3 H4 u3 g4 r4 => o1 x F3 as3 H4 (u2.trans u3) g4 r4
          | ex x e2 => exact fun dd fs σ4 F3 as3 H4 u3 re4 g4 h1 h2 => o1 dd fs σ4 F3 as3 H4 (u2.trans u3) re4 g4 h1 h2
    · have : i = xs.length := by omega
      subst this
      rw [List.drop_length] at o1
      exact .inl ⟨wk.stop u1.ex g1, o1 σ2 F' as' H2 Up.refl re1 g1⟩
/-- name = [..] on one line -/
theorem js_setLc {tg iter elt : Expr} {ifs : List Expr} {scope : Scope} {own : List (Str × Nat)} {ci : CI} {g : CG} {ct : CTs} (h : Ok κ) (hy : κ.X.N[i]? = some y) (hyl : κ.X.env.scope.names.lookup y = some .local)
    (hsw : swapsWith (.ListComp elt [⟨tg, iter, ifs, 0⟩] scope pos) (some (.Name y py)) pos'.line κ.X.env = pure true) (hi : JI κ tg iter ci) (ok : BlkOk κ.X.N κ.X.env.scope scope own) (hsub : g.sub (own.map (·.2)) = true)
    (hg : ∀ (s : Shared) (H : Hp) (C : Addr) (cl : List (Str × Addr)) (fp : List Addr), JG (κ.blk s H scope (compEnvC scope cl C κ.X.env) fp) tg g)
    (ht : ∀ (s : Shared) (H : Hp) (C : Addr) (cl : List (Str × Addr)) (fp : List Addr), JTs (κ.blk s H scope (compEnvC scope cl C κ.X.env) fp) ifs ct)
    (he : ∀ (s : Shared) (H : Hp) (C : Addr) (cl : List (Str × Addr)) (fp : List Addr), JE (κ.blk s H scope (compEnvC scope cl C κ.X.env) fp) elt ce)
    (hs : ∀ x, foldedSetIterable iter κ.X.env x = pure x := by intro _; rfl) : JS κ (.Assign [.Name y py] (.ListComp elt [⟨tg, iter, ifs, 0⟩] scope pos) pos') (.set (.name i) (.lc g ci ct ce (own.map (·.2)))) :=
  PS.weak (ps_setLc (g := tgM κ.G κ.hx g) (tt := tM κ.G κ.hx (fun _ _ _ _ => False) rB (runTs κ.P.T κ.P.rp κ.cl ct)) (te := tM κ.G κ.hx (fun _ _ _ _ => False) (RepL κ.G) (runE κ.P.T κ.P.rp κ.cl ce)) h.calm h.nd hy hyl hsw hi ok hg ht he hs) fun D σ H t => w_lc hsub (w_set t)
end
end TD
set_option Elab.async false
set_option linter.all false
set_option maxRecDepth 100000
set_option maxHeartbeats 4000000
/-! TD, part M: raise, try. -/
namespace TD
open PySem L2
def rX (G : GG) : Hp → List Addr → (Value × Option Addr) → Xc → Prop := fun F _ b x => ∃ dd fs, b = (.ref (G.cl x.cls), some dd) ∧ F dd = some (.xd fs) ∧ RepF G F fs x.fs
def JX (κ : Kx) (e : Expr) (m : Env → EM Xc) : Prop := PMk κ.X e fun σ H Q => tM κ.G κ.hx κ.W (rX κ.G) m σ H fun b H' => Q b.1 b.2 H'
abbrev Kx.tr (κ : Kx) (W : WX) (pn : List (Addr × Obj)) (xe : Value → Shared → Prop) : Kx := { κ with X := κ.X.tr pn xe, W := W }
abbrev Kx.suite (κ : Kx) (i : Nat) (a : Addr) (oe : Obj) (cls : Value) (d : Option Addr) (pn : List (Addr × Obj)) : Kx := { κ with X := κ.X.suite a ((a, oe) :: pn), W := fun _ _ _ _ => False, hx := d.map fun dd => (i, a, cls, dd) }
theorem Ok.tr {κ : Kx} (h : Ok κ) {W : WX} {pn : List (Addr × Obj)} {xe : Value → Shared → Prop} (tk : Takes (κ.X.tr pn xe) W) (po : PassesOwn (model κ.X.prog κ.X.w) κ.X.A κ.X.env xe) : Ok (κ.tr W pn xe) where
  k := h.k
  u := h.u
  gd := h.gd
  fld := h.fld
  calm := h.calm
  room := h.room
  tk := tk
  po := po
  nd := h.nd
  fn := h.fn
  met := h.met
  cls := h.cls
theorem Ok0.suite {κ : Kx} (h : Ok0 κ) (i : Nat) (a : Addr) (oe : Obj) (cls : Value) (d : Option Addr) (pn : List (Addr × Obj)) : Ok0 (κ.suite i a oe cls d pn) where
  k := h.k
  u := h.u
  gd := h.gd
theorem EnvR.drop {G : GG} {hx hx' : Hx} {F : Hp} {as : List Addr} {σ : L2.St} {e : Env} (r : EnvR G hx F as σ e) (i : Nat) : EnvR G hx' F as (σ.set i none) ⟨e.s.set i none, none⟩ := by
  refine ⟨by simp [r.len], fun j v h => ?_, fun x h => by cases h⟩
  have h : (e.s.set i none)[j]? = some (some v) := h
  by_cases q : i = j
  · subst q
    by_cases hl : i < e.s.length
    · rw [List.getElem?_set_self hl] at h; cases h
    · rw [List.getElem?_eq_none (by simpa using hl)] at h; cases h
  · rw [List.getElem?_set_ne q] at h
    rw [List.getElem?_set_ne q]
    exact r.at_ j v h
theorem EnvR.catch {G : GG} {hx : Hx} {F : Hp} {as : List Addr} {σ : L2.St} {e : Env} (r : EnvR G hx F as σ e) {i : Nat} {a dd : Addr} {x : Xc} {fs : List (Str × V)} (hi : i < e.s.length) (h1 : F dd = some (.xd fs)) (h2 : RepF G F fs x.fs) :
    EnvR G (some (i, a, .ref (G.cl x.cls), dd)) F as (σ.set i (some (.ref a))) ⟨e.s.set i none, some x⟩ := by
  have d := r.drop (hx' := none) i
  refine ⟨by simp [r.len], fun j v h => ?_, fun y h => ?_⟩
  · have h : (e.s.set i none)[j]? = some (some v) := h
    have q : i ≠ j := fun q => by
      subst q
      rw [List.getElem?_set_self hi] at h
      cases h
    obtain ⟨z, hz, rz⟩ := d.at_ j v h
    rw [List.getElem?_set_ne q] at hz ⊢
    exact ⟨z, hz, rz⟩
  · cases h
    exact ⟨i, a, dd, fs, rfl, List.getElem?_set_self (by rw [r.len]; exact hi), h1, h2⟩
section
variable {κ : Kx} {a b c e o : Expr} {ca cb cc ce co : CE} {es : List Expr} {cs : CL} {pos p np pos' : Pos} {x n : Str} {i k : Nat} {st b₀ : Stmt} {sts body suite : List Stmt} {cst : CS} {csts cbd ch : CSs}
theorem js_raise (h : Ok κ) (hx : JX κ a fun e => EM.bind (runL κ.P.T κ.P.rp κ.cl cs e) fun vs => EM.bind (toDs vs) fun ds => EM.o (mkX κ.P.XT k ds)) : JS κ (.Raise (some a) none pos) (.raise k cs) := PS.weak (ps_raise h.calm h.tk hx) fun D σ H t =>
  tS_bind (R := rX κ.G) (k := fun x e => SM.pure (.ex x e)) t fun b Z F as e M H1 va re g ra o => by
    obtain ⟨dd, fs, rfl, h1, h2⟩ := ra
    exact o dd fs σ F as H1 Up.refl re g h1 h2
theorem js_tryAs (h : Ok κ) (hs : κ.X.stack = κ.X.env :: κ.X.outer) (hf : κ.X.env.frame = some κ.X.env.locals) (hi : κ.X.N[i]? = some n) (hln : κ.X.env.kindOf n = some .local) (hc : Names κ.X x (.ref (κ.G.cl k)))
    (hex : ∀ j, (κ.P.XT.fs j).isSome = true → PySem.W.exmOne κ.X.K (.ref (κ.G.cl j)) (.ref (κ.G.cl k)) = some (κ.P.T.sub j k))
    (hb : ∀ (W : WX) (pn : List (Addr × Obj)) (xe : Value → Shared → Prop), Ok (κ.tr W pn xe) → JSs (κ.tr W pn xe) body cbd)
    (hsu : ∀ (a : Addr) (oe : Obj) (cls : Value) (d : Option Addr) (pn : List (Addr × Obj)), Zc cls d oe → (∃ vs, oe.data = .fields vs) → JSs (κ.suite i a oe cls d pn) (b₀ :: suite) ch) :
    JS κ (.Try body [.ExceptHandler (some (.Name x np)) (some n) (b₀ :: suite) pos'] [] [] pos) (.tryx cbd (.cons k i ch .nil)) :=
  PS.weak (ps_try_as (tb := fun W => tS κ.G κ.hx W (κ.rSs cbd)) (ts := fun a cls d => tS κ.G (d.map fun dd => (i, a, cls, dd)) (fun _ _ _ _ => False) (κ.rSs ch)) hs hf h.nd hi hln hc h.tk (fun W pn xe tk po => hb W pn xe (h.tr tk po)) hsu) fun D σ H t => by
    obtain ⟨Z, F, as, e, M, re, g, o⟩ := t
    refine ⟨Z, F, as, e, M, re, g, ?_⟩
    have o : OutS κ.G κ.hx κ.W Z F as D (match κ.rSs cbd e M with
      | some (.ex x e1, M1) => runH κ.P.T κ.P.rp κ.P.XT κ.cl (.cons k i ch .nil) x e1 M1
      | r => r) := o
    cases q : κ.rSs cbd e M with
    | none => rw [q] at o; exact o
    | some r =>
      obtain ⟨r, M1⟩ := r
      rw [q] at o
      cases r with
      | next e1 => exact o
      | ret v => exact o
      | brk e1 => exact o
      | cnt e1 => exact o
      | ex x e1 =>
        intro dd fs σ1 F1 as1 H1 u1 re1 g1 h1 h2
        simp only at o
        unfold runH at o
        by_cases hc : ((κ.P.XT.fs x.cls).isSome && decide (i < e1.s.length)) = true
        · rw [if_pos hc] at o
          obtain ⟨hc1, hc2⟩ := Bool.and_eq_true_iff.mp hc
          refine ⟨κ.P.T.sub x.cls k, hex _ hc1, fun hb a ha => ?_, fun hb => ?_⟩
          · rw [if_pos hb] at o
            refine ⟨Z, F1, as1, _, M1, re1.catch (of_decide_eq_true hc2) h1 h2, g1, ?_⟩
            cases q2 : κ.rSs ch ⟨e1.s.set i none, some x⟩ M1 with
            | none => simp only [q2] at o; exact o.elim
            | some r2 =>
              obtain ⟨r2, M2⟩ := r2
              simp only [q2] at o
              cases r2 with
              | next e3 => exact fun σ4 F4 as4 H4 u4 re4 g4 => o _ F4 as4 H4 (u1.trans u4) (re4.drop i) g4
              | brk e3 => exact fun σ4 F4 as4 H4 u4 re4 g4 => o _ F4 as4 H4 (u1.trans u4) (re4.drop i) g4
              | cnt e3 => exact fun σ4 F4 as4 H4 u4 re4 g4 => o _ F4 as4 H4 (u1.trans u4) (re4.drop i) g4
              | ret v => exact fun x F4 as4 H4 u4 g4 r4 => o x F4 as4 H4 (u1.trans u4) g4 r4
              | ex y e3 => exact o.elim
          · rw [if_neg (by rw [hb]; exact Bool.false_ne_true)] at o
            exact o dd fs σ1 F1 as1 H1 u1 re1 g1 h1 h2
        · rw [if_neg hc] at o
          exact o.elim
theorem je_xf {f : Str} {a : Addr} {oe : Obj} {cls : Value} {d : Option Addr} {pn : List (Addr × Obj)} (hxf : ∀ c f, κ.P.T.xfl c f = true → XfC κ.X.K (κ.G.cl c) ∧ PySem.W.findIn κ.X.K (.ref (κ.G.cl c)) f = some none)
    (hz : Zc cls d oe) (hd : ∃ vs, oe.data = .fields vs) (hN : κ.X.N[i]? = some n) (hv : Vis κ.X.env.scope n) (hdb : (n == ("__debug__" : Str)) = false := by decide) (hcd : (n == ("__classdict__" : Str)) = false := by decide)
    (hb : attributeBase (.Name n p) f κ.X.env (eval (.Name n p) κ.X.env) = eval (.Name n p) κ.X.env := by rfl) : JE (κ.suite i a oe cls d pn) (.Attribute (.Name n p) f pos) (.xf f) := by
  refine ⟨fun pins s σ H Q I t => ?_⟩
  obtain ⟨Z, F, as, e, M, re, g, o⟩ := t
  obtain ⟨v, ev, q⟩ := Out.o o
  obtain ⟨dv, ed, rfl⟩ := Option.map_eq_some_iff.mp ev
  obtain ⟨xc, ex, el⟩ := Option.bind_eq_some_iff.mp ed
  split at el
  case isFalse => cases el
  rename_i hfl
  obtain ⟨i', a', dd, fs, e1, e2, e3, e4⟩ := re.exc xc ex
  obtain ⟨dd0, hd0, e1⟩ := Option.map_eq_some_iff.mp e1
  obtain ⟨ei, e1⟩ := Prod.mk.inj e1
  obtain ⟨ea, e1⟩ := Prod.mk.inj e1
  obtain ⟨ecl, edd⟩ := Prod.mk.inj e1
  rw [← ei, ← ea] at e2
  rw [← edd] at e3
  obtain ⟨h1, h2⟩ := hxf _ _ hfl
  obtain ⟨w, hw, rw⟩ := e4.lookup el
  exact (pe_xf h1 h2 hz hd (pe_var (X := κ.X.suite a ((a, oe) :: pn)) hN hv hdb hcd) hb).run pins s σ H Q I ⟨.ref _, e2, rfl, ecl, _, fs, w, hd0, g.sub _ _ e3, hw, q w F as H Up.refl g rw⟩
end
end TD
set_option Elab.async false
set_option linter.all false
set_option maxRecDepth 100000
set_option maxHeartbeats 4000000
/-! TD, part X: own exceptions whose __init__ says super().__init__('..') and stores its values. -/
namespace TDX
open PySem PySem.W PySem.Calls PyProof.Rows PySem.HandSPX
open Builtin Builtin.ObjectAttr
section
variable {prog : Program} {w : World} {M : Model} {A : Around} {E : Value → Shared → Prop} {hp : Heap} {g : Array GenState} {d : Drawn} {t : Nat} {os : OsState}
variable {nm q : Str} {C N : Addr} {bs bm bmB : List Value} {hdct : Bool} {sn : List Str} {sub : List Value} {ab : Bool} {col : Option Bool} {dd : Option Addr} {k0 k1 k2 k3 k5 : Option Value} {B newId i : String}
/-- the bound __init__ of the base, called -/
theorem call_mw (FB : ExcBaseFacts B newId i bmB) {u x t0 : Addr} {rest : List Value} {Q : Value → Shared → Prop}
    (hC : hp.get? C = some (excClassObj nm q C N bs bm hdct sn sub ab col dd k0 k1 k2 k3 k5 newId)) (hx : hp.get? x = some (excO C t0)) (hu : hp.get? u = some (kxs_mw i x)) (hz : rest.length ≤ sizeLine)
    (hq : ∀ h2 t1, (∀ b o, b ≠ x → hp.get? b = some o → h2.get? b = some o) → h2.get? x = some (excO C t1) → Q .none ⟨h2, g, d, t, os⟩) : wpAny (model prog w) A (call (.ref u) rest) Q E ⟨hp, g, d, t, os⟩ := by
  refine wpAny_call (codeAny_of_tree ?_)
  show wpAny (model prog w) A.in1 (callAny (.ref u) ⟨rest, []⟩) _ _ _
  simp only [callAny]
  refine wpAny_bind (wpAny_load hu ?_)
  simp only [kxs_mw, show (Value.type "method-wrapper" == Value.type "method" || Value.type "method-wrapper" == Value.type "builtin_function_or_method" || Value.type "method-wrapper" == Value.type "method-wrapper") = true from by decide, if_true]
  refine KFB.if_so (by decide) ?_
  refine wpAny_bind (check_bound_init FB.toExcCallFacts hC hx rfl ?_)
  refine wpAny_bind (wpAny_pure (wpAny_pure ⟨plainId_quiet FB.init.plain _, codeAny_builtin FB.initEntry ?_⟩))
  refine exc_init_tree (cls := .ref C) (t0 := t0) (dv := none) (c2 := .none) (c3 := .none) (b4 := .bool false) hx hz fun h2 k e2 _ => ?_
  exact hq h2 hp.objs.size k e2
end
section
variable {prog : Program} {w : World} {A : Around} {E : Value → Shared → Prop} {R : Result → Shared → Prop} {hp : Heap} {g : Array GenState} {d : Drawn} {t : Nat} {os : OsState} {K : Frag} {name : Str} {tk : Tok} {v : Value} {x C dx : Addr} {fv : Array Value} {cd : ClassData} {m0 : Str → Option Value} {nl : List Str} {B : String} {bmB : List Value}
theorem taker_none (h : findIn K (.ref C) name = some none) : takerIn K C name = some none := by
  unfold takerIn
  rw [h]
  rfl
/-- the first store: the dict comes -/
theorem sto_new (SF : StoreFacts B bmB "object.__setattr__" "object") (ho : excOver K C bmB = true) (X : K.In hp) (hx : hp.get? x = some { cls := .ref C, data := .fields fv }) (hcd : clsIn K C = some cd) (hh : cd.hasDict = true) (ha : findIn K (.ref C) name = some none)
    (hq : ∀ h2 tk2 dx, (∀ b o, b ≠ x → hp.get? b = some o → h2.get? b = some o) → hp.objs.size ≤ dx → dx ≠ x → h2.get? x = some { cls := .ref C, dict := some dx, data := .fields fv } →
      h2.Ns1 dx (fun y => if y = name then some v else none) → R (.ok (.ret .none)) ⟨h2, g, d, tk2, os⟩) :
    codeAny (model prog w) A (.call (.builtin "object.__setattr__") ⟨[.ref x, .str name tk, v], []⟩) R ⟨hp, g, d, t, os⟩ := by
  have I : InstAt hp x { cls := .ref C, data := .fields fv } C none := ⟨hx, rfl, rfl, trivial⟩
  have nx : x ≠ hp.objs.size := Nat.ne_of_lt (Heap.lt_size hx)
  refine osa_openX SF X I ho (taker_none ha) fun b => ?_
  have hcls : Looks (model prog w) hp (classData C) cd := looks_clsIn X hcd
  obtain ⟨nm, bs, mro, ns, qn, hd, sn, sb, ab, col, del⟩ := cd
  dsimp only at hh
  subst hh
  dsimp only
  unfold storeInOwnDict ownDictForStores
  repeat (first | with_reducible refine store_in_new ?_ ?_ | with_reducible refine wpAny_loadPart_at hx ?_ | with_reducible refine hcls.at ?_ | wp_step)
  · exact ⟨_, #[], _, (Heap.get?_update_ne _ _ _ _ nx.symm).trans (Heap.get?_push_at rfl rfl), rfl, fun e he => absurd he (by simp), fun _ => rfl⟩
  · intro h2 tk2 hn2 hs2
    have hx1 : (hp.push { cls := .type "dict", data := .dict #[] }).get? x = some { cls := .ref C, data := .fields fv } := Heap.get?_push_of_some _ hx
    refine hq h2 tk2 hp.objs.size (fun b o hb hv => ?_) (Nat.le_refl _) nx.symm ?_ hn2
    · exact (hs2.2 b (Nat.ne_of_lt (Heap.lt_size hv))).trans ((Heap.get?_update_ne _ _ _ _ hb).trans (Heap.get?_push_of_some _ hv))
    · exact (hs2.2 x nx).trans (Heap.get?_update_self _ hx1 rfl)
/-- a further store -/
theorem sto_old (SF : StoreFacts B bmB "object.__setattr__" "object") (ho : excOver K C bmB = true) (X : K.In hp) (hx : hp.get? x = some { cls := .ref C, dict := some dx, data := .fields fv }) (hns : hp.Ns1 dx m0) (hw : Within m0 nl) (hz : nl.length ≤ 1000) (hcd : clsIn K C = some cd)
    (hh : cd.hasDict = true) (ha : findIn K (.ref C) name = some none)
    (hq : ∀ h2 tk2, (∀ b o, b ≠ dx → hp.get? b = some o → h2.get? b = some o) → h2.Ns1 dx (fun y => if y = name then some v else m0 y) → R (.ok (.ret .none)) ⟨h2, g, d, tk2, os⟩) :
    codeAny (model prog w) A (.call (.builtin "object.__setattr__") ⟨[.ref x, .str name tk, v], []⟩) R ⟨hp, g, d, t, os⟩ := by
  obtain ⟨oD, esD, epD, hoD, hdD, _⟩ := hns.count hw
  have I : InstAt hp x { cls := .ref C, dict := some dx, data := .fields fv } C (some oD) := ⟨hx, rfl, rfl, hoD⟩
  refine osa_openX SF X I ho (taker_none ha) fun b => ?_
  have hcls : Looks (model prog w) hp (classData C) cd := looks_clsIn X hcd
  obtain ⟨nm, bs, mro, ns, qn, hd, sn, sb, ab, col, del⟩ := cd
  dsimp only at hh
  subst hh
  dsimp only
  unfold storeInOwnDict ownDictForStores
  repeat (first | with_reducible refine ESX.store_in_old hns hw hz ?_ | with_reducible refine wpAny_loadPart_at hx ?_ | with_reducible refine hcls.at ?_ | wp_step)
  intro h2 tk2 hn2 hs2
  exact hq h2 tk2 (fun b o hb hv => (hs2.2 b hb).trans hv) hn2
end
/-- self.f = f, one after the other -/
inductive Asg : List Str → List Stmt → Prop
  | nil : Asg [] []
  | cons {f : Str} {fs : List Str} {sts : List Stmt} {q1 q2 q3 q4 : Pos} : Asg fs sts → Asg (f :: fs) (.Assign [.Attribute (.Name "self" q1) f q2] (.Name f q3) q4 :: sts)
def put : List Str → List Value → (Str → Option Value) → Str → Option Value
  | f :: fs, v :: vs, m => put fs vs fun y => if y = f then some v else m y
  | _, _, m => m
section
variable {prog : Program} {w : World} {A : Around} {E : Value → Shared → Prop} {K : Frag} {C x dx : Addr} {cd : ClassData} {B : String} {bmB : List Value} {fv : Array Value} {env : PySem.Env} {m : Str → Option Value}
theorem go_fields (SF : StoreFacts B bmB "object.__setattr__" "object") (ho : excOver K C bmB = true) (sa : findIn K (.ref C) "__setattr__" = some (some (.builtin "object.__setattr__"))) (hcd : clsIn K C = some cd) (hh : cd.hasDict = true)
    (hk : env.scope.kind = .function) (hself : env.kindOf "self" = some .local) (mself : m "self" = some (.ref x)) (hxd : x ≠ dx) (hld : env.locals ≠ dx) (hKd : K.lookup dx = none) :
    ∀ {fs : List Str} {sts : List Stmt} {vs : List Value} {m0 : Str → Option Value} {nl : List Str} {s : Shared} {Q : Flow → Shared → Prop}, Asg fs sts → fs.length = vs.length → (∀ f ∈ fs, findIn K (.ref C) f = some none ∧ env.kindOf f = some .local ∧ (f == ("__debug__" : Str)) = false) → (∀ p ∈ fs.zip vs, m p.1 = some p.2) →
      nl.length + fs.length ≤ 1000 → Within m0 nl → K.In s.heap → s.heap.Ns env.locals m → s.heap.get? x = some { cls := .ref C, dict := some dx, data := .fields fv } → s.heap.Ns1 dx m0 →
      (∀ h2 tk2, (∀ b o, b ≠ dx → s.heap.get? b = some o → h2.get? b = some o) → h2.Ns1 dx (put fs vs m0) → Q .next { s with heap := h2, toks := tk2 }) → wpAny (model prog w) A (execs sts env) Q E s
  | _, _, [], m0, nl, s, Q, .nil, _, _, _, _, _, _, _, _, hns, hq => wpAny_execs_nil (hq s.heap s.toks (fun _ _ _ e => e) hns)
  | f :: fs, _, v :: vs, m0, nl, s, Q, .cons hr, hl, hf, hm, hz, hw, X, hn, hx, hns, hq => by
    obtain ⟨f1, f2, f3⟩ := hf f List.mem_cons_self
    refine wpAny_execs_cons (plainObj_wpAny_Assign_Attribute (ESX.ldL hn (hm (f, v) (by simp)) (ESX.ldL hn mself ?_ hk hself) hk f2 f3) (by rfl))
    obtain ⟨oD, esD, epD, hoD, hdD, _⟩ := hns.count hw
    refine set_plain X (ox := { cls := .ref C, dict := some dx, data := .fields fv }) (od := some oD) ⟨hx, rfl, rfl, hoD⟩ sa ?_
    obtain ⟨hp, g, d, t, os⟩ := s
    refine sto_old SF ho X hx hns hw (by simp at hz; omega) hcd hh f1 fun h2 tk2 k2 n2 => ?_
    show wpAny (model prog w) A (execs _ env) Q E _
    have X2 : K.In h2 := fun a o e => k2 a o (fun q => by rw [q, hKd] at e; cases e) (X a o e)
    refine go_fields SF ho sa hcd hh hk hself mself hxd hld hKd (nl := f :: nl) (m0 := fun y => if y = f then some v else m0 y) hr (by simpa using hl) (fun f' hf' => hf f' (List.mem_cons_of_mem _ hf')) (fun p hp => hm p (by simp [hp])) (by simp at hz ⊢; omega) (Within.cons f v hw) X2
      (hn.at fun o e => k2 _ o hld e) (k2 _ _ hxd hx) n2 fun h3 tk3 k3 n3 => hq h3 tk3 (fun b o hb e => k3 b o hb (k2 b o hb e)) n3
end

section
variable {prog : Program} {w : World} {A : Around} {c : Code} {E : Value → Shared → Prop} {s : Shared} {env : PySem.Env}
theorem at_method {o : Expr} {name : Str} {apos pos : Pos} {args : List Expr} {Q : Value → Shared → Prop} (hline : (apos.endLine == pos.line) = true) (hform : methodCallForm (args.length + ([] : List Keyword).length) (backTo pos (starEach args env)) (backToKw pos (keywordEach [] env)) = true)
    (h : _root_.PySem.wpAt (model prog w) A c (attributeBase o name env (eval o env)) (fun ov s1 => ∀ pl, wpAny (model prog w) A (getMethod ov name pl) (fun fx s2 => wpAny (model prog w) A (callWith pos fx.1 fx.2 (backTo pos (starEach args env)) []) Q E s2) E s1) E s) :
    _root_.PySem.wpAt (model prog w) A c (eval (.Call (.Attribute o name apos) args [] pos) env) Q E s := by
  have hpos : methodCallPos true o env apos pos = pure pos := by unfold methodCallPos; simp [hline]
  rw [arm_eval_Call]
  refine _root_.PySem.wpAt_bind (_root_.PySem.wpAt_mono h (fun ov s1 h1 => _root_.PySem.wpAt_of_wpAny (wpAny_bind (wpAny_standAt ?_))) fun _ _ z => z)
  unfold methodCall
  rw [hform]
  exact wpAny_bind (wpAny_holding (wpAny_mono (h1 _) (fun fx s2 h2 => wpAny_bind (wpAny_of_eq hpos h2)) fun _ _ z => z))
end
/-- what the written part says of an own exception class at C, its __init__ at fI, its fields -/
structure XIni (prog : Program) (K : Frag) (C fI : Addr) (B newId i : String) (bmB : List Value) (fs : List Str) : Prop where
  FB : ExcBaseFacts B newId i bmB
  KF : KxsFacts B i
  SF : StoreFacts B bmB "object.__setattr__" "object"
  ini : excInitIn K C bmB newId = true
  over : excOver K C bmB = true
  sa : findIn K (.ref C) "__setattr__" = some (some (.builtin "object.__setattr__"))
  iC : findIn K (.ref C) "__init__" = some (some (.ref fI))
  tI : typeIn K (.ref fI) = some (.type "function")
  kp : keepIn K (.ref C) = true
  exC : subIn K (.ref C) (.type "BaseException") = some true
  tyC : typeIn K (.ref C) = some (.type "type")
  hd : (clsIn K C).any (·.hasDict) = true
  noF : ∀ f ∈ fs, findIn K (.ref C) f = some none
  hB : subIn K (.ref C) (.type B) = some true
  sup : ks_superIn K C C "__init__" = some (some (.builtin i))
  opq : nsIn K cStatics "thirdparty.any" = some none
  sub : mroIn K C (.ref C) = some true
  ne : fs ≠ []
  few : fs.length ≤ 900
  top : (prog.main.scope.names.lookup ("super" : Str)).isSome = false
  fn : ∃ (oc : Value) (od : Option Addr) (qual : Str) (ps : List Arg) (p0 p1 p2 p3 p4 p5 pself : Pos) (txt : Str) (j : Nat) (sts : List Stmt) (scope : Scope) (doc pm : Value) (an : Option Addr) (cda : Addr) (ct : Value) (cc : Addr) (osl : Array (Option Value)) (ccl cl : Value) (cdd cld : Option Addr) (ccs csl : Array (Option Value)) (vs : Array Value) (file : Str) (tf : Tok),
    K.lookup fI = some ⟨oc, od, .func (ksFn "__init__" qual { posonlyargs := [], args := { arg := "self", annotation := none, pos := pself } :: ps, vararg := none, kwonlyargs := [], kw_defaults := [], kwarg := none, defaults := [] } (.Expr (.Call (.Attribute (.Call (.Name "super" p0) [] [] p1) "__init__" p2) [.Constant (.str txt) j p3] [] p4) p5 :: sts) scope .none .none doc pm an (.ref cda) ct cc), osl⟩ ∧
    codeIn K (.ref cda) qual = true ∧ K.lookup cda = some ⟨ccl, cdd, .fields vs, ccs⟩ ∧ vs[2]? = some (.str file tf) ∧ ((prog.main.file : Str) == file) = true ∧ (p2.endLine == p4.line) = true ∧ K.lookup cc = some ⟨cl, cld, .cell (some (.ref C)), csl⟩ ∧
    Asg fs sts ∧ ps.map (·.arg) = fs ∧ (∀ x ∈ scope.names, x.2 ≠ .cell) ∧ scope.isCoroutine = false ∧ scope.isGenerator = false ∧ scope.kind = .function ∧
    scope.names.lookup ("super" : Str) = some .globalImplicit ∧ scope.names.lookup ("__class__" : Str) = some .free ∧ (∀ f ∈ ("self" : Str) :: fs, scope.names.lookup f = some .local ∧ (f == ("__debug__" : Str)) = false) ∧
    ∀ (s : Shared) (u : Value) (us : List Value), us.length = fs.length → BindsTo s (ksFn "__init__" qual { posonlyargs := [], args := { arg := "self", annotation := none, pos := pself } :: ps, vararg := none, kwonlyargs := [], kw_defaults := [], kwarg := none, defaults := [] } (.Expr (.Call (.Attribute (.Call (.Name "super" p0) [] [] p1) "__init__" p2) [.Constant (.str txt) j p3] [] p4) p5 :: sts) scope .none .none doc pm an (.ref cda) ct cc) ⟨u :: us, []⟩ ((("self" : Str), u) :: fs.zip us)
structure IEnd (h h2 : Heap) (x C dx : Addr) (fs : List Str) (vs : List Value) : Prop where
  keep : ∀ b o, b ≠ x → h.get? b = some o → h2.get? b = some o
  obj : ∃ t1 : Addr, h2.get? x = some { cls := .ref C, dict := some dx, data := .fields #[.ref t1, .none, .none, .none, .bool false, .none] }
  dbig : h.objs.size ≤ dx
  dne : dx ≠ x
  ns : h2.Ns1 dx (put fs vs fun _ => none)
section
variable {prog : Program} {w : World} {A : Around} {E : Value → Shared → Prop} {R : Result → Shared → Prop} {s : Shared} {K : Frag} {mg mb : Str → Option Value} {C fI : Addr} {B newId i : String} {bmB : List Value} {fs : List Str}
theorem lookup_bind : ∀ {fs : List Str} {us : List Value} {p : Str × Value}, fs.Nodup → p ∈ fs.zip us → (fs.zip us).lookup p.1 = some p.2
  | [], _, _, _, h => by simp at h
  | _ :: _, [], _, _, h => by simp at h
  | f :: fs, u :: us, p, nd, h => by
    rw [List.zip_cons_cons, List.lookup_cons]
    rcases List.mem_cons.mp (by simpa using h) with e | h
    · subst e
      simp
    · have hp : p.1 ∈ fs := (List.of_mem_zip h).1
      have : (p.1 == f) = false := by
        rw [beq_eq_false_iff_ne]
        intro q
        exact (List.nodup_cons.mp nd).1 (q ▸ hp)
      rw [this]
      exact lookup_bind (List.nodup_cons.mp nd).2 h
theorem nodup_fst_lookup {α : Type} : ∀ {l : List (Str × α)} {n : Str} {v : α}, (l.map (·.1)).Nodup → (n, v) ∈ l → l.lookup n = some v
  | [], _, _, _, h => by simp at h
  | (k, u) :: l, n, v, nd, h => by
    rw [List.lookup_cons]
    rw [List.map_cons, List.nodup_cons] at nd
    rcases List.mem_cons.mp h with e | h
    · cases e
      simp
    · have : (n == k) = false := by
        rw [beq_eq_false_iff_ne]
        intro q
        exact nd.1 (List.mem_map.mpr ⟨(n, v), h, q⟩)
      rw [this]
      exact nodup_fst_lookup nd.2 h
theorem binds_rev {α : Type} {l : List (Str × α)} {n : Str} {v : α} (nd : (l.map (·.1)).Nodup) (h : (n, v) ∈ l) : l.reverse.lookup n = some v :=
  nodup_fst_lookup (by rw [List.map_reverse]; exact List.pairwise_reverse.mpr (nd.imp fun h => Ne.symm h)) (List.mem_reverse.mpr h)
theorem zip_fst : ∀ {fs : List Str} {us : List Value}, us.length = fs.length → (fs.zip us).map (·.1) = fs
  | [], _, _ => by simp
  | f :: fs, [], h => by cases h
  | f :: fs, u :: us, h => by
    rw [List.zip_cons_cons, List.map_cons, zip_fst (by simpa using h)]
theorem x_init (T : XIni prog K C fI B newId i bmB fs) (nd : (("self" : Str) :: fs).Nodup) {x t0 : Addr} {us : List Value} (hlen : us.length = fs.length) (X : K.In s.heap) (hlim : s.heap.NoLimit) (hG : s.heap.Ns mainGlobals mg) (hmg : mg "super" = none) (hBn : s.heap.Ns builtinsNs mb) (hmb : mb "super" = bootBuiltins "super")
    (hx : s.heap.get? x = some (excO C t0)) (hnx : K.lookup x = none) (hroom : A.depth < recursionLimit)
    (hq : ∀ h2 tk2 dx, IEnd s.heap h2 x C dx fs us → R (.ok (.ret .none)) { s with heap := h2, toks := tk2 }) :
    codeAny (model prog w) A (.call (.ref fI) ⟨.ref x :: us, []⟩) R s := by
  obtain ⟨oc, od, qual, ps, p0, p1, p2, p3, p4, p5, pself, txt, j, sts, scope, doc, pm, an, cda, ct, cc, osl, ccl, cl, cdd, cld, ccs, csl, vs, file, tf, ho, hcd, hcode, hvs, hfile, hline, hcell, hasg, hps, hnc, hco, hgen, hk, hks, hkc, hkl, hbind⟩ := T.fn
  obtain ⟨nm, N, qn, bs, bm, hdct, sn, sub, ab, col, dd, k0, k1, k2, k3, k5, hC, hT⟩ := excInit_of X T.ini
  obtain ⟨cd, hcl, hhd⟩ := any_some T.hd
  have locs : ∀ y ∈ (("self" : Str), Value.ref x) :: fs.zip us, scope.names.lookup y.1 = some .local := fun y hy => by
    rcases List.mem_cons.mp hy with e | hy
    · subst e
      exact (hkl _ List.mem_cons_self).1
    · exact (hkl _ (List.mem_cons_of_mem _ (List.of_mem_zip hy).1)).1
  have ndb : (((("self" : Str), Value.ref x) :: fs.zip us).map (·.1)).Nodup := by
    rw [List.map_cons, zip_fst hlen]
    exact nd
  refine ks_codeAny_call_defAt hroom (X _ _ ho) rfl hlim (codeRec_of X hcd) rfl (hbind s (.ref x) us hlen) hnc locs (fun h0 hns hk0 => ?_) hco hgen hk
  obtain ⟨hh, g, d, tk, os⟩ := s
  -- super().__init__('..')
  show _root_.PySem.wpAt (model prog w) (A.deeper (ksEnv qual scope hh.objs.size fI (.ref cda) cc)) (.func _ (ksEnv qual scope hh.objs.size fI (.ref cda) cc)) (execs _ (ksEnv qual scope hh.objs.size fI (.ref cda) cc)) _ _ _
  have X0 : K.In h0 := X.keeps hk0
  have hx0 := hk0 _ _ hx
  have I0 : InstAt h0 x (excO C t0) C none := ⟨hx0, rfl, rfl, trivial⟩
  have mself : (((("self" : Str), Value.ref x) :: fs.zip us).reverse).lookup ("self" : Str) = some (.ref x) := binds_rev ndb List.mem_cons_self
  refine ks_wpAt_execs_cons (ks_wpAt_Expr_any (at_method hline rfl (ks_wpAt_super_base (env := ksEnv qual scope hh.objs.size fI (.ref cda) cc) hks hkc (by decide) rfl (X0 _ _ ho) rfl rfl rfl (X0 _ _ hcode) rfl hvs hfile T.top ?_)) (by simp [interactive, hk]) (by rfl))
  refine ks_loadName_global hk hks (loadGlobal_builtin (env := ksEnv qual scope hh.objs.size fI (.ref cda) cc) (hG.keeps hk0) hmg (hBn.keeps hk0) (hmb.trans (by first | boot_by_name | rfl | kernel_rfl)) ⟨rfl, ?_⟩)
  refine wpAny_loadName_free hk hkc rfl ⟨_, X0 _ _ hcell, rfl⟩ ?_
  refine wpAny_loadName_local hk (hkl _ List.mem_cons_self).1 hns mself ?_
  have hC0 := hk0 _ _ hC
  refine ks_wpAny_isType_cls hC0 rfl ⟨rfl, ?_⟩
  refine ks_wpAny_call_super hC0 rfl hx0 rfl (fun c e => nomatch e) (looks_mroIn X0 T.sub) fun h1 hso k1' => ?_
  have X1 : K.In h1 := X0.keeps k1'
  have hx1 := k1' _ _ hx0
  have I1 : InstAt h1 x (excO C t0) C none := ⟨hx1, rfl, rfl, trivial⟩
  have hI : Looks (model prog w) h1 (isInstance (.ref x) (.type B)) true := I1.type.andThen (looks_subIn X1 T.hB)
  have hsup := T.sup
  unfold ks_superIn at hsup
  rw [hcl] at hsup
  intro pl
  refine kxs_getMethod T.KF hso (looks_opaque X1 T.opq) (l₀ := cd.mro) (fun A Q E s k q => wpAny_bind ((looks_clsIn X1 hcl) A _ E s k (wpAny_pure q))) rfl X1 hsup hI (ks_ne X1 I1 hcl) (by decide) ?_
  -- the call
  have hmw : (h1.push (kxs_mw i x)).get? h1.objs.size = some (kxs_mw i x) := Heap.get?_push_at rfl rfl
  have kp : ∀ b o, h1.get? b = some o → (h1.push (kxs_mw i x)).get? b = some o := fun b o e => Heap.get?_push_of_some _ e
  refine kxs_callWith (i := i) (x := x) rfl (evalArgs_plain ?_)
  refine PyProof.Rows.args_cons (e := .Constant (.str txt) j p3) (rest := []) (Calls.Constant_str (PyProof.Rows.args_nil ⟨hmw, ?_⟩)) rfl
  have hC1 := kp _ _ (k1' _ _ hC0)
  refine call_mw T.FB hC1 (kp _ _ hx1) hmw (by show 1 ≤ sizeLine; decide) fun h2 t1 k2' hx2 => ?_
  -- the fields
  refine _root_.PySem.wpAt_of_wpAny ?_
  have all : ∀ b o, b ≠ x → hh.get? b = some o → h2.get? b = some o := fun b o hb e => k2' b o hb (kp _ _ (k1' _ _ (hk0 b o e)))
  have X2 : K.In h2 := fun a o e => all a o (fun z => by rw [z, hnx] at e; cases e) (X a o e)
  have xL : hh.objs.size ≠ x := Nat.ne_of_gt (Heap.lt_size hx)
  have hns2 : h2.Ns hh.objs.size (fun y => (((("self" : Str), Value.ref x) :: fs.zip us).reverse).lookup y) := hns.at fun o e => k2' _ o xL (kp _ _ (k1' _ _ e))
  have hms : ∀ p ∈ fs.zip us, (((("self" : Str), Value.ref x) :: fs.zip us).reverse).lookup p.1 = some p.2 := fun p hp => binds_rev ndb (List.mem_cons_of_mem _ hp)
  cases fs with
  | nil => exact (T.ne rfl).elim
  | cons f fs =>
    cases us with
    | nil => cases hlen
    | cons u us =>
      cases hasg with
      | cons hasg =>
        refine wpAny_execs_cons (plainObj_wpAny_Assign_Attribute (ESX.ldL hns2 (hms (f, u) (by simp)) (ESX.ldL hns2 mself ?_ hk (hkl _ List.mem_cons_self).1) hk (hkl f (by simp)).1 (hkl f (by simp)).2) (by rfl))
        refine set_plain X2 (ox := excO C t1) (od := none) ⟨hx2, rfl, rfl, trivial⟩ T.sa ?_
        refine sto_new T.SF T.over X2 hx2 hcl hhd (T.noF f (by simp)) fun h3 tk3 dx k3 big3 ne3 hx3 n3 => ?_
        show wpAny (model prog w) _ (execs _ _) _ _ _
        have h2big : hh.objs.size + 1 ≤ h2.objs.size := by
          obtain ⟨o, es, ep, e, _⟩ := hns2
          exact Heap.lt_size e
        have big3 : h2.objs.size ≤ dx := big3
        have dL : hh.objs.size ≠ dx := by omega
        have X3 : K.In h3 := fun a o e => k3 a o (fun z => by rw [z, hnx] at e; cases e) (X2 a o e)
        have hKd : K.lookup dx = none := by
          cases e : K.lookup dx with
          | none => rfl
          | some o =>
            have := Heap.lt_size (X dx o e)
            have : dx < hh.objs.size := this
            omega
        refine go_fields (env := ksEnv qual scope hh.objs.size fI (.ref cda) cc) (nl := [f]) (m0 := fun y => if y = f then some u else none) (vs := us) T.SF T.over T.sa hcl hhd hk (hkl _ List.mem_cons_self).1 mself (Ne.symm ne3) dL hKd hasg (by simp at hlen; omega) (fun f2 hf2 => ⟨T.noF f2 (by simp [hf2]), hkl f2 (by simp [hf2])⟩) (fun p hp => hms p (by simp [hp]))
          (by have := T.few; simp at this ⊢; omega) (Within.cons f u Within.nil) X3 (hns2.at fun o e => k3 _ o xL e) hx3 n3 fun h4 tk4 k4 n4 => ?_
        refine hq h4 tk4 dx ⟨fun b o hb e => k4 b o (fun z => ?_) (k3 b o hb (all b o hb e)), ⟨t1, k4 _ _ (Ne.symm ne3) hx3⟩, by show hh.objs.size ≤ dx; omega, ne3, n4⟩
        have lb : b < hh.objs.size := Heap.lt_size e
        rw [z] at lb
        exact absurd (Nat.lt_of_lt_of_le lb (Nat.le_trans (Nat.le_of_succ_le h2big) big3)) (Nat.lt_irrefl _)
structure XMade (h h2 : Heap) (e C dx : Addr) (fs : List Str) (vs : List Value) : Prop where
  keep : ∀ b o, h.get? b = some o → h2.get? b = some o
  new : h.objs.size ≤ e
  obj : ∃ t1 : Addr, h2.get? e = some { cls := .ref C, dict := some dx, data := .fields #[.ref t1, .none, .none, .none, .bool false, .none] }
  dbig : h.objs.size ≤ dx
  dne : dx ≠ e
  ns : h2.Ns1 dx (put fs vs fun _ => none)
theorem x_made (T : XIni prog K C fI B newId i bmB fs) (nd : (("self" : Str) :: fs).Nodup) {us : List Value} (hlen : us.length = fs.length) (X : K.In s.heap) (hlim : s.heap.NoLimit) (hG : s.heap.Ns mainGlobals mg) (hmg : mg "super" = none) (hBn : s.heap.Ns builtinsNs mb) (hmb : mb "super" = bootBuiltins "super")
    (hroom : A.depth + 1 < recursionLimit) (hq : ∀ h2 tk2 e dx, XMade s.heap h2 e C dx fs us → R (.ok (.ret (.ref e))) { s with heap := h2, toks := tk2 }) :
    codeAny (model prog w) A (.call (.ref C) ⟨us, []⟩) R s := by
  obtain ⟨nm, N, qn, bs, bm, hdct, sn, sub, ab, col, dd, k0, k1, k2, k3, k5, hC, hT⟩ := excInit_of X T.ini
  obtain ⟨hp, g, dr, tk, os⟩ := s
  have k : ∀ b o, hp.get? b = some o → ((hp.push (kdv_tup us)).push (excO C hp.objs.size)).get? b = some o := fun b o e => Heap.get?_push_of_some _ (Heap.get?_push_of_some _ e)
  have hget : ((hp.push (kdv_tup us)).push (excO C hp.objs.size)).get? (hp.objs.size + 1) = some (excO C hp.objs.size) := by heap_get
  have hnx : K.lookup (hp.objs.size + 1) = none := by
    cases e : K.lookup (hp.objs.size + 1) with
    | none => rfl
    | some o => exact absurd (Nat.lt_of_succ_lt (Heap.lt_size (X _ _ e))) (Nat.lt_irrefl _)
  have hz : us.length ≤ sizeLine := by
    have := T.few
    rw [hlen]
    exact Nat.le_trans this (by decide)
  refine call_own T.FB hT hC (looks_findIn X T.iC) (fun self => bind_fn X self T.tI) hz ?_
  refine x_init (s := ⟨(hp.push (kdv_tup us)).push (excO C hp.objs.size), g, dr, tk, os⟩) T nd hlen (X.keeps k) (hlim.keeps k) (hG.keeps k) hmg (hBn.keeps k) hmb hget hnx hroom fun h2 tk2 dx I => ?_
  have z : hp.objs.size + 1 + 1 ≤ dx := by
    have := I.dbig
    rw [Heap.size_push, Heap.size_push] at this
    exact this
  refine ⟨rfl, hq h2 tk2 (hp.objs.size + 1) dx ⟨fun b o e => I.keep b o (Nat.ne_of_lt (Nat.lt_succ_of_lt (Heap.lt_size e))) (k b o e), Nat.le_succ _, I.obj, Nat.le_trans (Nat.le_trans (Nat.le_succ _) (Nat.le_succ _)) z, I.dne, I.ns⟩⟩
end
end TDX
namespace TD
open PySem L2
theorem put_lookup : ∀ {fs : List Str} {us : List Value} {m : Str → Option Value} {y : Str}, fs.Nodup → TDX.put fs us m y = match (fs.zip us).lookup y with | some v => some v | none => m y
  | [], _, m, y, _ => by simp [TDX.put]
  | f :: fs, [], m, y, _ => by simp [TDX.put]
  | f :: fs, u :: us, m, y, nd => by
    rw [List.nodup_cons] at nd
    unfold TDX.put
    rw [put_lookup nd.2, List.zip_cons_cons, List.lookup_cons]
    by_cases q : y = f
    · subst q
      have h0 : (fs.zip us).lookup y = none := by
        rw [List.lookup_eq_none_iff]
        intro p hp
        have := (List.of_mem_zip hp).1
        simp only [bne_iff_ne, ne_eq]
        intro e
        exact nd.1 (by rw [show y = p.1 by simpa using e]; exact this)
      rw [h0]
      simp
    · have : (y == f) = false := by simpa using q
      rw [this]
      simp only [if_neg q]
theorem relO_zip {y : Str} : ∀ {fs : List Str} {vs : List V} {us : List Value}, Vals vs us → RelO ((fs.zip vs).lookup y) (match (fs.zip us).lookup y with | some v => some v | none => none)
  | [], _, _, _ => by simp [RelO]
  | _ :: _, [], [], .nil => by simp [RelO]
  | f :: fs, v :: vs, u :: us, .cons r t => by
    rw [List.zip_cons_cons, List.zip_cons_cons, List.lookup_cons, List.lookup_cons]
    cases (y == f) with
    | true => exact r
    | false => exact relO_zip t
theorem RepF.zip {G : GG} {F : Hp} : ∀ {fs : List Str} {vs : List V} {ds : List D}, Reps G F vs ds → RepF G F (fs.zip vs) (fs.zip ds)
  | [], _, _, _ => by simp; exact .nil
  | _ :: _, _, _, .nil => .nil
  | _ :: _, _, _, .cons h r => .cons h (RepF.zip r)
section
variable {κ : Kx} {e : Expr} {es : List Expr} {cs : CL} {pos p : Pos} {x : Str} {k : Nat} {fI : Addr} {B newId i : String} {bmB : List Value} {fs : List Str}
theorem jx_call (h : Ok κ) (T : TDX.XIni κ.X.prog κ.X.K (κ.G.cl k) fI B newId i bmB fs) (nd : (("self" : Str) :: fs).Nodup) (hXT : κ.P.XT.fs k = some fs) (hg : Gl κ.X x) (hm : κ.X.mg x = some (.ref (κ.G.cl k))) (hsup : κ.X.mg "super" = none) (ha : JA κ (e :: es) cs)
    (hdb : (x == ("__debug__" : Str)) = false := by decide) (he : starEach (e :: es) κ.X.env = (false, eval e κ.X.env) :: starEach es κ.X.env := by rfl) (hpl : (backTo pos (starEach es κ.X.env)).any (·.1) = false := by rfl) :
    JX κ (.Call (.Name x p) (e :: es) [] pos) fun e => EM.bind (runL κ.P.T κ.P.rp κ.cl cs e) fun vs => EM.bind (toDs vs) fun ds => EM.o (mkX κ.P.XT k ds) := by
  intro pins s σ H Q I t
  refine wpAny_Call_Name_kw (ld_glob I hg hm ?_ hdb)
  refine PySem.W.callWith_K (h₀ := κ.X.base) I.ok.mod.kin T.kp (thn (ha.run pos pins s σ H _ I (tM_bind (R := RepLs κ.G) (S := rX κ.G) (Q := fun vs H1 => ∃ Z F as ds M, RepLs κ.G F as vs ds ∧ Good κ.G Z F as M H1 ∧ Out κ.G Z F as (rX κ.G) (fun b H' => Q b.1 b.2 H') (fun c d H' => κ.W c d σ H') (EM.bind (toDs ds) (fun ds => EM.o (mkX κ.P.XT k ds)) M)) (k := fun vs e => EM.bind (toDs vs) fun ds => EM.o (mkX κ.P.XT k ds)) t fun vs Z F as e M H1 ds re g rs o => ⟨Z, F, as, ds, M, rs, g, o⟩)) fun us s1 ⟨vs, H1, I1, r1, Z, F, as, vls, M, rs, g1, o⟩ => ⟨I1.kIn, ?_⟩) he hpl
  obtain ⟨ds, M1, e1, o1⟩ := o.got fun _ _ => toDs_nx
  obtain ⟨F1, g2, u1, rd⟩ := toDs_ok g1 rs e1
  obtain ⟨xc, ex, q⟩ := Out.o o1
  unfold mkX at ex
  rw [hXT] at ex
  simp only at ex
  split at ex
  case isFalse => cases ex
  rename_i hl
  cases ex
  have hlen : us.length = fs.length := by rw [hl, ← rd.length, r1.length]
  have hlim := I1.nolimit
  obtain ⟨mb, b1, b2⟩ := I1.mod.blt
  have hG := I1.mod.glob.keeps I1.bk
  have hB := b1.keeps I1.bk
  have hK := I1.kIn
  obtain ⟨hp, g, dr, tk, os⟩ := s1
  show wpAny (model κ.X.prog κ.X.w) κ.X.A (call (.ref (κ.G.cl k)) us) _ _ _
  refine wpAny_call (TDX.x_made T nd hlen hK hlim hG hsup hB (b2 _ (by decide)) (by have := h.room.dp; omega) fun h2 tk2 e d Md => ?_)
  show MkP κ.X pins σ Q (.ref e) ⟨h2, g, dr, tk2, os⟩
  obtain ⟨t1, hoe⟩ := Md.obj
  obtain ⟨G', g1', g2'⟩ := restrict h2 fun b => decide (b ≠ e)
  have gk : ∀ b, b ≠ e → G'.get? b = h2.get? b := fun b hb => g1' b (decide_eq_true hb)
  have ge : G'.get? e = none := g2' e (by simp)
  have old : ∀ b o, hp.get? b = some o → G'.get? b = some o := fun b o z => (gk b (Nat.ne_of_lt (Nat.lt_of_lt_of_le (Heap.lt_size z) Md.new))).trans (Md.keep b o z)
  have ob : ObjOk κ.X.prog κ.X.w (upd H1 d (.xd (fs.zip vs))) G' d (.xd (fs.zip vs)) :=
    ⟨_, Md.ns.at (fun o z => (gk d Md.dne).trans z), fun f => by rw [put_lookup (List.nodup_cons.mp nd).2]; exact relO_zip r1⟩
  have J : Inv κ.X pins σ (upd H1 d (.xd (fs.zip vs))) ⟨G', g, dr, tk2, os⟩ := I1.laid (t' := tk2) old Md.dbig ob
  have hd1 : H1 d = none := I1.hok.fresh Md.dbig
  obtain ⟨g3, u3⟩ := g2.lay (o := .xd (fs.zip vs)) hd1
  refine ⟨e, _, _, ⟨G', g, dr, tk2, os⟩, _, .ref (κ.G.cl k), some d, rfl, J, fun b o z => ?_, ge, hoe, ⟨rfl, rfl⟩, rfl, rfl, ?_, rfl, I1.bare, raises_own T.exC T.tyC, q (_, _) _ _ _ (u1.trans u3) g3 ⟨d, _, rfl, upd_same, (RepF.zip rd).mono u3.ex⟩⟩
  · by_cases hb : b = e
    · have z' : G'.get? b = some o := z
      rw [hb, ge] at z'
      cases z'
    · exact (gk b hb).symm.trans z
  · rw [upd_ne (Ne.symm Md.dne)]
    exact I1.hok.fresh Md.new
end
end TD
set_option Elab.async false
set_option linter.all false
set_option maxRecDepth 100000
set_option maxHeartbeats 4000000
/-! TD, part O: a def keeps what its code computes. -/
namespace TD
open PySem L2
section
variable {G : GG} {Z F F' H H' : Hp} {as as' : List Addr} {M M' : Mem} {E : XK} {Q : VK}
theorem take_set {b n : Nat} {x : MO} (h : b ≤ n) : (M.set n x).take b = M.take b := by
  refine List.ext_getElem? fun i => ?_
  rw [List.getElem?_take, List.getElem?_take]
  split
  · rw [List.getElem?_set_ne (by omega)]
  · rfl
theorem freeze_take {b n : Nat} {d : D} (h : b ≤ n) (e : freeze n M = some (.ok d, M')) : M'.take b = M.take b := by
  unfold freeze at e
  split at e
  · cases e; exact take_set h
  · cases e; exact take_set h
  · cases e; rfl
  · split at e
    · cases e; exact take_set h
    · cases e
  · cases e
/-- one live object is kept out of what was made -/
theorem Good.keep1 {b n : Nat} {a : Addr} {mo : MO} (g : Good G Z F as M H) (hb : b ≤ n) (h : okCut b (M.take b) = true) (ha : as[n]? = some a) (hm : M[n]? = some mo) (hk : okCut b [mo] = true) : Good G Z F (as.take b ++ [a]) (M.take b ++ [mo]) H := by
  have gc := g.cut h
  have hbl : b ≤ as.length := Nat.le_of_lt (Nat.lt_of_le_of_lt hb (List.getElem?_eq_some_iff.mp ha).1)
  have hl : (as.take b).length = b := by rw [List.length_take]; omega
  have hlM : (M.take b).length = b := by rw [List.length_take, ← g.len]; omega
  have na : a ∉ as.take b := fun hin => by
    obtain ⟨i, hi⟩ := List.getElem?_of_mem hin
    have hib : i < b := by
      have := (List.getElem?_eq_some_iff.mp hi).1
      rw [hl] at this
      exact this
    rw [List.getElem?_take, if_pos hib] at hi
    have : i = n := (List.getElem?_inj (List.getElem?_eq_some_iff.mp hi).1 g.nd).mp (hi.trans ha.symm)
    omega
  have pre : as.take b <+: as.take b ++ [a] := List.prefix_append _ _
  refine ⟨g.sub, by simp [hl, hlM], ?_, fun i c m1 e1 e2 => ?_, g.zh, g.zf, fun c o hz hin => ?_⟩
  · rw [List.nodup_append]
    refine ⟨gc.nd, by simp, fun x hx y hy => ?_⟩
    rw [List.mem_singleton] at hy
    subst hy
    intro e
    subst e
    exact na hx
  · by_cases hib : i < b
    · rw [List.getElem?_append_left (by rw [hl]; exact hib)] at e1
      rw [List.getElem?_append_left (by rw [hlM]; exact hib)] at e2
      have := gc.ok i c m1 e1 e2
      cases m1 with
      | ins k fs => obtain ⟨f, dx, vs, h1, r⟩ := this; exact ⟨f, dx, vs, h1, r.mono ⟨Evl.Ex.refl _, pre⟩⟩
      | lst _ => exact this
      | dic _ => exact this
      | frz _ => exact this
      | scr _ => exact this
    · have hi : i = b := by
        have := (List.getElem?_eq_some_iff.mp e1).1
        rw [List.length_append, hl] at this
        simp at this
        omega
      subst hi
      rw [List.getElem?_append_right (by rw [hl]; exact Nat.le_refl _), hl] at e1
      rw [List.getElem?_append_right (by rw [hlM]; exact Nat.le_refl _), hlM] at e2
      simp at e1 e2
      subst e1
      subst e2
      have := g.ok n a mo ha hm
      cases mo with
      | ins k fs =>
        obtain ⟨f, dx, vs, h1, r⟩ := this
        have hfs : (fs.all fun f => noLoc i f.2) = true := by
          unfold okCut at hk
          exact (Bool.and_eq_true_iff.mp hk).1
        exact ⟨f, dx, vs, h1, (r.cut hfs).mono ⟨Evl.Ex.refl _, pre⟩⟩
      | lst _ => exact this
      | dic _ => exact this
      | frz _ => exact this
      | scr _ => exact this
  · rcases List.mem_append.mp hin with hin | hin
    · exact gc.za c o hz hin
    · rw [List.mem_singleton] at hin
      subst hin
      exact g.za c o hz (List.mem_of_getElem? ha)
theorem fin_ok {b mode : Nat} {v : Vl} {x : V} (hb : as.length = b) (o : Out G Z F as (RepL G) Q E (fin b mode v M)) (u : Up F as F' as') (g : Good G Z F' as' M H) (r : RepL G F' as' x v) : Q x H := by
  have hpre : as'.take b = as := pre_take u.pre hb
  unfold fin at o
  by_cases h2 : mode = 2
  · rw [if_pos h2] at o
    exact o x F' as' H u g r
  · rw [if_neg h2] at o
    by_cases hc : okCut b (M.take b) = true
    · rw [if_pos hc] at o
      have gc := g.cut hc
      rw [hpre] at gc
      have uc : Up F as F' as := ⟨u.ex, List.prefix_refl _⟩
      cases v with
      | d y => exact o x F' as H uc gc r
      | loc n =>
        obtain ⟨a, ha, rfl⟩ := r
        simp only at o
        by_cases hn : n < b
        · rw [if_pos hn] at o
          refine o _ F' as H uc gc ⟨a, ?_, rfl⟩
          rw [← hpre]
          exact take_get hn ha
        · rw [if_neg hn] at o
          by_cases h1 : mode = 1
          · rw [if_pos h1] at o
            cases q : M[n]? with
            | none => rw [q] at o; exact o.elim
            | some mo =>
              rw [q] at o
              simp only at o
              by_cases hk : okCut b [mo] = true
              · rw [if_pos hk] at o
                have gk := g.keep1 (by omega) hc ha q hk
                rw [hpre] at gk
                refine o _ F' (as ++ [a]) H ⟨u.ex, List.prefix_append _ _⟩ gk ⟨a, ?_, rfl⟩
                rw [← hb, List.getElem?_append_right (Nat.le_refl _)]
                simp
              · rw [if_neg hk] at o
                exact o.elim
          · rw [if_neg h1] at o
            cases q : freeze n M with
            | none => rw [q] at o; exact o.elim
            | some p =>
              obtain ⟨p, M2⟩ := p
              rw [q] at o
              cases p with
              | ex y => exact o.elim
              | ok d =>
                simp only at o
                obtain ⟨F2, g2, u2, r2⟩ := freeze_ok g ha q
                have ht := freeze_take (b := b) (by omega) q
                have gc2 := g2.cut (b := b) (by rw [ht]; exact hc)
                rw [hpre] at gc2
                exact o _ F2 as H ⟨u.ex.trans u2.ex, List.prefix_refl _⟩ gc2 r2
    · rw [if_neg hc] at o
      exact o.elim
end
/-- where a def's body stands -/
abbrev kxOf (P : Program) (w : World) (K : PySem.W.Frag) (mg : Str → Option Value) (base : Heap) (N : List Str) (qual : Str) (scope : Scope) (f : Addr) (cdv : Value) (A : Around) (outer : List PySem.Env) (s : Shared) (H : Hp) (E : XK) (G : GG) (Pg : Prg) (n : Nat) : Kx :=
  { X := cxOf (L2.CX P w) P w K mg base N qual scope f cdv A outer s H E, W := fun c d _ H' => E c d H', G := G, P := Pg, n := n, hx := none }
/-- what is fixed for the whole law -/
structure Law0 (P : Program) (w : World) (K : PySem.W.Frag) (mg : Str → Option Value) (base : Heap) (G : GG) (Pg : Prg) : Prop where
  k : K = G.K
  fld : ∀ c f, Pg.T.fld c f = true → Cls K (G.cl c) ∧ NoAttr K (G.cl c) f
  met : ∀ c m f, Pg.T.met c m = some f → Cls K (G.cl c) ∧ Meth K (G.cl c) m (G.fa f)
  cls : ∀ c C, Pg.cd c = some C → Mk K (G.cl c) (G.fa C.init)
section
variable {P : Program} {w : World} {K : PySem.W.Frag} {mg : Str → Option Value} {base : Heap} {G : GG} {Pg : Prg} {k f : Nat} {name qual : Str} {params : Arguments} {body : List Stmt} {scope : Scope} {dV kV doc pm cdv ct oc : Value} {an od : Option Addr} {osl : Array (Option Value)} {N ps : List Str} {Fd : Fn}
theorem ok_of {A : Around} {outer : List PySem.Env} {s : Shared} {H : Hp} {E : XK} (L : Law0 P w K mg base G Pg) (S : FnScope N ps scope) (hr : Room k (A.deeper (PyProof.Rows.envOfC qual scope s.heap.objs.size (G.fa f) cdv))) (hg : A.guards = some []) (ih : ∀ j, j ≤ k → ∀ f, FnG P w K mg base j (G.fa f) (spF G Pg j f)) :
    Ok (kxOf P w K mg base N qual scope (G.fa f) cdv A outer s H E G Pg k) where
  k := L.k
  u := hr.units
  gd := hg
  fld := L.fld
  calm := rfl
  room := hr
  tk := takes_of rfl rfl rfl rfl
  po := passes_of rfl
  nd := S.nd
  fn := ih
  met := L.met
  cls := L.cls
theorem envR_start {F : Hp} {as : List Addr} {vs : List V} {ws : List Vl} (r : RepLs G F as vs ws) {ns : Nat} (hN : N.length = vs.length + ns) : EnvR G none F as (L2.start N vs) ⟨ws.map some ++ List.replicate ns none, none⟩ := by
  have hl := r.length
  refine ⟨by simp [L2.start, hl, hN], fun i v h => ?_, fun x h => by cases h⟩
  have h : (ws.map some ++ List.replicate ns none)[i]? = some (some v) := h
  by_cases hi : i < ws.length
  · rw [List.getElem?_append_left (by simpa using hi), List.getElem?_map] at h
    obtain ⟨v', hv, ev⟩ := Option.map_eq_some_iff.mp h
    cases ev
    have : ∀ {vs : List V} {ws : List Vl} {i : Nat} {v : Vl}, RepLs G F as vs ws → ws[i]? = some v → ∃ x, vs[i]? = some x ∧ RepL G F as x v := by
      intro vs ws i v r
      induction r generalizing i with
      | nil => intro e; simp at e
      | cons h t ih =>
        intro e
        cases i with
        | zero => simp at e; subst e; exact ⟨_, rfl, h⟩
        | succ i => exact ih (by simpa using e)
    obtain ⟨x, hx, rx⟩ := this r hv
    refine ⟨x, ?_, rx⟩
    unfold L2.start
    rw [List.getElem?_append_left (by rw [List.length_map, hl]; exact hi), List.getElem?_map, hx]
    rfl
  · rw [List.getElem?_append_right (by simpa using hi)] at h
    rw [List.getElem?_replicate] at h
    split at h <;> cases h
theorem body_ok {A : Around} {outer : List PySem.Env} {s : Shared} {H : Hp} {vs : List V} {Q : VK} {E : XK} {Z F0 : Hp} {as0 : List Addr} {F : Hp} {ws : List Vl} {M0 : Mem} {b : Nat} (u0 : Up F0 as0 F as0) (hb : as0.length = b) (r : RepLs G F as0 vs ws) (g : Good G Z F as0 M0 H) (hN : N.length = vs.length + Fd.ns)
    (hbody : JSs (kxOf P w K mg base N qual scope (G.fa f) cdv A outer s H E G Pg k) body Fd.body)
    (o : Out G Z F0 as0 (RepL G) Q E (endF b Fd.mode (runSs Pg.T Pg.rp Pg.XT (callN Pg k) Fd.body ⟨ws.map some ++ List.replicate Fd.ns none, none⟩ M0))) :
    ∃ t, PSs (cxOf (L2.CX P w) P w K mg base N qual scope (G.fa f) cdv A outer s H E) body t ∧ t { nx := fun _ H' => Q .non H', rt := Q } (L2.start N vs) H := by
  refine ⟨_, hbody, Z, F, as0, _, M0, envR_start r hN, g, ?_⟩
  have o := Out.up u0 o
  show OutS G none (fun c d _ H' => E c d H') Z F as0 _ (runSs Pg.T Pg.rp Pg.XT (callN Pg k) Fd.body ⟨ws.map some ++ List.replicate Fd.ns none, none⟩ M0)
  cases q : runSs Pg.T Pg.rp Pg.XT (callN Pg k) Fd.body ⟨ws.map some ++ List.replicate Fd.ns none, none⟩ M0 with
  | none => rw [q] at o; exact o
  | some p =>
    obtain ⟨p, M1⟩ := p
    rw [q] at o
    cases p with
    | next e => exact fun σ F' as' H' u re g1 => fin_ok (v := .d .non) hb o u g1 .non
    | ret v => exact fun x F' as' H' u g1 r1 => fin_ok hb o u g1 r1
    | brk e => exact o.elim
    | cnt e => exact o.elim
    | ex x e =>
      intro dd fs σ F' as' H' u re g1 h1 h2
      unfold endF at o
      by_cases hc : okCut b (M1.take b) = true
      · simp only [hc, if_true] at o
        have gc := g1.cut hc
        rw [pre_take u.pre hb] at gc
        exact o dd fs F' as0 H' ⟨u.ex, List.prefix_refl _⟩ gc h1 h2
      · simp only [hc] at o
        exact o.elim
/-- def f(a, ..) -/
theorem fnG_plain (L : Law0 P w K mg base G Pg) (hP : Pg.fn f = some Fd) (lk : K.lookup (G.fa f) = some ⟨oc, od, .func (PySem.W.fnOf name qual params body scope dV kV doc pm an cdv ct), osl⟩) (hcd : PySem.W.codeIn K cdv qual = true) (S : FnScope N ps scope)
    (hb : ∀ us : List Value, us.length = ps.length → bindArgs (PySem.W.fnOf name qual params body scope dV kV doc pm an cdv ct) ⟨us, []⟩ = pure (ps.zip us)) (hst : Fd.star = false) (hnp : ps.length = Fd.np) (hN : N.length = ps.length + Fd.ns)
    (ih : ∀ j, j ≤ k → ∀ f, FnG P w K mg base j (G.fa f) (spF G Pg j f))
    (hbody : ∀ (A : Around) (outer : List PySem.Env) (s : Shared) (H : Hp) (E : XK), Ok (kxOf P w K mg base N qual scope (G.fa f) cdv A outer s H E G Pg k) → JSs (kxOf P w K mg base N qual scope (G.fa f) cdv A outer s H E G Pg k) body Fd.body) :
    FnG P w K mg base (k + 1) (G.fa f) (spF G Pg (k + 1) f) := by
  intro A outer s H us vs Q E hr hg e0 r hsp
  obtain ⟨Z, F, as, ds, M, rs, g, o⟩ := hsp
  unfold callN at o
  rw [hP] at o
  simp only at o
  unfold bindF at o
  rw [hst] at o
  simp only [Bool.false_eq_true, if_false] at o
  by_cases hl : ds.length = Fd.np
  · rw [if_pos hl] at o
    have hlv : vs.length = ps.length := by rw [rs.length, hl, hnp]
    refine StX.run_bnd lk hcd S hr e0 (G := fun xs H2 => xs = vs ∧ H2 = H) (fun A' Ex Q' h => ?_) fun s2 H2 xs ⟨ex, eH⟩ hr' => ?_
    · rw [hb us (by rw [← r.length, hlv])]
      exact wpAny_pure (h s H vs us e0 Un.refl rfl (fun _ _ z => z) r hlv ⟨rfl, rfl⟩)
    · subst ex eH
      exact body_ok Up.refl g.len rs g (by rw [hN, hlv]) (hbody A outer s2 H2 E (ok_of L S hr' hg ih)) o
  · rw [if_neg hl] at o
    exact o.elim
end
end TD
set_option Elab.async false
set_option linter.all false
set_option maxRecDepth 100000
set_option maxHeartbeats 4000000
/-! TD, part P: own + ; defs with a star parameter; the induction. -/
namespace TD
open PySem L2
section
open PySem.W PySem.Calls PyProof.Rows
variable {prog : Program} {w : World} {A : Around} {E : Value → Shared → Prop} {s : Shared} {K : Frag} {x C f : Addr} {ox : Obj} {od : Option Obj} {b tb : Value} {Q : Value → Shared → Prop} {rc : Option Value}
/-- x + b by x's __add__ -/
theorem own_add (X : K.In s.heap) (I : InstAt s.heap x ox C od) (Lb : Looks (model prog w) s.heap (typeOf b) tb) (hc : selfFirst K C = true) (hs : findIn K (.ref C) "__add__" = some (some (.ref f))) (hf : isFn K (.ref f) = true) (hr : findIn K (.ref C) "__radd__" = some rc) (hp : rc = none ∨ ∃ g : Addr, rc = some (.ref g))
    (hT : tb = .ref C ∨ ∃ T fo ro, tb = .type T ∧ findIn K (.type T) "__add__" = some fo ∧ findIn K (.type T) "__radd__" = some ro ∧ subIn K (.type T) (.ref C) = some false)
    (h : wpAny (model prog w) A (call (.ref f) [.ref x, b]) (PySem.W.CmpBack Q) E s) : wpAny (model prog w) A (binaryOp .Add (.ref x) b) Q E s := by
  obtain ⟨cd, rest, hcd, hm⟩ := ksp_first hc
  have one := ksp_try X I hs hf h
  obtain ⟨hh, g, d, tt, os⟩ := s
  have L1 : Looks (model prog w) hh (typeOf (.ref x)) (.ref C) := I.type
  have L2 : Looks (model prog w) hh (typeOf b) tb := Lb
  have L3 : Looks (model prog w) hh (fillsNumberSlot (.ref C) "add") true := fills_K X hcd hm hs
  have L6 : Looks (model prog w) hh (numberSlotInPython (.ref C) "add") true := ksp_inPy X hs hr hp
  simp only [binaryOp, show Operator.info .Add = ("+", "add") from rfl]
  refine wpAny_holding (wpAny_bind ?_)
  unfold binaryOp1
  refine wpAny_bind (L1.at (wpAny_bind (L2.at (wpAny_bind (L3.at ?_)))))
  rcases hT with rfl | ⟨T, fo, ro, rfl, h1, h2, hsub⟩
  · simp only [beq_self_eq_true, if_true]
    ksp_lk
    refine wpAny_mono one (fun r s' hr' => ?_) fun _ _ e => e
    obtain ⟨v, rfl, hq⟩ := hr'
    ksp_lk
    exact hq
  · have L4 : Looks (model prog w) hh (fillsNumberSlot (.type T) "add") ((fo.isSome && !isSeqSlot fo) || (ro.isSome && !isSeqSlot ro)) := ksp_fillsT X h1 h2
    have L5 : Looks (model prog w) hh (isSubtype (.type T) (.ref C)) false := looks_subIn X hsub
    have L7 : Looks (model prog w) hh (numberSlotInPython (.type T) "add") false := Looks.of_pure rfl
    have L8 : Looks (model prog w) hh (typeLookup (.type T) (dunderR "add")) ro := looks_findIn X h2
    generalize ((fo.isSome && !isSeqSlot fo) || (ro.isSome && !isSeqSlot ro)) = right at L4
    have hne : (Value.ref C == Value.type T) = false := Bool.eq_false_iff.mpr fun q => by cases beq_iff_eq.mp q
    simp only [hne, Bool.false_eq_true, if_false]
    cases right with
    | false =>
      ksp_lk
      refine wpAny_mono one (fun r s' hr' => ?_) fun _ _ e => e
      obtain ⟨v, rfl, hq⟩ := hr'
      ksp_lk
      exact hq
    | true =>
      ksp_lk
      refine wpAny_mono one (fun r s' hr' => ?_) fun _ _ e => e
      obtain ⟨v, rfl, hq⟩ := hr'
      ksp_lk
      exact hq
/-- a + x by x's __radd__, a a tuple -/
theorem own_radd {fo ro : Option Value} (X : K.In s.heap) (I : InstAt s.heap x ox C od) (La : Looks (model prog w) s.heap (typeOf b) (.type "tuple")) (hc : selfFirst K C = true) (hs0 : findIn K (.ref C) "__add__" = some (some (.ref f))) {f2 : Addr} (hs : findIn K (.ref C) "__radd__" = some (some (.ref f2))) (hf : isFn K (.ref f2) = true)
    (h1 : findIn K (.type "tuple") "__add__" = some fo) (h2 : findIn K (.type "tuple") "__radd__" = some ro) (hno : ((fo.isSome && !isSeqSlot fo) || (ro.isSome && !isSeqSlot ro)) = false)
    (h : wpAny (model prog w) A (call (.ref f2) [.ref x, b]) (PySem.W.CmpBack Q) E s) : wpAny (model prog w) A (binaryOp .Add b (.ref x)) Q E s := by
  obtain ⟨cd, rest, hcd, hm⟩ := ksp_first hc
  have one := ksp_try X I hs hf h
  obtain ⟨hh, g, d, tt, os⟩ := s
  have L1 : Looks (model prog w) hh (typeOf (.ref x)) (.ref C) := I.type
  have L2 : Looks (model prog w) hh (typeOf b) (.type "tuple") := La
  have L3 : Looks (model prog w) hh (fillsNumberSlot (.ref C) "add") true := fills_K X hcd hm hs0
  have L4 : Looks (model prog w) hh (fillsNumberSlot (.type "tuple") "add") ((fo.isSome && !isSeqSlot fo) || (ro.isSome && !isSeqSlot ro)) := ksp_fillsT X h1 h2
  rw [hno] at L4
  have hne : (Value.type "tuple" == Value.ref C) = false := Bool.eq_false_iff.mpr fun q => by cases beq_iff_eq.mp q
  simp only [binaryOp, show Operator.info .Add = ("+", "add") from rfl]
  refine wpAny_holding (wpAny_bind ?_)
  unfold binaryOp1
  refine wpAny_bind (L2.at (wpAny_bind (L1.at (wpAny_bind (L4.at ?_)))))
  simp only [hne, Bool.false_eq_true, if_false]
  ksp_lk
  refine wpAny_mono one (fun r s' hr' => ?_) fun _ _ e => e
  obtain ⟨v, rfl, hq⟩ := hr'
  ksp_lk
  exact hq
end
/-- what is known of the classes with an own + -/
structure OkB (κ : Kx) : Prop where
  add : ∀ c f, κ.P.T.met c "__add__" = some f → PySem.W.selfFirst κ.X.K (κ.G.cl c) = true ∧ (∃ rc, PySem.W.findIn κ.X.K (.ref (κ.G.cl c)) "__radd__" = some rc ∧ (rc = none ∨ ∃ g : Addr, rc = some (.ref g))) ∧
    ∀ d, (∀ c fs, d ≠ .obj c fs) → ∃ T fo ro, tyD κ.G d = .type T ∧ PySem.W.findIn κ.X.K (.type T) "__add__" = some fo ∧ PySem.W.findIn κ.X.K (.type T) "__radd__" = some ro ∧ PySem.W.subIn κ.X.K (.type T) (.ref (κ.G.cl c)) = some false
  radd : ∀ c f, κ.P.T.met c "__radd__" = some f → PySem.W.selfFirst κ.X.K (κ.G.cl c) = true ∧ (∃ g : Addr, PySem.W.findIn κ.X.K (.ref (κ.G.cl c)) "__add__" = some (some (.ref g))) ∧
    ∃ fo ro, PySem.W.findIn κ.X.K (.type "tuple") "__add__" = some fo ∧ PySem.W.findIn κ.X.K (.type "tuple") "__radd__" = some ro ∧ ((fo.isSome && !isSeqSlot fo) || (ro.isSome && !isSeqSlot ro)) = false
theorem cmpBack_of {X : Cx} {pins : List (Addr × Obj)} {σ : L2.St} {Q : VK} {u : Value} {s : Shared} (h : EP X pins σ Q u s) : PySem.W.CmpBack (EP X pins σ Q) u s := by
  have h' := h
  obtain ⟨v, H, I, r, q⟩ := h
  unfold PySem.W.CmpBack
  split
  · cases v <;> first | (obtain ⟨_, r⟩ := r; cases r) | cases r
  · exact h'
section
variable {κ : Kx} {a b : Expr} {ca cb : CE} {pos : Pos}
theorem met_ok2 {m : Str} {Z F H1 : Hp} {as : List Addr} {M : Mem} {y : V} {v : Vl} {g : Nat} (h : Ok κ) (gd : Good κ.G Z F as M H1) (r : RepL κ.G F as y v) (e : metOf κ.P.T m v M = some g) :
    ∃ c a dx fs, y = .ref a ∧ H1 a = some (.ins (κ.G.cl c) dx fs) ∧ κ.P.T.met c m = some g ∧ Cls κ.X.K (κ.G.cl c) ∧ Meth κ.X.K (κ.G.cl c) m (κ.G.fa g) ∧ ∀ d, shape v M = some d → ∃ fs, d = .obj c fs := by
  unfold metOf at e
  split at e
  · rename_i c hl
    obtain ⟨a, dx, fs, rfl, h1, h2, _⟩ := look_ok gd r hl
    refine ⟨c, a, dx, fs, rfl, h1, e, (h.met c m g e).1, (h.met c m g e).2, fun d hd => ?_⟩
    unfold look at hl
    unfold shape at hd
    cases v with
    | d z =>
      cases z with
      | obj k f9 => obtain ⟨rfl, _⟩ := Prod.mk.inj (Option.some.inj hl); cases hd; exact ⟨_, rfl⟩
      | _ => cases hl
    | loc n =>
      simp only at hl hd
      cases q : M[n]? with
      | none => rw [q] at hl; cases hl
      | some mo =>
        rw [q] at hl hd
        cases mo with
        | ins k f9 => obtain ⟨rfl, _⟩ := Prod.mk.inj (Option.some.inj hl); cases hd; exact ⟨_, rfl⟩
        | frz z =>
          cases z with
          | obj k f9 => obtain ⟨rfl, _⟩ := Prod.mk.inj (Option.some.inj hl); cases hd; exact ⟨_, rfl⟩
          | _ => cases hl
        | _ => cases hl
  · cases e
/-- a + b, one of them an object with an own + -/
theorem je_obin (h : Ok κ) (hi : OkI κ) (hB : OkB κ) (ha : JE κ a ca) (hb : JE κ b cb) : JE κ (.BinOp a .Add b pos) (.obin ca cb) := by
  refine ⟨fun pins s σ H Q I t => ?_⟩
  refine wpAny_BinOp (bin ha hb I (R := fun x y H2 => ∃ Z F as va vb M, Good κ.G Z F as M H2 ∧ RepL κ.G F as x va ∧ RepL κ.G F as y vb ∧ Out κ.G Z F as (RepL κ.G) Q (fun c d H' => κ.W c d σ H') (obinV κ.P.T κ.cl va vb M)) (tM_bind (R := RepL κ.G) (S := RepL κ.G) (k := fun x e => EM.bind (runE κ.P.T κ.P.rp κ.cl cb e) fun y => obinV κ.P.T κ.cl x y) t fun x Z F as e M H1 va re g ra o => ⟨Z, F, as, e, M, re, g, o.bind fun y F2 as2 H2 vb M2 _ u2 g2 rb o2 => ⟨Z, F2, as2, va, vb, M2, g2, ra.mono u2, rb, o2⟩⟩) fun v u s2 x y H2 I2 rx ry q => ?_)
  obtain ⟨Z, F, as, va, vb, M, g, ra, rb, o⟩ := q
  unfold obinV at o
  cases q1 : metOf κ.P.T "__add__" va M with
  | some f =>
    rw [q1] at o
    simp only at o
    obtain ⟨c, p, dx, fs, rfl, hp, hm, hcl, hme, hsh⟩ := met_ok2 h g ra q1
    obtain ⟨b1, ⟨rc, b2, b3⟩, b4⟩ := hB.add c f hm
    obtain rfl : v = Value.ref p := rx
    obtain ⟨mA, O, _⟩ := ins_get I2.hok hp
    obtain ⟨od, J, _⟩ := O.look
    have go : (κ.P.T.isb c c = true) → (∀ d, shape vb M = some d → (∃ fs, d = .obj c fs) ∨ ∀ c fs, d ≠ .obj c fs) → (∃ d, shape vb M = some d) → Out κ.G Z F as (RepL κ.G) Q (fun c d H' => κ.W c d σ H') (callN κ.P κ.n (.fn f) [va, vb] M) → wpAny (model κ.X.prog κ.X.w) κ.X.A (binaryOp .Add (.ref p) u) (EP κ.X pins σ Q) κ.X.xe s2 := by
      intro hcc hall ⟨d, hd⟩ o
      have ht : TyX κ.X.K H2 y (tyD κ.G d) := shape_ok h.toOk1.toOk0 hi g rb hd fun c' fs' e => by
        rcases hall d hd with ⟨fs2, e2⟩ | hno
        · rw [e2] at e
          cases e
          exact hcc
        · exact (hno c' fs' e).elim
      obtain ⟨Pp, kx, hP, _⟩ := kit_of I2 ry ht
      refine own_add (tb := tyD κ.G d) I2.kIn J (kx.ty _ _ I2.kIn hP) b1 hme.at_ hme.fn b2 b3 ?_ (thn (run_at h (Nat.le_refl _) I2 (us := [.ref p, u]) (vs := [.ref p, y]) (.cons rfl (.cons ry .nil)) ⟨Z, F, as, [va, vb], M, .cons ra (.cons rb .nil), g, o⟩) fun w s3 hw => cmpBack_of hw)
      rcases hall d hd with ⟨fs2, e2⟩ | hno
      · exact .inl (by rw [e2]; rfl)
      · exact .inr (b4 d hno)
    cases q2 : shape vb M with
    | none => simp only [q2] at o; exact o.elim
    | some d =>
      rw [q2] at o
      cases q3 : shape va M with
      | none => rw [q3] at o; cases d <;> exact o.elim
      | some d3 =>
        obtain ⟨fs3, rfl⟩ := hsh d3 q3
        rw [q3] at o
        cases d with
        | obj c2 fs2 =>
          simp only at o
          split at o
          · rename_i hc
            obtain ⟨hc1, hc2⟩ := Bool.and_eq_true_iff.mp hc
            have hc1 := of_decide_eq_true hc1
            subst hc1
            exact go hc2 (fun d hd => by rw [q2] at hd; cases hd; exact .inl ⟨_, rfl⟩) ⟨_, q2⟩ o
          · exact o.elim
        | _ =>
          simp only at o
          split at o
          · rename_i hc
            exact go hc (fun d hd => by rw [q2] at hd; cases hd; exact .inr fun _ _ e => by cases e) ⟨_, q2⟩ o
          · exact o.elim
  | none =>
    rw [q1] at o
    simp only at o
    cases q2 : metOf κ.P.T "__radd__" vb M with
    | none => rw [q2] at o; exact o.elim
    | some f =>
      rw [q2] at o
      cases va with
      | loc n => exact o.elim
      | d da =>
        cases da with
        | tup xs =>
          simp only at o
          obtain ⟨c, p, dx, fs, rfl, hp, hm, hcl, hme, _⟩ := met_ok2 h g rb q2
          obtain ⟨b1, ⟨g0, b2⟩, fo, ro, b3, b4, b5⟩ := hB.radd c f hm
          obtain rfl : u = Value.ref p := ry
          obtain ⟨mA, O, _⟩ := ins_get I2.hok hp
          obtain ⟨od, J, _⟩ := O.look
          have ht : TyX κ.X.K H2 x (tyD κ.G (.tup xs)) := ShW.ty h.k g.sub (Sh.of g.sub ra).wide fun _ _ e => by cases e
          obtain ⟨Pp, kx, hP, _⟩ := kit_of I2 rx ht
          exact own_radd I2.kIn J (kx.ty _ _ I2.kIn hP) b1 b2 hme.at_ hme.fn b3 b4 b5 (thn (run_at h (Nat.le_refl _) I2 (us := [.ref p, v]) (vs := [.ref p, x]) (.cons rfl (.cons rx .nil)) ⟨Z, F, as, [vb, .d (.tup xs)], M, .cons rb (.cons ra .nil), g, o⟩) fun w s3 hw => cmpBack_of hw)
        | _ => exact o.elim
end
/-! ### star parameters -/
theorem RepLs.take {G : GG} {F : Hp} {as : List Addr} : ∀ {vs : List V} {ds : List Vl} (n : Nat), RepLs G F as vs ds → RepLs G F as (vs.take n) (ds.take n)
  | _, _, 0, _ => by simp; exact .nil
  | _, _, _ + 1, .nil => .nil
  | _, _, n + 1, .cons h r => .cons h (RepLs.take n r)
theorem RepLs.drop {G : GG} {F : Hp} {as : List Addr} : ∀ {vs : List V} {ds : List Vl} (n : Nat), RepLs G F as vs ds → RepLs G F as (vs.drop n) (ds.drop n)
  | _, _, 0, r => r
  | _, _, _ + 1, .nil => .nil
  | _, _, n + 1, .cons _ r => RepLs.drop n r
section
variable {P : Program} {w : World} {K : PySem.W.Frag} {mg : Str → Option Value} {base : Heap} {G : GG} {Pg : Prg} {k f : Nat} {name qual pv : Str} {params : Arguments} {body : List Stmt} {scope : Scope} {dV kV doc pm cdv ct oc : Value} {an od : Option Addr} {osl : Array (Option Value)} {N ps : List Str} {Fd : Fn}
/-- def f(a, .., *v) -/
theorem fnG_star (L : Law0 P w K mg base G Pg) (hP : Pg.fn f = some Fd) (lk : K.lookup (G.fa f) = some ⟨oc, od, .func (PySem.W.fnOf name qual params body scope dV kV doc pm an cdv ct), osl⟩) (hcd : PySem.W.codeIn K cdv qual = true) (S : FnScope N (ps ++ [pv]) scope)
    (hb : ∀ us rest : List Value, us.length = ps.length → bindArgs (PySem.W.fnOf name qual params body scope dV kV doc pm an cdv ct) ⟨us ++ rest, []⟩ = (newTuple rest >>= fun t => pure (ps.zip us ++ [(pv, t)]))) (hst : Fd.star = true) (hnp : ps.length = Fd.np) (hN : N.length = ps.length + 1 + Fd.ns)
    (ih : ∀ j, j ≤ k → ∀ f, FnG P w K mg base j (G.fa f) (spF G Pg j f))
    (hbody : ∀ (A : Around) (outer : List PySem.Env) (s : Shared) (H : Hp) (E : XK), Ok (kxOf P w K mg base N qual scope (G.fa f) cdv A outer s H E G Pg k) → JSs (kxOf P w K mg base N qual scope (G.fa f) cdv A outer s H E G Pg k) body Fd.body) :
    FnG P w K mg base (k + 1) (G.fa f) (spF G Pg (k + 1) f) := by
  intro A outer s H us vs Q E hr hg e0 r hsp
  obtain ⟨Z, F, as, ds, M, rs, g, o⟩ := hsp
  unfold callN at o
  rw [hP] at o
  simp only at o
  unfold bindF at o
  rw [hst] at o
  simp only [if_true] at o
  by_cases hl : Fd.np ≤ ds.length
  · rw [if_pos hl] at o
    unfold EM.bind at o
    cases q : toDs (ds.drop Fd.np) M with
    | none => rw [q] at o; exact o.elim
    | some p =>
      obtain ⟨p, M0⟩ := p
      rw [q] at o
      cases p with
      | ex x => exact o.elim
      | ok es =>
        simp only at o
        by_cases hz : szOk es.length = true
        · rw [if_pos hz] at o
          have o : Out G Z F as (RepL G) Q E (endF M.length Fd.mode (runSs Pg.T Pg.rp Pg.XT (callN Pg k) Fd.body ⟨(ds.take Fd.np ++ [Vl.d (.tup es)]).map some ++ List.replicate Fd.ns none, none⟩ M0)) := o
          have hlv : (vs.take Fd.np).length = ps.length := by rw [List.length_take, rs.length, hnp]; omega
          obtain ⟨F1, g1, u1, r1⟩ := toDs_ok g (rs.drop Fd.np) q
          have rv : Vals (vs.take Fd.np ++ vs.drop Fd.np) us := by rw [List.take_append_drop]; exact r
          obtain ⟨us1, us2, eu, rv1, rv2⟩ := StX.vals_split rv
          subst eu
          have hn : H s.heap.objs.size = none := e0.hok.fresh (Nat.le_refl _)
          have hl1 : us1.length = ps.length := by rw [← rv1.length]; exact hlv
          have hzs : (vs.drop Fd.np).length ≤ sizeLine := by rw [r1.length]; exact szOk_le hz
          have hl2 : us2.length ≤ sizeLine := by rw [← rv2.length]; exact hzs
          refine StX.run_bnd lk hcd S hr e0 (G := fun xs H2 => ∃ p, H p = none ∧ xs = vs.take Fd.np ++ [V.ref p] ∧ H2 = upd H p (.tup (vs.drop Fd.np))) (fun A' Ex Q' hq => ?_) fun s2 H2 xs ⟨p, hp, ex, eH⟩ hr' => ?_
          · rw [hb us1 us2 hl1]
            refine wpAny_bind (wpAny_newTuple (wpAny_pure ?_) hl2)
            have new : ObjOk P w (upd H s.heap.objs.size (.tup (vs.drop Fd.np))) (s.heap.push ({ cls := .type "tuple", data := .seq us2.toArray } : Obj)) s.heap.objs.size (.tup (vs.drop Fd.np)) := ⟨hzs, us2, rv2, ⟨_, Heap.get?_push_size _ rfl, rfl, _, rfl⟩⟩
            have un := StX.un_laid (fs := frs outer) (s := s) (o := ({ cls := .type "tuple", data := .seq us2.toArray } : Obj)) (u := .tup (vs.drop Fd.np)) hn
            have zz := hq _ _ (vs.take Fd.np ++ [V.ref s.heap.objs.size]) (us1 ++ [Value.ref s.heap.objs.size]) (StX.env0_laid e0 new) un rfl (fun e s' => StX.cxUp outer s H _ _ E e s' un (fun b o q => Heap.get?_push_of_some _ q) rfl) (rv1.append (.cons rfl .nil))
              (by rw [List.length_append, List.length_append, hlv] <;> rfl) ⟨_, hn, rfl, rfl⟩
            rw [List.zip_append hl1.symm] at zz
            exact zz
          · subst ex eH
            obtain ⟨g2, u2⟩ := g1.lay (o := .tup (vs.drop Fd.np)) hp
            have rw1 : RepLs G (upd F1 p (.tup (vs.drop Fd.np))) as (vs.take Fd.np ++ [V.ref p]) (ds.take Fd.np ++ [.d (.tup es)]) := ((rs.take Fd.np).mono (u1.trans u2)).append (.cons (Rep.tup (.inl (.inl upd_same)) (r1.mono u2.ex)) .nil)
            exact body_ok (u1.trans u2) g.len rw1 g2 (by rw [hN, List.length_append, hlv]; rfl) (hbody A outer s2 _ E (ok_of L S hr' hg ih)) o
        · rw [if_neg hz] at o
          exact o.elim
  · rw [if_neg hl] at o
    exact o.elim
/-- all defs, at every depth -/
theorem fnG_all (step : ∀ k, (∀ j, j ≤ k → ∀ f, FnG P w K mg base j (G.fa f) (spF G Pg j f)) → ∀ f, Pg.fn f ≠ none → FnG P w K mg base (k + 1) (G.fa f) (spF G Pg (k + 1) f)) : ∀ n f, FnG P w K mg base n (G.fa f) (spF G Pg n f) := by
  intro n
  induction n using Nat.strongRecOn with
  | _ n ih =>
    intro f
    cases n with
    | zero =>
      intro A outer s H us vs Q E hr hg e0 r hsp
      obtain ⟨Z, F, as, ds, M, rs, g, o⟩ := hsp
      exact o.elim
    | succ k =>
      cases q : Pg.fn f with
      | none =>
        intro A outer s H us vs Q E hr hg e0 r hsp
        obtain ⟨Z, F, as, ds, M, rs, g, o⟩ := hsp
        unfold callN at o
        rw [q] at o
        exact o.elim
      | some Fd => exact step k (fun j hj f => ih j (Nat.lt_succ_of_le hj) f) f (by rw [q]; exact fun z => by cases z)
end
end TD
set_option Elab.async false
set_option linter.all false
set_option maxRecDepth 100000
set_option maxHeartbeats 4000000
/-! TD, part Q: the law's end; constants of the module. -/
namespace TD
open PySem PySem.Spec L2
theorem reps_ints {G : GG} {F : Hp} : ∀ (ns : List Int), Reps G F (ns.map V.int) (ns.map D.int)
  | [] => .nil
  | n :: ns => .cons (.int n) (reps_ints ns)
theorem noL_of {K : PySem.W.Frag} (h : (K.all fun p => !(p.2.cls == .type "list")) = true) {a : Addr} {o : Obj} (e : K.lookup a = some o) : o.cls ≠ .type "list" := by
  have : ∀ {K : PySem.W.Frag}, (K.all fun p => !(p.2.cls == .type "list")) = true → K.lookup a = some o → o.cls ≠ .type "list" := by
    intro K
    induction K with
    | nil => intro _ e; simp at e
    | cons p K ih =>
      intro h e
      rw [List.all_cons] at h
      obtain ⟨h1, h2⟩ := Bool.and_eq_true_iff.mp h
      obtain ⟨k, v⟩ := p
      rw [List.lookup_cons] at e
      cases q : (a == k) with
      | true =>
        rw [q] at e
        cases e
        intro z
        simp [z] at h1
      | false =>
        rw [q] at e
        exact ih h2 e
  exact this h e
/-- the law's def, called with the script at the heap behind the top -/
theorem law_go {P : Program} {w : World} {K : PySem.W.Frag} {mg mb : Str → Option Value} {n f : Nat} {G : GG} {Pg : Prg} {a : Addr} {st : Shared} {us : List Value} {ns : List Int} {Me : Mem}
    (X : K.In st.heap) (hG : st.heap.Ns mainGlobals mg) (hB : st.heap.Ns builtinsNs mb) (hbb : ∀ x : Str, x ≠ "__name__" → mb x = bootBuiltins x) (lim : st.heap.NoLimit) (gn : st.gens = #[])
    (hs : st.heap.get? a = some { cls := .type "list", data := .seq us.toArray }) (hi : PyProof.Rows.IntsAre us ns) (hl : ns.length ≤ sizeLine) (hr : Room n callerA) (noL : (K.all fun p => !(p.2.cls == .type "list")) = true)
    (Fn : ∀ base : Heap, K.In base → base.Ns mainGlobals mg → FnG P w K mg base n (G.fa f) (spF G Pg n f))
    (run : callN Pg n (.fn f) [.loc 0] [.scr (ns.map D.int)] = some (.ok (.d (.bl true)), Me)) :
    codeAny (model P w) callerA (.call (.ref (G.fa f)) ⟨[.ref a], []⟩) (fun r s2 => r = .ok (.ret (.bool true)) ∧ OldK st.heap s2.heap ∧ s2.os = st.os ∧ PyProof.Rows.AllBare s2.gens) st := by
  have ka : K.lookup a = none := by
    cases e : K.lookup a with
    | none => rfl
    | some o =>
      have := X a o e
      rw [hs] at this
      cases this
      exact (noL_of noL e rfl).elim
  have vr := vals_ints hi
  let H : Hp := fun b => if b = a then some (.frz { cls := .type "list", data := .seq us.toArray } (.lst (ns.map V.int))) else none
  have Ha : H a = some (.frz { cls := .type "list", data := .seq us.toArray } (.lst (ns.map V.int))) := if_pos rfl
  have Hn : ∀ b, b ≠ a → H b = none := fun b hb => if_neg hb
  have hok : HOk P w H st.heap := fun b u z => by
    by_cases hb : b = a
    · subst hb
      rw [Ha] at z
      cases z
      exact ⟨hs, by rw [List.length_map]; exact hl, us, _, vr, hs⟩
    · rw [Hn b hb] at z
      cases z
  have keep : ∀ {b : Addr} {o : Obj}, st.heap.get? b = some o → b ≠ a → (hidT st.heap H).get? b = some o := fun e hb => hidT_get e (Hn _ hb)
  have nsK : ∀ {b : Addr} {m : Str → Option Value}, st.heap.Ns b m → (hidT st.heap H).Ns b m := fun {b m} ⟨o, es, ep, e, d, r⟩ => ⟨o, es, ep, keep e (fun z => by
    subst z
    rw [hs] at e
    cases e
    cases d), d, r⟩
  have XK : K.In (hidT st.heap H) := fun b o e => keep (X b o e) fun z => by
    rw [z, ka] at e
    cases e
  have md : Mod K mg (hidT st.heap H) := ⟨XK, nsK hG, ⟨mb, nsK hB, hbb⟩, let ⟨mc, h1, h2⟩ := lim; ⟨mc, nsK h1, h2⟩⟩
  have e0 : Env0 P w K mg (hidT st.heap H) callerA [] st H := ⟨rfl, md, fun b o e => of_hidT e, Nat.le_of_eq (hidT_size _ _), trivial, fun b hb => absurd (show b ∈ ([] : List Addr) from hb) (by simp), hok, .of_eq gn⟩
  have gd : Good G (fun _ => none) (fun _ => none) [a] [.scr (ns.map D.int)] H := by
    refine ⟨fun b o z => (by cases z), rfl, by simp, fun i b mo e1 e2 => ?_, fun b o z => (by cases z), fun b o z => (by cases z), fun b o z => (by cases z)⟩
    cases i with
    | zero =>
      simp at e1 e2
      subst e1
      subst e2
      exact ⟨rfl, _, _, Ha, reps_ints ns⟩
    | succ i => simp at e1
  have sp : spF G Pg n f [.ref a] H (fun v _ => v = .bl true) (fun _ _ _ => False) := by
    refine ⟨_, _, [a], [.loc 0], _, .cons ⟨a, rfl, rfl⟩ .nil, gd, ?_⟩
    rw [run]
    exact fun v F' as' H' u g r => Rep.blE r
  refine codeAny_mono (Fn _ XK (nsK hG) callerA [] st H [.ref a] [.ref a] _ _ hr rfl e0 (.cons rfl .nil) sp) fun r s2 z => ?_
  cases r with
  | error e =>
    obtain ⟨_, _, _, _, _, _, _, _, _, _, _, _, z⟩ := z
    exact z.elim
  | ok fl =>
    cases fl with
    | next => exact False.elim z
    | brk => exact False.elim z
    | cont => exact False.elim z
    | ret u =>
      obtain ⟨v, H2, os, bare, un, hok2, rv, q⟩ := z
      have q : v = .bl true := q
      subst q
      obtain rfl : u = Value.bool true := rv
      refine ⟨rfl, OldK.of_keep fun b o e => ?_, os, bare⟩
      by_cases hb : b = a
      · have z2 := un.frzs b _ _ (by rw [hb]; exact Ha)
        obtain ⟨e2, _⟩ := hok2 b _ z2
        rw [hb, hs] at e
        cases e
        exact e2
      · exact un.keep b o e (Hn b hb) (by intro z; exact absurd (show b ∈ ([] : List Addr) from z) (by simp)) (by simp)
/-- the goal that k_head leaves -/
theorem law_end {l : PySem.W.OpenLaw} {m n f : Nat} {q : Program} {loose : List Str} {XP : (Str → Option Value) → Heap → Prop} {YP : World → Heap → Prop} {d : DefRec} {K : Params → PySem.W.Frag} {Pg : Prg}
    (hm : l.most = some m) (hm2 : m ≤ sizeLine) (hdf : d.params.defaults = []) (hr : Room n callerA) (hY : ∀ (w : World) (h : Heap), YP w h → (K w.params).In h)
    (noL : ∀ w : World, ((K w.params).all fun p => !(p.2.cls == .type "list")) = true)
    (Fn : ∀ (w : World) (mg : Str → Option Value) (fa : Addr) (h : Heap), (K w.params).In h → h.Ns mainGlobals mg → mg d.name = some (.ref fa) → ∃ G : GG, G.fa f = fa ∧ ∀ base : Heap, (K w.params).In base → base.Ns mainGlobals mg → FnG l.prog w (K w.params) mg base n (G.fa f) (spF G Pg n f))
    (run : ∀ ns : List Int, ns.length ≤ m → ∃ Me, callN Pg n (.fn f) [.loc 0] [.scr (ns.map D.int)] = some (.ok (.d (.bl true)), Me)) :
    PySem.W.WalkO q loose XP YP l.row.toRowW d [] (fun f vs => PySem.call f vs) := by
  refine Att.attach_call hm hdf fun w s0 s1 mg mb fa o pm cd doc a vs ns G Y ho hd hcd hmg hobj hints hlen hg => ?_
  have KX := hY w _ Y
  obtain ⟨GG, rfl, hF⟩ := Fn w mg fa _ KX G.T.g hmg
  obtain ⟨Me, hrun⟩ := run ns hlen
  exact law_go KX G.T.g G.T.b G.T.builtins G.T.nolimit hg hobj hints (Nat.le_trans hlen hm2) hr (noL w) hF hrun
end TD
set_option Elab.async false
set_option linter.all false
set_option maxRecDepth 100000
set_option maxHeartbeats 3200000
/-! TD, part T: sets of texts, sorted. -/
namespace TDS
open PySem PySem.Spec PyProof.Rows L2
/-- the text of an entry -/
def keyS (e : Int × Value) : Str := match e.2 with | .str k _ => k | _ => Str.empty
def GoodS (w : World) (e : Int × Value) : Prop := ∃ k tk, e.2 = Value.str k tk ∧ e.1 = hashStr w k
/-- what is known of the table -/
structure TabS (w : World) (xs : List Str) (es : Array (Int × Value)) (t : SetTable) : Prop where
  good : ∀ e ∈ es.toList, GoodS w e
  nd : (es.toList.map keyS).Nodup
  mem : ∀ k, k ∈ xs ↔ k ∈ es.toList.map keyS
  few : es.size ≤ xs.length
  fits : t.fits es.size = true
  ris : Ris t.place.toList
  led : w.params.followText "set-order" = true ∨ t.led = true
def SetS (w : World) (h : Heap) (a : Addr) (xs : List Str) : Prop := ∃ o es ep t, h.get? a = some o ∧ o.ExactSet ∧ o.data = .set es ep t ∧ TabS w xs es t
section
variable {P : Program} {w : World} {A : Around} {E : Value → Shared → Prop} {s : Shared} {a : Addr} {xs : List Str}
theorem SetS.at {h h' : Heap} (R : SetS w h a xs) (k : ∀ o, h.get? a = some o → h'.get? a = some o) : SetS w h' a xs := by
  obtain ⟨o, es, ep, t, ho, r⟩ := R
  exact ⟨o, es, ep, t, k o ho, r⟩
theorem goodS_elems {l : List (Int × Value)} (g : ∀ e ∈ l, GoodS w e) : ElemsOf (PySem.strKind P w) l := by
  intro e he
  obtain ⟨k, tk, q1, q2⟩ := g e he
  exact ⟨⟨k, by rw [q1]; exact strKind_is P w k tk, q2⟩, by rw [q1]; rfl⟩
theorem goodS_is {e : Int × Value} (g : GoodS w e) (k : Str) : (PySem.strKind P w).is k e.2 = true ↔ keyS e = k := by
  obtain ⟨k', tk, q1, q2⟩ := g
  have hk : keyS e = k' := by unfold keyS; rw [q1]
  rw [hk, q1]
  constructor
  · intro z
    have z2 : Value.isStrOf k (Value.str k' tk) = true := z
    obtain ⟨t, z3⟩ := Value.isStrOf_shape z2
    injection z3
  · intro z
    rw [← z]
    exact strKind_is P w k' tk
/-- behind a new entry: the table may be laid anew -/
theorem addS_tail {g : Bool → Sem Unit} (hg : ∀ (b : Bool) (s₁ : Shared) (Q' : Unit → Shared → Prop), Q' () s₁ → wpAny (model P w) A (g b) Q' E s₁)
    {o : Obj} {es : Array (Int × Value)} {ep : Nat} {t : SetTable} (ho : s.heap.get? a = some o) (hex : o.ExactSet) (hd : o.data = .set es ep t)
    {es1 : Array (Int × Value)} {t2 : SetTable} {ys : List Str} (T : TabS w ys es1 t2) (hb : ys.length < scanBound) {wd : Bool} {R : Option Bool → Shared → Prop}
    (hR : ∀ h', Heap.SameBut a s.heap h' → SetS w h' a ys → R (some true) { s with heap := h' }) :
    wpAny (model P w) A (do
        storeSet a es1 t2
        if (!wd && t2.tooFull) = true then do
            g (relayAll t2 es1 (SetTable.grown es1.size)).2.2
            storeSet a (relayAll t2 es1 (SetTable.grown es1.size)).1 (relayAll t2 es1 (SetTable.grown es1.size)).2.1
            pure (some true)
          else pure (some true)) R E s := by
  have b1 : es1.size < scanBound := Nat.lt_of_le_of_lt T.few hb
  refine wpAny_bind (wpAny_storeSet_of ho hd ?_ (fits_of_scanBound b1))
  have o1 := store_at (es' := es1) (t' := t2) ho hd
  have c1 := Heap.SameBut.update s.heap a (Obj.putSet es1 t2)
  split
  · have z1 := relayAll_perm t2 es1 (SetTable.grown es1.size)
    have z2 := relayAll_fits t2 es1 (SetTable.grown es1.size)
    have z3 := relayAll_ris t2 es1 (SetTable.grown es1.size)
    have z4 := relayAll_led t2 es1 (SetTable.grown es1.size)
    generalize relayAll t2 es1 (SetTable.grown es1.size) = Y at z1 z2 z3 z4 ⊢
    obtain ⟨es2, t3, gv⟩ := Y
    dsimp only at z1 z2 z3 z4 ⊢
    have n2 : es2.size = es1.size := by rw [← Array.length_toList, z1.length_eq, Array.length_toList]
    refine wpAny_bind (hg _ _ _ ?_)
    refine wpAny_bind (wpAny_storeSet_of o1 rfl ?_ (fits_of_scanBound (by rw [n2]; exact b1)))
    have o2 := store_at (es' := es2) (t' := t3) o1 rfl
    refine wpAny_pure (hR _ (c1.trans (Heap.SameBut.update _ a _)) ⟨_, es2, _, t3, o2, hex, rfl, ?_⟩)
    exact ⟨fun e he => T.good e (z1.mem_iff.mp he), (z1.map keyS).nodup_iff.mpr T.nd, fun k => (T.mem k).trans (z1.map keyS).mem_iff.symm, by rw [n2]; exact T.few, z2, z3, T.led.imp id fun z => by rw [z4]; exact z⟩
  · exact wpAny_pure (hR _ c1 ⟨_, es1, _, t2, o1, hex, rfl, T⟩)
theorem addS {k : Str} {tk : Tok} {Q : Bool → Shared → Prop} (R : SetS w s.heap a xs) (room : xs.length + 1 < scanBound)
    (hQ : ∀ (b : Bool) h', Heap.SameBut a s.heap h' → SetS w h' a (xs ++ [k]) → Q b { s with heap := h' }) :
    wpAny (model P w) A (setAddHashed a (.str k tk) ((PySem.strKind P w).hash k)) Q E s := by
  obtain ⟨o, es, ep, t, ho, hex, hd, T⟩ := R
  have hkey : (PySem.strKind P w).is k (.str k tk) = true := strKind_is P w k tk
  have hsc : (Value.str k tk).scannable = true := rfl
  have hel : ElemsOf (PySem.strKind P w) es.toList := goodS_elems T.good
  have hbs : es.size < scanBound := Nat.lt_of_le_of_lt T.few (by omega)
  unfold setAddHashed setAddHashedIn
  refine wpAny_holding (wpAny_bind (wpAny_setState_of ho hd T.fits ?_))
  dsimp only
  rw [byScan_of hsc hbs hel]
  simp only [↓reduceIte]
  unfold setAddByScan
  refine wpAny_bind ?_
  refine wpAny_bind (wpAny_rule ?_)
  refine wpAny_bind (wpAny_setScan_of hkey ho hd T.fits hel ?_)
  cases hfi : List.findIdx? (fun e => (PySem.strKind P w).is k e.2) es.toList with
  | some j =>
    dsimp only
    obtain ⟨hj, pj, _⟩ := List.findIdx?_eq_some_iff_getElem.mp hfi
    have hkx : k ∈ xs := (T.mem k).mpr (List.mem_map.mpr ⟨es.toList[j], List.getElem_mem hj, (goodS_is (T.good _ (List.getElem_mem hj)) k).mp pj⟩)
    refine wpAny_pure (wpAny_pure (hQ _ s.heap (Heap.SameBut.refl a s.heap) ⟨o, es, ep, t, ho, hex, hd, T.good, T.nd, fun i => ?_, ?_, T.fits, T.ris, T.led⟩))
    · rw [← T.mem i, List.mem_append, List.mem_singleton]
      exact ⟨fun z => z.elim id (fun e => e ▸ hkx), .inl⟩
    · rw [List.length_append]
      exact Nat.le_trans T.few (Nat.le_add_right _ _)
  | none =>
    dsimp only
    have hnk : k ∉ es.toList.map keyS := fun z => by
      obtain ⟨e, he, q⟩ := List.mem_map.mp z
      have c := List.findIdx?_eq_none_iff.mp hfi e he
      rw [(goodS_is (P := P) (T.good e he) k).mpr q] at c
      cases c
    have pm := layNew_perm t es ((PySem.strKind P w).hash k) (.str k tk)
    have hf1 := layNew_fits t es ((PySem.strKind P w).hash k) (.str k tk)
    have hr1 := layNew_ris t es ((PySem.strKind P w).hash k) (.str k tk) T.ris
    have hl1 := layNew_led t es ((PySem.strKind P w).hash k) (.str k tk)
    generalize layNew t es ((PySem.strKind P w).hash k) (.str k tk) = Y at pm hf1 hr1 hl1 ⊢
    obtain ⟨es1, t1, wd, gave⟩ := Y
    dsimp only at pm hf1 hr1 hl1 ⊢
    rw [Array.toList_push] at pm
    have pc : es1.toList.Perm (((PySem.strKind P w).hash k, Value.str k tk) :: es.toList) := pm.trans (List.perm_append_singleton _ _)
    have pk : (es1.toList.map keyS).Perm (k :: es.toList.map keyS) := pc.map keyS
    have n1 : es1.size = es.size + 1 := by rw [← Array.length_toList, pc.length_eq, List.length_cons, Array.length_toList]
    have mk : ∀ t2 : SetTable, t2.fits es1.size = true → Ris t2.place.toList → t2.led = t1.led → TabS w (xs ++ [k]) es1 t2 := fun t2 q1 q2 q3 => by
      refine ⟨fun e he => ?_, pk.nodup_iff.mpr (List.nodup_cons.mpr ⟨hnk, T.nd⟩), fun i => ?_, ?_, q1, q2, T.led.imp id fun z => by rw [q3, hl1]; exact z⟩
      · rcases List.mem_cons.mp (pc.mem_iff.mp he) with z | z
        · rw [z]; exact ⟨k, tk, rfl, rfl⟩
        · exact T.good e z
      · rw [pk.mem_iff, List.mem_cons, List.mem_append, List.mem_singleton, T.mem i]
        exact Or.comm
      · rw [n1, List.length_append]
        exact Nat.add_le_add_right T.few 1
    have hb1 : (xs ++ [k]).length < scanBound := by rw [List.length_append]; exact room
    have hgw : ∀ (b : Bool) {s₁ : Shared} {Q' : Unit → Shared → Prop}, Q' () s₁ → wpAny (model P w) A (match b with | true => rule "set.scan.the-table-gave-way" | false => pure ()) Q' E s₁ :=
      fun b s₁ Q' q => by cases b <;> first | exact wpAny_pure q | exact wpAny_rule q
    refine wpAny_bind (hgw _ ?_)
    split
    · refine wpAny_bind ?_
      rw [hashByValue_scannable 8 hsc]
      refine wpAny_pure ?_
      refine addS_tail ?_ ho hex hd (mk _ ?_ ?_ ?_) hb1 ?_
      · intro b s₁ Q' q; cases b <;> first | exact wpAny_pure q | exact wpAny_rule q
      · first | (split <;> first | exact hf1 | exact SetTable.fits_plain_off hf1) | exact hf1
      · first | (split <;> exact hr1) | exact hr1
      · first | (split <;> rfl) | rfl
      · intro h' sb r; dsimp only; exact wpAny_pure (hQ _ h' sb r)
    · refine wpAny_bind (wpAny_pure ?_)
      simp only [↓reduceIte]
      refine addS_tail ?_ ho hex hd (mk t1 hf1 hr1 rfl) hb1 ?_
      · intro b s₁ Q' q; cases b <;> first | exact wpAny_pure q | exact wpAny_rule q
      · intro h' sb r; dsimp only; exact wpAny_pure (hQ _ h' sb r)
end
abbrev freshS (w : World) : Obj := { cls := .type "set", dict := none, data := .set #[] 0 (.fresh 0 0 (!w.params.followText "set-order")) }
section
variable {P : Program} {w : World} {A : Around} {E : Value → Shared → Prop} {s : Shared}
theorem newS (v : Value) {Q1 : Value → Shared → Prop} (q : Q1 (.ref s.heap.objs.size) { s with heap := s.heap.push (freshS w) }) :
    codeAny (model P w) A (.call (.builtin "set.__new__") ⟨[.type "set", v], []⟩) (wants Q1 E) s := by
  refine codeAny_of_tree ?_
  show wpAny _ A.in1 (do checkBuiltinCall "set.__new__" ⟨[.type "set", v], []⟩; again (.builtin "set.__new__" ⟨[.type "set", v], []⟩)) _ _ s
  refine wpAny_bind (wpAny_of_eq (F.newCall_set_1 v) (wpAny_pure ⟨plainId_quiet F.plain_set_new _, codeAny_builtin F.entry_set_new ?_⟩))
  rw [Around.under_plainId F.plain_set_new _]
  unfold Builtin.«set.__new__» Builtin.Frozenset.newClass
  have hsub := sub_set_self
  obtain ⟨hp, g, d, tk, os⟩ := s
  dsimp only
  wp_walk
  refine wpAny_askSetting (wpAny_pure ?_)
  dsimp only
  simp only [newObj]
  refine wpAny_bind (wpAny_alloc (wpAny_pure ?_))
  exact wpAny_pure q
theorem freshS_ok {h : Heap} {a : Addr} (e : h.get? a = some (freshS w)) : SetS w h a [] :=
  ⟨_, #[], 0, _, e, ⟨rfl, rfl, rfl⟩, rfl, ⟨fun e he => by simp at he, by simp, fun k => by simp, by simp, by rfl, List.Pairwise.nil, by
    show _ ∨ (!w.params.followText "set-order") = true
    cases w.params.followText "set-order"
    · exact .inr rfl
    · exact .inl rfl⟩⟩
end
section
variable {prog : Program} {w : World} {A : Around} {R : Result → Shared → Prop} {I : Addr} {fp wr : List Addr} {G : Array GenState → Array GenState → Prop} {n : Nat} {P : Nat → Value → Prop} {St : Nat → Shared → Prop}
theorem loopS (W : WalksS prog w A.in1 I fp wr G n P St) (S : Addr) (hSf : S ∉ fp) (xs : List Str) (hsz : xs.length = n) (hn1 : n < 4000)
    (hval : ∀ i v, P i v → ∃ t, v = .str (xs.getD i Str.empty) t) :
    ∀ (k i : Nat) (s : Shared), n - i = k → i ≤ n → St i s → SetS w s.heap S (xs.take i) →
      (∀ s', Moved (S :: wr) G s s' → SetS w s'.heap S xs → R (.ok (.ret .none)) s') →
      codeAny (model prog w) A (.builtin "set.update.loop" ⟨[.ref S, .ref I], []⟩) R s := by
  have nw : S ∉ wr := fun h => hSf (W.sub _ h)
  have inc : ∀ b ∈ wr, b ∈ S :: wr := fun b hb => List.mem_cons_of_mem _ hb
  intro k
  induction k with
  | zero =>
    intro i s hk hi hst hS hR
    obtain rfl : i = n := by omega
    refine codeAny_builtin PyProof.Rows.F.entry_set_update_loop ?_
    rw [Around.under_plainId PyProof.Rows.F.plain_set_update_loop _]
    show wpAny _ A.in1 (pyNext (.ref I) >>= _) _ _ s
    refine wpAny_bind (W.done s _ _ hst fun s2 mv => ?_)
    show wpAny _ A.in1 (ret Value.none) _ _ s2
    refine wpAny_pure (hR s2 (mv.mono inc) ?_)
    rw [← hsz, List.take_length] at hS
    exact hS.at fun o e => mv.heap S _ nw e
  | succ k ih =>
    intro i s hk hi hst hS hR
    have lt : i < n := by omega
    refine codeAny_builtin PyProof.Rows.F.entry_set_update_loop ?_
    rw [Around.under_plainId PyProof.Rows.F.plain_set_update_loop _]
    show wpAny _ A.in1 (pyNext (.ref I) >>= _) _ _ s
    refine wpAny_bind (W.item i s _ _ lt hst fun v s2 pv st2 mv => ?_)
    obtain ⟨t, rfl⟩ := hval i v pv
    have hS2 : SetS w s2.heap S (xs.take i) := hS.at fun o e => mv.heap S _ nw e
    show wpAny _ A.in1 (holding [Value.str (xs.getD i Str.empty) t] (setAdd S (.str (xs.getD i Str.empty) t)) >>= _) _ _ s2
    refine wpAny_bind (wpAny_holding ?_)
    unfold setAdd
    refine wpAny_holding ?_
    refine wpAny_bind ((PySem.strKind prog w).pyHash (k := xs.getD i Str.empty) (strKind_is _ _ _ _) ?_)
    refine addS (s := { s2 with toks := s2.toks + 1 }) hS2 (by rw [List.length_take]; unfold scanBound; omega) fun b h3 sb hS3 => ?_
    have e3 : xs.take i ++ [xs.getD i Str.empty] = xs.take (i + 1) := by
      have hl : i < xs.length := by omega
      rw [List.take_succ, List.getElem?_eq_getElem hl]
      simp [List.getD, List.getElem?_eq_getElem hl]
    rw [e3] at hS3
    refine wpAny_pure ⟨plainId_quiet PyProof.Rows.F.plain_set_update_loop _, ih (i + 1) _ (by omega) lt (W.frame _ s2 _ _ st2 (Nat.le_succ _) fun b hb o e => ?_) hS3 fun s4 mv4 hS4 => ?_⟩
    · rw [sb.2 b (fun z : b = S => hSf (by rw [← z]; exact hb))]; exact e
    · refine hR s4 (Moved.trans W.gtrans ((mv.mono inc).then_heap (Nat.le_succ _) fun b o hb e => ?_) mv4) hS4
      rw [sb.2 b (fun z : b = S => hb (by rw [z]; exact List.mem_cons_self))]; exact e
end
section
variable {prog : Program} {w : World} {A : Around} {E : Value → Shared → Prop} {s : Shared}
theorem call_setS {l : Addr} {items : Array Value} {xs : List Str} {Q : Value → Shared → Prop}
    (hh : A.handled = none) (hl : s.heap.IsList l items) (hi : PyProof.Rows.StrsAre items.toList xs) (hn1 : xs.length < 4000)
    (h : ∀ (h' : Heap) (tk : Nat), SetS w h' s.heap.objs.size xs → (∀ b o, b < s.heap.objs.size → s.heap.get? b = some o → h'.get? b = some o) → s.heap.objs.size < h'.objs.size → Q (.ref s.heap.objs.size) { s with heap := h', toks := tk }) :
    wpAny (model prog w) A (call (.type "set") [.ref l]) Q E s := by
  obtain ⟨c, tl, hmro⟩ := PySem.F.called_set.mro
  have hmade := PySem.F.called_set.made
  have hsub := PySem.F.called_set.sub
  refine wpAny_call (codeAny_of_tree ?_)
  show wpAny _ _ (callAny (.type "set") _) _ _ _
  refine wpAny_pure ⟨Code.quiet_builtin _ (by decide +kernel), codeAny_builtin PySem.F.entry_type_call ?_⟩
  rw [Around.under_plain (weight_type_call_type "set" [.ref l] []) rfl]
  have h1 := PySem.F.called_set.notType
  have h2 := PySem.F.called_set.canCreate
  have hct := PySem.F.typeCall_set_1 (.ref l)
  repeat (any_goals (first | assumption | wp_step))
  refine codeAny_mono (newS (.ref l) (E := E) (Q1 := fun obj s₁ => obj = .ref s.heap.objs.size ∧ s₁ = { s with heap := s.heap.push (freshS w) }) ⟨rfl, rfl⟩) fun r s₁ hr => ?_
  cases r with
  | error e => exact hr
  | ok fl =>
    cases fl with
    | ret obj =>
      obtain ⟨rfl, rfl⟩ := hr
      have hS : (s.heap.push (freshS w)).get? s.heap.objs.size = some (freshS w) := Heap.get?_push_size _ rfl
      have hT : Shared.TypeIs { s with heap := s.heap.push (freshS w) } (.ref s.heap.objs.size) "set" := ⟨_, hS, rfl⟩
      have hli := PySem.F.called_set.init.lookup
      have hbi := PySem.F.called_set.init.bind (.ref s.heap.objs.size)
      repeat (any_goals (first | assumption | wp_step))
      refine codeAny_mono (codeAny_call_builtin (R := wants (fun r s₂ => r = .none ∧ ∃ h' tk, s₂ = { s with heap := h', toks := tk } ∧ SetS w h' s.heap.objs.size xs ∧
          (∀ b o, b < s.heap.objs.size → s.heap.get? b = some o → h'.get? b = some o)) E) PySem.F.called_set.init.plain PySem.F.entry_set_init (check_set_init_1 hT ?_)) fun r₂ s₂ hr₂ => ?_
      · obtain ⟨ol, hol, hcl, nl, hdl⟩ := hl
        obtain ⟨ocls, odict, odata, oslots⟩ := ol
        simp only at hcl hdl
        subst hcl; subst hdl
        have hol' : (s.heap.push (freshS w)).get? l = some { cls := .type "list", dict := odict, data := .seq items nl, slots := oslots } := Heap.get?_push_of_some _ hol
        have hsls := PySem.F.sub_list_set
        have hslf := PySem.F.sub_list_frozenset
        have hne : (Value.type "list" == Value.type "dict") = false := by decide
        have hl1 : (s.heap.push (freshS w)).IsList l items := ⟨_, hol', rfl, nl, rfl⟩
        unfold Builtin.«set.__init__» noKeywords Builtin.Frozenset.updateFrom
        generalize hPI : pyIter = PI
        wp_walk
        subst hPI
        refine wpAny_pyIter_list hl1 ?_
        refine wpAny_bind (wpAny_runValue ?_)
        have hlS : l < s.heap.objs.size := Heap.lt_size hol
        have hh3 : A.in1.in1.in1.handled = none := by simp [hh]
        have hneI : l ≠ (s.heap.push (freshS w)).objs.size := by
          rw [Heap.size_push]; exact Nat.ne_of_lt (Nat.lt_succ_of_lt hlS)
        have hSf : s.heap.objs.size ∉ [(s.heap.push (freshS w)).objs.size, l] := by
          rw [Heap.size_push]; simp only [List.mem_cons, List.mem_singleton, List.not_mem_nil, or_false, not_or]
          exact ⟨Nat.ne_of_lt (Nat.lt_succ_self _), Nat.ne_of_gt hlS⟩
        have hsz : xs.length = items.size := by rw [← StrsAre.len_eq hi, Array.length_toList]
        have hval : ∀ (i : Nat) (v : Value), items[i]? = some v → ∃ t, v = .str (xs.getD i Str.empty) t := fun i v hv => SS.strs_at hi i v (by rw [Array.getElem?_toList]; exact hv)
        refine loopS ((Walks.list hh3 _ l hneI items).toS) s.heap.objs.size hSf xs hsz (by rw [← hsz]; exact hn1) hval (items.size - 0) 0 _ (by omega) (Nat.zero_le _)
          ⟨⟨_, Heap.get?_push_size _ rfl, rfl, rfl⟩, (hl1.push _)⟩ ?hS0 ?hR
        case hS0 =>
          exact freshS_ok (Heap.get?_push_of_some _ hS)
        case hR =>
          intro s' hm hS'
          obtain ⟨h', g', d', tk', os'⟩ := s'
          have eg : g' = s.gens := hm.gens
          have ed : d' = s.drawn := hm.drawn
          have eo : os' = s.os := hm.os
          subst eg; subst ed; subst eo
          show wpAny _ _ _ _ _ _
          refine wpAny_pure ?_
          show wpAny _ _ (ret Value.none) _ _ _
          refine wpAny_pure ⟨rfl, h', tk', rfl, hS', fun b o hb e => ?_⟩
          have hb1 : b ≠ s.heap.objs.size := Nat.ne_of_lt hb
          have hb2 : b ≠ (s.heap.push (freshS w)).objs.size := by
            rw [Heap.size_push]; exact Nat.ne_of_lt (Nat.lt_succ_of_lt hb)
          exact hm.heap b o (by simp only [List.mem_cons, List.mem_singleton, List.not_mem_nil, or_false, not_or]; exact ⟨hb1, hb2⟩) (Heap.get?_push_of_some _ (Heap.get?_push_of_some _ e))
      · cases r₂ with
        | error e => exact hr₂
        | ok fl₂ =>
          cases fl₂ with
          | ret r =>
            obtain ⟨rfl, h', tk, rfl, hS', hk'⟩ := hr₂
            repeat (any_goals (first | assumption | wp_step))
            have hlt : s.heap.objs.size < h'.objs.size := by
              obtain ⟨o, _, _, _, ho, _⟩ := hS'
              exact Heap.lt_size ho
            exact h _ _ hS' hk' hlt
          | _ => exact hr₂.elim
    | _ => exact hr.elim
end
end TDS
set_option Elab.async false
set_option linter.all false
set_option maxRecDepth 100000
set_option maxHeartbeats 3200000
namespace TDS
open PySem PySem.Spec PyProof.Rows L2
section
variable {P : Program} {w : World} {A : Around} {E : Value → Shared → Prop} {s : Shared} {a : Addr} {xs : List Str}
def strV (v : Value) : Str := match v with | .str k _ => k | _ => Str.empty
theorem strs_out : ∀ (l : List Value), (∀ v ∈ l, ∃ k tk, v = Value.str k tk) → StrsAre l (l.map strV)
  | [], _ => .nil
  | v :: l, h => by
    obtain ⟨k, tk, rfl⟩ := h v List.mem_cons_self
    exact .cons k tk (strs_out l fun u hu => h u (List.mem_cons_of_mem _ hu))
/-- sorted(a set of texts) -/
theorem sortedS_ok {Q : Value → Shared → Prop} (R : SetS w s.heap a xs) (hh : A.handled = none) (hb : xs.length < 4000)
    (hQ : ∀ s' p (out : Array Value) (c : Nat) (ys : List Str), (∀ b o, s.heap.get? b = some o → s'.heap.get? b = some o) → s'.gens = s.gens → s'.os = s.os → s.heap.objs.size ≤ p →
      s'.heap.get? p = some (seqObj "list" out c) → StrsAre out.toList ys → sortedS ys = true → ys.Nodup → (∀ k, k ∈ ys ↔ k ∈ xs) → ys.length ≤ xs.length → Q (.ref p) s') :
    wpAny (model P w) A (call (.builtin "sorted") [.ref a]) Q E s := by
  obtain ⟨o, es, ep, t, ho, hex, hd, T⟩ := R
  have hsb : es.size < scanBound := Nat.lt_of_le_of_lt T.few (by unfold scanBound; omega)
  refine Calls.call_function_entry kind_sorted plain_sorted entry_sorted (args_sorted1 _) ?_
  unfold Builtin.«sorted»
  refine wpAny_bind (m := checkCount "sorted" 1 1 _) (wpAny_pure ?_)
  refine wpAny_bind (collect_set (A := A.in1) hh ⟨o, ho, hex.1, hd⟩ T.fits hsb T.ris T.led fun s1 vs k1 hz g1 o1 pm => ?_)
  have hvl : vs.length = es.size := by rw [pm.length_eq, List.length_map, Array.length_toList]
  have hI : StrsAre vs (vs.map strV) := strs_out vs fun v hv => by
    obtain ⟨e, he, q⟩ := List.mem_map.mp (pm.mem_iff.mp hv)
    obtain ⟨k, tk, h1, _⟩ := T.good e he
    exact ⟨k, tk, by rw [← q]; exact h1⟩
  have pk : (vs.map strV).Perm (es.toList.map keyS) := by
    have q := pm.map strV
    rw [List.map_map] at q
    exact q
  have few := T.few
  have hL : vs.length ≤ sizeLine := by rw [hvl, sizeLine_eq]; omega
  refine wpAny_bind (wpAny_newList ?_ hL)
  have hoL : (s1.heap.push (seqObj "list" vs.toArray 0)).get? s1.heap.objs.size = some (seqObj "list" vs.toArray 0) := Heap.get?_push_size _ rfl
  refine wpAny_bind (wpAny_holding (wpAny_call_entry slot_list_sort ⟨_, hoL, rfl⟩ entry_list_sort (list_sort_treeKAny strKind_oneLt hoL hI.keysOf (fun v₁ v₂ rest e => keyKind_strs (by rw [← e]; exact hI)) hL fun st2 a1 a2 => ⟨_, rfl, ?_⟩) (args_list_sort _)))
  obtain ⟨ys, b1, b2, b3⟩ := sorted_out_str hI a1 a2
  obtain ⟨c, hc⟩ := sortedHeap_at (vs := vs) (out := (arrOf st2).map (·.2)) hoL
  have pn : ys.Perm (es.toList.map keyS) := b2.trans pk
  refine wpAny_pure ⟨_, rfl, hQ _ s1.heap.objs.size ((arrOf st2).map (·.2)) c ys (fun b u e => ?_) g1 o1 hz hc b1 b3 (pn.nodup_iff.mpr T.nd) (fun k => by rw [pn.mem_iff, T.mem k]) ?_⟩
  · have q := k1 b u e
    have hlt := Heap.lt_size q
    show (sortedHeap (s1.heap.push (seqObj "list" vs.toArray 0)) s1.heap.objs.size vs ((arrOf st2).map (·.2))).get? b = some u
    rw [sortedHeap_old (Nat.ne_of_lt hlt) (by rw [size_push']; exact Nat.lt_succ_of_lt hlt)]
    exact Heap.get?_push_of_some _ q
  · rw [pn.length_eq, List.length_map, Array.length_toList]
    exact T.few
end
end TDS
set_option Elab.async false
set_option linter.all false
set_option maxRecDepth 100000
set_option maxHeartbeats 3200000
namespace TD
open PySem L2
theorem ltN_eq : ∀ a b : List Nat, ltN a b = PySem.Spec.ltCps a b
  | [], [] => rfl
  | [], _ :: _ => rfl
  | _ :: _, [] => rfl
  | a :: r, b :: t => by
    show (decide (a < b) || (a == b && ltN r t)) = (decide (a < b) || (a == b && PySem.Spec.ltCps r t))
    rw [ltN_eq r t]
theorem ltN_irr : ∀ a : List Nat, ltN a a = false
  | [] => rfl
  | a :: r => by simp [ltN, ltN_irr r]
theorem ltN_tr : ∀ a b c : List Nat, ltN a b = true → ltN b c = true → ltN a c = true
  | _, [], [], _, h => by cases h
  | [], _, _ :: _, _, _ => rfl
  | _ :: _, [], _, h, _ => by cases h
  | [], _ :: _, [], _, h => by cases h
  | _ :: _, _ :: _, [], _, h => by cases h
  | a :: r, b :: t, c :: u, h1, h2 => by
    simp [ltN] at h1 h2 ⊢
    rcases h1 with h1 | ⟨rfl, h1⟩
    · rcases h2 with h2 | ⟨rfl, h2⟩
      · exact .inl (Nat.lt_trans h1 h2)
      · exact .inl h1
    · rcases h2 with h2 | ⟨rfl, h2⟩
      · exact .inl h2
      · exact .inr ⟨rfl, ltN_tr r t u h1 h2⟩
theorem ltN_tot : ∀ a b : List Nat, a = b ∨ ltN a b = true ∨ ltN b a = true
  | [], [] => .inl rfl
  | [], _ :: _ => .inr (.inl rfl)
  | _ :: _, [] => .inr (.inr rfl)
  | a :: r, b :: t => by
    simp [ltN]
    rcases Nat.lt_trichotomy a b with h | h | h
    · exact .inr (.inl (.inl h))
    · subst h
      rcases ltN_tot r t with h | h | h
      · exact .inl ⟨rfl, h⟩
      · exact .inr (.inl (.inr ⟨rfl, h⟩))
      · exact .inr (.inr (.inr ⟨rfl, h⟩))
    · exact .inr (.inr (.inl h))
abbrev sLt (x y : Str) : Prop := ltN x.cps.toList y.cps.toList = true
theorem str_ext {x y : Str} (h : x.cps.toList = y.cps.toList) : x = y := by
  cases x; cases y
  simp only [Str.mk.injEq]
  exact Array.toList_inj.mp h
theorem sLt_tot (x y : Str) : x = y ∨ sLt x y ∨ sLt y x := by
  rcases ltN_tot x.cps.toList y.cps.toList with h | h | h
  · exact .inl (str_ext h)
  · exact .inr (.inl h)
  · exact .inr (.inr h)
theorem insN_mem {k z : Str} : ∀ {l : List Str}, z ∈ insN k l ↔ z = k ∨ z ∈ l
  | [] => by simp [insN]
  | x :: r => by
    unfold insN
    split
    · rename_i h
      subst h
      simp
    · split
      · simp
      · simp [insN_mem (l := r)]
        constructor
        · rintro (h | h | h)
          · exact .inr (.inl h)
          · exact .inl h
          · exact .inr (.inr h)
        · rintro (h | h | h)
          · exact .inr (.inl h)
          · exact .inl h
          · exact .inr (.inr h)
theorem insN_pw {k : Str} : ∀ {l : List Str}, l.Pairwise sLt → (insN k l).Pairwise sLt
  | [], _ => by simp [insN]
  | x :: r, h => by
    have h1 := List.pairwise_cons.mp h
    unfold insN
    split
    · exact h
    · rename_i ne
      split
      · rename_i lt
        refine List.pairwise_cons.mpr ⟨fun y hy => ?_, h⟩
        rcases List.mem_cons.mp hy with e | e
        · rw [e]; exact lt
        · exact ltN_tr _ _ _ lt (h1.1 y e)
      · rename_i nl
        refine List.pairwise_cons.mpr ⟨fun y hy => ?_, insN_pw h1.2⟩
        rcases insN_mem.mp hy with e | e
        · rw [e]
          rcases sLt_tot k x with z | z | z
          · exact (ne z).elim
          · exact (nl z).elim
          · exact z
        · exact h1.1 y e
theorem sortN_mem {z : Str} : ∀ {l : List Str}, z ∈ sortN l ↔ z ∈ l
  | [] => by simp [sortN]
  | x :: r => by
    show z ∈ insN x (sortN r) ↔ _
    rw [insN_mem, sortN_mem, List.mem_cons]
theorem sortN_pw : ∀ {l : List Str}, (sortN l).Pairwise sLt
  | [] => .nil
  | x :: r => insN_pw (l := sortN r) sortN_pw
theorem pw_eq : ∀ {l m : List Str}, l.Pairwise sLt → m.Pairwise sLt → (∀ z, z ∈ l ↔ z ∈ m) → l = m
  | [], [], _, _, _ => rfl
  | [], y :: m, _, _, h => absurd ((h y).mpr (by simp)) (by simp)
  | x :: l, [], _, _, h => absurd ((h x).mp (by simp)) (by simp)
  | x :: l, y :: m, h1, h2, h => by
    have a1 := List.pairwise_cons.mp h1
    have a2 := List.pairwise_cons.mp h2
    have irr : ∀ z : Str, ¬ sLt z z := fun z hz => by
      have := ltN_irr z.cps.toList
      rw [show ltN z.cps.toList z.cps.toList = true from hz] at this
      cases this
    have exy : x = y := by
      rcases List.mem_cons.mp ((h x).mp (by simp)) with e | e
      · exact e
      · rcases List.mem_cons.mp ((h y).mpr (by simp)) with e2 | e2
        · exact e2.symm
        · exact (irr x (ltN_tr _ _ _ (a1.1 y e2) (a2.1 x e))).elim
    subst exy
    rw [pw_eq a1.2 a2.2 fun z => ?_]
    have hz := h z
    simp only [List.mem_cons] at hz
    constructor
    · intro hl
      rcases hz.mp (.inr hl) with e | e
      · subst e; exact (irr z (a1.1 z hl)).elim
      · exact e
    · intro hm
      rcases hz.mpr (.inr hm) with e | e
      · subst e; exact (irr z (a2.1 z hm)).elim
      · exact e
theorem rising_le : ∀ {p : Str} {l : List Str}, PyProof.Rows.risingS p l = true → l.Pairwise (fun x y => ltN y.cps.toList x.cps.toList = false) ∧ ∀ y ∈ l, ltN y.cps.toList p.cps.toList = false
  | p, [], _ => ⟨.nil, by simp⟩
  | p, x :: r, h => by
    unfold PyProof.Rows.risingS at h
    rw [Bool.and_eq_true] at h
    obtain ⟨i1, i2⟩ := rising_le h.2
    have hx : ltN x.cps.toList p.cps.toList = false := by rw [ltN_eq]; simpa using h.1
    refine ⟨List.pairwise_cons.mpr ⟨i2, i1⟩, fun y hy => ?_⟩
    rcases List.mem_cons.mp hy with e | e
    · rw [e]; exact hx
    · cases q : ltN y.cps.toList p.cps.toList with
      | false => rfl
      | true =>
        rcases sLt_tot p x with z | z | z
        · rw [z, i2 y e] at q; cases q
        · have := i2 y e
          rw [ltN_tr _ _ _ q z] at this
          cases this
        · rw [show ltN x.cps.toList p.cps.toList = true from z] at hx
          cases hx
theorem sorted_pw : ∀ {l : List Str}, PyProof.Rows.sortedS l = true → l.Nodup → l.Pairwise sLt := by
  intro l h nd
  have le : l.Pairwise (fun x y => ltN y.cps.toList x.cps.toList = false) := by
    cases l with
    | nil => exact .nil
    | cons x r =>
      obtain ⟨a1, a2⟩ := rising_le h
      exact List.pairwise_cons.mpr ⟨a2, a1⟩
  have both := List.Pairwise.and le nd
  refine both.imp fun {x y} ⟨h1, h2⟩ => ?_
  rcases sLt_tot x y with z | z | z
  · exact (h2 z).elim
  · exact z
  · rw [show ltN y.cps.toList x.cps.toList = true from z] at h1
    cases h1
theorem strsD_rep {G : GG} {F : Hp} : ∀ {vs : List V} {xs : List D} {ss : List Str}, Reps G F vs xs → strsD xs = some ss → vs = ss.map V.str
  | _, _, _, .nil, e => by cases e; rfl
  | _, _, _, .cons (d := d) r t, e => by
    cases d with
    | str x =>
      obtain ⟨ys, e1, rfl⟩ := Option.map_eq_some_iff.mp (show (strsD _).map (x :: ·) = some _ from e)
      rw [strsD_rep t e1]
      cases Rep.strE r
      rfl
    | _ => cases e
end TD
set_option Elab.async false
set_option linter.all false
set_option maxRecDepth 100000
set_option maxHeartbeats 3200000
namespace TD
open PySem L2
theorem reps_strs {G : GG} {F : Hp} : ∀ (ss : List Str), Reps G F (ss.map V.str) (ss.map D.str)
  | [] => .nil
  | x :: r => .cons (.str x) (reps_strs r)
section
variable {κ : Kx} {a : Expr} {ca : CE} {p p2 q pos : Pos}
/-- sorted(set(a)), texts -/
theorem je_sset (hc : κ.X.calm = true) (hg : Gl κ.X "sorted") (hm : κ.X.mg "sorted" = none) (hg2 : Gl κ.X "set") (hm2 : κ.X.mg "set" = none) (ha : JE κ a ca)
    (na : starEach [a] κ.X.env = (false, eval a κ.X.env) :: starEach [] κ.X.env := by rfl) (hpl : (backTo q (starEach [] κ.X.env)).any (·.1) = false := by rfl) :
    JE κ (.Call (.Name "sorted" p) [.Call (.Name "set" p2) [a] [] q] [] pos) (.blt .sortedSet (.cons ca .nil)) := by
  refine ⟨fun pins s σ H Q I t => ?_⟩
  have ha2 : JA κ [a] (.cons ca .nil) := ja_cons (hs := na) ha ja_nil
  have t2 := tM_bind (R := RepLs κ.G) (S := RepL κ.G) (Q := fun vs H1 => rVs κ.G (bltV κ.P.rp .sortedSet) vs H1 Q) (k := fun vs e => bltV κ.P.rp .sortedSet vs) t fun vs Z F as e M H1 ds re g rs o => ⟨_, Z, F, as, ds, M, g, rs, o⟩
  refine PyProof.Rows.Call_ (ld_blt I hg hm PyProof.Rows.boot_sorted ?_)
  refine PyProof.Rows.callWith_builtin1 (PyProof.Rows.args_cons ?_ rfl) rfl rfl
  refine PyProof.Rows.Call_ (ld_blt I hg2 hm2 PyProof.Rows.boot_set ?_)
  refine PyProof.Rows.callWith_type1 (thn (ha2.run q pins s σ H _ I t2) fun us s1 ⟨vs, H1, I1, r1, hr⟩ => ?_) na hpl
  obtain ⟨E, Z, F, as, ds, M, g, rs, o⟩ := hr
  obtain ⟨dl, d, ed, sh, fin⟩ := blt_got g rs o
  replace ed : ssD dl = some d := ed
  unfold ssD at ed
  split at ed
  · rename_i xs
    obtain ⟨ss, e1, e2⟩ := Option.bind_eq_some_iff.mp ed
    split at e2
    · rename_i hlt
      cases e2
      cases sh with
      | cons s1' s2' =>
        cases s2'
        obtain ⟨l, ws, rfl, t1, r2⟩ := s1'
        obtain rfl := strsD_rep r2 e1
        obtain ⟨its, rv, pl, hz⟩ := I1.list (.inl t1)
        rw [Vals.ref1 r1]
        refine TDS.call_setS (I1.ok.hd hc) pl.isList (by simpa using strsAre_of rv) hlt fun h2 tk hS hk hsz => ?_
        have I2 : L2.Inv κ.X pins σ H1 { s1 with heap := h2, toks := tk } := I1.kept fun b u e => hk b u (Heap.lt_size e) e
        refine PyProof.Rows.args_nil ?_
        refine TDS.sortedS_ok hS (I2.ok.hd hc) hlt fun s3 pt out c ys kp gn osE hp hget hstr hsrt hnd hmem hlen => ?_
        have ey : ys = sortN ss := pw_eq (sorted_pw hsrt hnd) sortN_pw fun z => by rw [hmem, sortN_mem]
        have hn : H1 pt = none := I2.hok.fresh hp
        have hl2 : (ys.map V.str).length ≤ sizeLine := by rw [List.length_map, sizeLine_eq]; omega
        have J : L2.Inv κ.X pins σ (upd H1 pt (.lst (ys.map V.str))) { ({ s1 with heap := h2, toks := tk } : Shared) with heap := s3.heap, gens := s3.gens, drawn := s3.drawn, toks := s3.toks } :=
          I2.call (ch := []) (Un.laid kp hp hn) (I2.hok.laid kp hp ⟨hl2, out.toList, c, vals_of_strs hstr, hget⟩) (by rw [gn]; exact I2.bare) (fun _ z => nomatch z)
        have e3 : s3 = { ({ s1 with heap := h2, toks := tk } : Shared) with heap := s3.heap, gens := s3.gens, drawn := s3.drawn, toks := s3.toks } := by
          cases s3
          cases s1
          cases osE
          rfl
        rw [e3]
        obtain ⟨g4, u4⟩ := g.lay (o := .lst (ys.map V.str)) hn
        refine ⟨.ref pt, _, J, rfl, fin _ _ _ _ u4 g4 ?_⟩
        rw [ey]
        exact .lst (upd_same ..) (reps_strs _)
    · cases e2
  · cases ed
end
end TD
set_option Elab.async false
set_option linter.all false
set_option maxRecDepth 100000
set_option maxHeartbeats 3200000
/-! TD, part U: a constant dict with text keys; static methods by their class. -/
namespace TD
open PySem L2
/-- a name that holds a constant dict -/
structure KCon (κ : Kx) (x : Str) (kvs : List (Str × D)) : Prop where
  ex : ∃ d es n, KDict κ.X.K κ.X.w d es n ∧ κ.X.mg x = some (.ref d) ∧ ∀ z : Str, (kvs.lookup z = none → PySem.W.nsIn κ.X.K d z = some none) ∧ (∀ dd, kvs.lookup z = some dd → ∃ u v, PySem.W.nsIn κ.X.K d z = some (some u) ∧ RelV v u ∧ ∀ F, Rep κ.G F v dd)
section
variable {κ : Kx} {a b : Expr} {ca cb : CE} {pos p apos : Pos} {x : Str} {kvs : List (Str × D)} {n : Nat}
theorem kget_ok {G : GG} {F H : Hp} {as : List Addr} {M : Mem} {y : V} {v : Vl} {o : Option D} (gd : Good G Z F as M H) (r : RepL G F as y v) {M1 : Mem} {d : D} (e : peek v M = some (.ok d, M1)) (k : kget kvs d = some o) : M1 = M ∧ ∃ z, d = .str z ∧ y = .str z ∧ o = kvs.lookup z := by
  obtain ⟨h1, h2⟩ := peek_ok gd r e
  unfold kget at k
  split at k
  · rename_i z
    cases k
    exact ⟨h1, z, rfl, h2.str, rfl⟩
  · cases k
theorem tM_weak {G : GG} {hx : Hx} {W : WX} {α β : Type} {R : Hp → List Addr → β → α → Prop} {m : TD.Env → EM α} {σ : L2.St} {H : Hp} {Q Q' : β → Hp → Prop} (h : tM G hx W R m σ H Q) (f : ∀ y H1, Q y H1 → Q' y H1) : tM G hx W R m σ H Q' := by
  obtain ⟨Z, F, as, e, M, re, g, o⟩ := h
  exact ⟨Z, F, as, e, M, re, g, Out.imp f o⟩
theorem kin_at {neg : Bool} {σ : L2.St} {H : Hp} {Q : VK} {d : Addr} (hz : ∀ z : Str, (kvs.lookup z = none → PySem.W.nsIn κ.X.K d z = some none) ∧ (∀ dd, kvs.lookup z = some dd → ∃ u v, PySem.W.nsIn κ.X.K d z = some (some u) ∧ RelV v u ∧ ∀ F, Rep κ.G F v dd))
    (t : tM κ.G κ.hx κ.W (RepL κ.G) (runE κ.P.T κ.P.rp κ.cl (.kin neg ca n kvs)) σ H Q) :
    κ.rE ca σ H fun y H1 => ∃ (z : Str) (r : Option Value), y = .str z ∧ PySem.W.nsIn κ.X.K d z = some r ∧ Q (.bl (if neg then !r.isSome else r.isSome)) H1 :=
  tM_bind (R := RepL κ.G) (S := RepL κ.G) (k := fun v e => EM.bind (peek v) fun dx => EM.o ((kget kvs dx).map fun (o : Option D) => Vl.d (.bl (if neg then !o.isSome else o.isSome)))) t fun y Z F as e M H1 va re g ra o => by
    obtain ⟨dx, M1, e1, o1⟩ := o.got fun _ _ => peek_nx
    obtain ⟨v2, ev, q⟩ := o1.o
    obtain ⟨o2, e2, rfl⟩ := Option.map_eq_some_iff.mp ev
    obtain ⟨rfl, z, rfl, rfl, rfl⟩ := kget_ok g ra e1 e2
    cases hl : kvs.lookup z with
    | none =>
      refine ⟨z, none, rfl, (hz z).1 hl, ?_⟩
      rw [hl] at q
      exact q _ F as H1 Up.refl g (.bl _)
    | some dd =>
      obtain ⟨u, v, hu, _, _⟩ := (hz z).2 dd hl
      refine ⟨z, some u, rfl, hu, ?_⟩
      rw [hl] at q
      exact q _ F as H1 Up.refl g (.bl _)
theorem je_kin (h : KCon κ x kvs) (ha : JE κ a ca) (hg : Gl κ.X x) (hd : (x == ("__debug__" : Str)) = false := by decide) (hm : behindInMarks .In (.Name x p) = false := by rfl) : JE κ (.Compare a [.In] [.Name x p] pos) (.kin false ca n kvs) := by
  obtain ⟨d, es, m, D, hmg, hz⟩ := h.ex
  refine PE.weak (pe_cmpR (op_in_kd D) ha (pe_glob hg hmg (v := .ref d) rfl hd) hm) fun σ H Q t => ?_
  refine tM_weak (kin_at hz t) fun y H1 hq => ?_
  obtain ⟨z, r, rfl, e, q⟩ := hq
  exact ⟨z, r, rfl, rfl, e, q⟩
theorem je_knin (h : KCon κ x kvs) (ha : JE κ a ca) (hg : Gl κ.X x) (hd : (x == ("__debug__" : Str)) = false := by decide) (hm : behindInMarks .NotIn (.Name x p) = false := by rfl) : JE κ (.Compare a [.NotIn] [.Name x p] pos) (.kin true ca n kvs) := by
  obtain ⟨d, es, m, D, hmg, hz⟩ := h.ex
  refine PE.weak (pe_cmpR (op_notIn_kd D) ha (pe_glob hg hmg (v := .ref d) rfl hd) hm) fun σ H Q t => ?_
  refine tM_weak (kin_at hz t) fun y H1 hq => ?_
  obtain ⟨z, r, rfl, e, q⟩ := hq
  exact ⟨z, r, rfl, rfl, e, q⟩
theorem jt_knin (h : KCon κ x kvs) (ha : JE κ a ca) (hg : Gl κ.X x) (hd : (x == ("__debug__" : Str)) = false := by decide) (hm : behindInMarks .NotIn (.Name x p) = false := by rfl) : JT κ (.Compare a [.NotIn] [.Name x p] pos) (.tst (.kin true ca n kvs)) := by
  obtain ⟨d, es, m, D, hmg, hz⟩ := h.ex
  refine PT.weak (pt_cmpR (op_notIn_kd D) ha (pe_glob hg hmg (v := .ref d) rfl hd) hm) fun σ H Q t => ?_
  refine tM_weak (kin_at hz (t_tst t)) fun y H1 hq => ?_
  obtain ⟨z, r, rfl, e, q⟩ := hq
  exact ⟨z, r, rfl, rfl, e, q⟩
theorem je_kix (h : KCon κ x kvs) (hb : JE κ b cb) (hg : Gl κ.X x) (hd : (x == ("__debug__" : Str)) = false := by decide) (hs : PlainIx b := by intro _ _; rfl) : JE κ (.Subscript (.Name x p) b pos) (.kix n kvs cb) := by
  obtain ⟨d, es, m, D, hmg, hz⟩ := h.ex
  refine PE.weak (pe_ix ix_kdict (pe_glob hg hmg (v := .ref d) rfl hd) hb hs) fun σ H Q t => ?_
  refine tM_bind (R := RepL κ.G) (S := RepL κ.G) (k := fun v e => EM.bind (peek v) fun dx => EM.o (((kget kvs dx).bind id).map .d)) t fun y Z F as e M H1 va re g ra o => ?_
  obtain ⟨dx, M1, e1, o1⟩ := o.got fun _ _ => peek_nx
  obtain ⟨v2, ev, q⟩ := o1.o
  obtain ⟨dd, e2, rfl⟩ := Option.map_eq_some_iff.mp ev
  obtain ⟨o3, e3, e4⟩ := Option.bind_eq_some_iff.mp e2
  obtain ⟨rfl, z, rfl, rfl, rfl⟩ := kget_ok g ra e1 e3
  obtain ⟨u, v, hu, rv, rd⟩ := (hz z).2 dd e4
  exact ⟨d, z, v, rfl, rfl, ⟨es, m, u, D.at_, D.lit, hu, rv⟩, q _ F as H1 Up.refl g (rd F)⟩
end
/-- m of the class at C is a static method over the def at g -/
structure SMet (K : PySem.W.Frag) (C : Addr) (m : Str) (g : Addr) : Prop where
  ex : ∃ mc p rest, PySem.W.readsIn K C mc = true ∧ PySem.W.findCls K (.ref C) mc m = some (.get (.builtin "staticmethod.__get__") (.ref p) .none (.ref C)) ∧ PySem.W.recIn K p "staticmethod" = some (.ref g :: rest)
  ga : PySem.W.specialIn K (.ref C) "__getattribute__" = some (some (.builtin "type.__getattribute__"))
section
variable {κ : Kx} {e : Expr} {es : List Expr} {cs : CL} {pos p apos : Pos} {x m : Str} {C : Addr} {f : Nat} {pl : Sem Bool}
theorem je_smet (sm : SMet κ.X.K C m (κ.G.fa f)) (k : Cal κ (.fn f) (.ref (κ.G.fa f))) (hg : Gl κ.X x) (hm : κ.X.mg x = some (.ref C)) (ha : JA κ (e :: es) cs) (hd : (x == ("__debug__" : Str)) = false := by decide)
    (he : starEach (e :: es) κ.X.env = (false, eval e κ.X.env) :: starEach es κ.X.env := by rfl) (hp : (backTo pos (starEach es κ.X.env)).any (·.1) = false := by rfl)
    (ht : eval (.Call (.Attribute (.Name x p) m apos) (e :: es) [] pos) κ.X.env = (do
      let ov ← eval (.Name x p) κ.X.env
      standAt apos.atName
      let (f, first) ← holding [ov] (getMethod ov m pl)
      callWith pos f first (backTo pos (starEach (e :: es) κ.X.env)) (backToKw pos (keywordEach [] κ.X.env))) := by rfl) : JE κ (.Call (.Attribute (.Name x p) m apos) (e :: es) [] pos) (.call (.fn f) cs) := by
  obtain ⟨mc, q, rest, h1, h2, h3⟩ := sm.ex
  refine ⟨fun pins s σ H Q I t => ?_⟩
  refine PySem.W.methodCall_KW (pl := pl) (ld_glob I hg hm ?_ hd) ht
  refine PySem.W.method_cls I.kIn sm.ga (PySem.W.cls_bind I.kIn h1 h2 ?_)
  refine wpAny_call (PySem.W.sm_get (s := { s with toks := s.toks + 1 }) I.kIn h3 (PySem.W.handed_on rfl ?_))
  have I0 := I.tok (s.toks + 1)
  refine PySem.W.callWith_K (h₀ := κ.X.base) I.ok.mod.kin k.kp (thn (ha.run pos pins _ σ H _ I0 (tM_bind (R := RepLs κ.G) (Q := fun vs H1 => ∃ Z F as ds M, RepLs κ.G F as vs ds ∧ Good κ.G Z F as M H1 ∧ Out κ.G Z F as (RepL κ.G) Q (fun c d H' => κ.W c d σ H') (callN κ.P κ.n (.fn f) ds M)) (k := fun vs e => κ.cl (.fn f) vs) t fun vs Z F as e M H1 ds re g rs o => ⟨Z, F, as, ds, M, rs, g, o⟩)) fun us s1 ⟨vs, H1, I1, r, Z, F, as, ds, M, rs, g, o⟩ => ⟨I1.kIn, ?_⟩) he hp
  exact k.run I1 r rs g o
end
theorem strb_comm (z y : Str) : (z == y) = (y == z) := by
  rw [Bool.eq_iff_iff, beq_iff_eq, beq_iff_eq]
  exact eq_comm
/-- an entry of a written dict -/
structure DEnt where
  k : Str
  v : Value
  h : Int
  t : Tok
def DEnt.e (q : DEnt) : DictEntry := ⟨q.h, .str q.k q.t, q.v⟩
theorem ns_go (z : Str) : ∀ L : List DEnt, (L.map DEnt.e).find? (·.key.isStr z) = (L.find? fun q => q.k == z).map DEnt.e ∧ (L.map DEnt.e).any (·.refKey) = false
  | [] => ⟨rfl, rfl⟩
  | q :: L => by
    obtain ⟨i1, i2⟩ := ns_go z L
    refine ⟨?_, ?_⟩
    · rw [List.map_cons, List.find?_cons, List.find?_cons]
      have : q.e.key.isStr z = (q.k == z) := rfl
      rw [this]
      cases q.k == z
      · exact i1
      · rfl
    · rw [List.map_cons, List.any_cons, i2]
      rfl
theorem ns_of {K : PySem.W.Frag} {d : Addr} {c : Value} {dd : Option Addr} {n : Nat} {sl : Array (Option Value)} (L : List DEnt) (e : K.lookup d = some ⟨c, dd, .dict (L.map DEnt.e).toArray n, sl⟩) (z : Str) : PySem.W.nsIn K d z = some ((L.find? fun q => q.k == z).map (·.v)) := by
  obtain ⟨i1, i2⟩ := ns_go z L
  unfold PySem.W.nsIn
  rw [e]
  simp only [i1]
  cases L.find? fun q => q.k == z with
  | none =>
    simp only [Option.map_none, i2]
    rfl
  | some q => rfl
section
variable {κ : Kx} {pos : Pos}
theorem je_dict0 : JE κ (.Dict [] [] pos) (.con (.dic [])) :=
  PE.weak pe_dnewK fun σ H Q t => by
    obtain ⟨Z, F, as, e, M, re, g, o⟩ := t
    intro p hp
    obtain ⟨g4, u4⟩ := g.lay (o := .dK []) hp
    exact o _ _ _ _ u4 g4 (show Rep κ.G _ _ _ from .dic (upd_same ..) .nil)
end
end TD
set_option Elab.async false
set_option linter.all false
set_option maxRecDepth 100000
set_option maxHeartbeats 3200000
/-! TD, part V: own len, in, [], ==. -/
namespace TD
open PySem L2
section
variable {κ : Kx} {pins : List (Addr × Obj)} {σ : L2.St} {H : Hp} {s : Shared} {Q : VK} {us : List Value} {vs : List V}
/-- a call one level down, in a built-in -/
theorem run_low (h : Ok κ) {k f : Nat} (hk : k + 1 ≤ κ.n) (I : Inv κ.X pins σ H s) (r : Vals vs us) (q : spF κ.G κ.P k f vs H Q (fun c d H' => κ.W c d σ H')) :
    wpAny (model κ.X.prog κ.X.w) κ.X.A.in1 (call (.ref (κ.G.fa f)) us) (EP κ.X pins σ Q) κ.X.xe s := by
  have run := h.fn k (by omega) f κ.X.A.in1 κ.X.stack s H us vs Q _ (h.room.mono hk).in1 h.gd I.env0.in1 r q
  refine wpAny_call (codeAny_mono run fun res s' hres => ?_)
  match res, hres with
  | .error e, hres => exact h.tk e s' (XE.of_call I (fun _ _ _ z => z) hres)
  | .ok (.ret _), hres => exact I.after hres
  | .ok .next, hres => exact hres.elim
  | .ok .brk, hres => exact hres.elim
  | .ok .cont, hres => exact hres.elim
end
theorem metE_got {T : Tab} {m : Str} {v : Vl} {M M1 : Mem} {f : Nat} (e : metE T m v M = some (.ok f, M1)) : M1 = M ∧ metOf T m v M = some f := by
  unfold metE at e
  cases q : metOf T m v M with
  | none => rw [q] at e; cases e
  | some g => rw [q] at e; cases e; exact ⟨rfl, rfl⟩
/-- a call that does not raise here -/
theorem noEx_out {G : GG} {Z F : Hp} {as : List Addr} {α β γ δ : Type} {R : Hp → List Addr → β → α → Prop} {S : Hp → List Addr → δ → γ → Prop} {Q : β → Hp → Prop} {T : δ → Hp → Prop} {E E' : XK} {M : Mem} {m : EM α} {k : α → EM γ}
    (h : Out G Z F as S T E (EM.bind (noEx m) k M)) (f : ∀ b F' as' H' a M', Up F as F' as' → Good G Z F' as' M' H' → R F' as' b a → Out G Z F' as' S T E (k a M') → Q b H') : Out G Z F as R Q E' (m M) := by
  unfold EM.bind noEx at h
  cases e : m M with
  | none => rw [e] at h; exact h
  | some r =>
    obtain ⟨r, M1⟩ := r
    rw [e] at h
    cases r with
    | ok a => exact fun b F' as' H' u g r => f b F' as' H' a M1 u g r (Out.up u h)
    | ex x => exact h.elim
section
variable {κ : Kx}
def rO2 (κ : Kx) (f : Vl → Vl → EM Vl) : V → V → Hp → VK → Prop := fun x y H Q => ∃ E Z F as va vb M, Good κ.G Z F as M H ∧ RepL κ.G F as x va ∧ RepL κ.G F as y vb ∧ Out κ.G Z F as (RepL κ.G) Q E (f va vb M)
theorem oin_out {neg : Bool} {Z F : Hp} {as : List Addr} {va vb : Vl} {M : Mem} {Q : VK} {E E' : XK} {f : Nat} (o : Out κ.G Z F as (RepL κ.G) Q E (EM.bind (noEx (κ.cl (.fn f) [vb, va])) (fun r => EM.bind (boolOf r) fun k => EM.pure (.d (.bl (if neg then !k else k)))) M)) :
    Out κ.G Z F as (RepL κ.G) (fun r H' => ∃ k, r = .bl k ∧ Q (.bl (if neg then !k else k)) H') E' (callN κ.P κ.n (.fn f) [vb, va] M) :=
  noEx_out (R := RepL κ.G) o fun b F' as' H' a M' u g r o2 => by
    obtain ⟨k, hk, o3⟩ := Out.bool r o2
    exact ⟨k, hk, o3 _ F' as' H' Up.refl g (.bl _)⟩
theorem op_oin (h : Ok κ) : OpR κ.X (compareOp .In) (rO2 κ (oinV κ.P.T κ.cl false)) := by
  intro pins s σ H x y v u Q I rx ry hr
  obtain ⟨E, Z, F, as, va, vb, M, g, ra, rb, o⟩ := hr
  unfold oinV at o
  obtain ⟨f, M1, e1, o1⟩ := o.got fun _ _ => metE_nx
  obtain ⟨rfl, e2⟩ := metE_got e1
  obtain ⟨c, p, dx, fs, rfl, hp, hm, hcl, hme, hsh⟩ := met_ok2 h g rb e2
  obtain rfl : u = Value.ref p := ry
  obtain ⟨mA, O, _⟩ := ins_get I.hok hp
  obtain ⟨od, J, _⟩ := O.look
  obtain ⟨m, hF⟩ := I.fr
  refine PySem.W.in_K hF I.ok.mod.kin J hme.at_ hme.fn (thn (run_at h (Nat.le_refl _) I (us := [.ref p, v]) (vs := [.ref p, x]) (.cons rfl (.cons rx .nil)) ⟨Z, F, as, [vb, va], _, .cons rb (.cons ra .nil), g, oin_out o1⟩) fun w s3 hw => ?_)
  obtain ⟨r, H3, I3, rr, k, rfl, q⟩ := hw
  obtain rfl : w = Value.bool k := rr
  exact wpAny_truthy_bool ⟨.bl k, H3, I3, rfl, q⟩
theorem op_onin (h : Ok κ) : OpR κ.X (compareOp .NotIn) (rO2 κ (oinV κ.P.T κ.cl true)) := by
  intro pins s σ H x y v u Q I rx ry hr
  obtain ⟨E, Z, F, as, va, vb, M, g, ra, rb, o⟩ := hr
  unfold oinV at o
  obtain ⟨f, M1, e1, o1⟩ := o.got fun _ _ => metE_nx
  obtain ⟨rfl, e2⟩ := metE_got e1
  obtain ⟨c, p, dx, fs, rfl, hp, hm, hcl, hme, hsh⟩ := met_ok2 h g rb e2
  obtain rfl : u = Value.ref p := ry
  obtain ⟨mA, O, _⟩ := ins_get I.hok hp
  obtain ⟨od, J, _⟩ := O.look
  obtain ⟨m, hF⟩ := I.fr
  refine PySem.W.notIn_K hF I.ok.mod.kin J hme.at_ hme.fn (thn (run_at h (Nat.le_refl _) I (us := [.ref p, v]) (vs := [.ref p, x]) (.cons rfl (.cons rx .nil)) ⟨Z, F, as, [vb, va], _, .cons rb (.cons ra .nil), g, oin_out o1⟩) fun w s3 hw => ?_)
  obtain ⟨r, H3, I3, rr, k, rfl, q⟩ := hw
  obtain rfl : w = Value.bool k := rr
  exact wpAny_truthy_bool ⟨.bl (!k), H3, I3, rfl, q⟩
variable {a b : Expr} {ca cb : CE} {pos : Pos}
theorem w_oin {neg : Bool} {σ : L2.St} {H : Hp} {Q : VK} (t : tM κ.G κ.hx κ.W (RepL κ.G) (runE κ.P.T κ.P.rp κ.cl (.oin neg ca cb)) σ H Q) : tOp (rO2 κ (oinV κ.P.T κ.cl neg)) (κ.rE ca) (κ.rE cb) σ H Q :=
  tM_bind (R := RepL κ.G) (S := RepL κ.G) (k := fun x e => EM.bind (runE κ.P.T κ.P.rp κ.cl cb e) fun y => oinV κ.P.T κ.cl neg x y) t fun x Z F as e M H1 va re g ra o => ⟨Z, F, as, e, M, re, g, o.bind fun y F2 as2 H2 vb M2 _ u2 g2 rb o2 => ⟨_, Z, F2, as2, va, vb, M2, g2, ra.mono u2, rb, o2⟩⟩
theorem je_oin (h : Ok κ) (ha : JE κ a ca) (hb : JE κ b cb) (hm : behindInMarks .In b = false := by rfl) : JE κ (.Compare a [.In] [b] pos) (.oin false ca cb) := PE.weak (pe_cmpR (op_oin h) ha hb hm) fun σ H Q t => w_oin t
theorem jt_oin (h : Ok κ) (ha : JE κ a ca) (hb : JE κ b cb) (hm : behindInMarks .In b = false := by rfl) : JT κ (.Compare a [.In] [b] pos) (.tst (.oin false ca cb)) := PT.weak (pt_cmpR (op_oin h) ha hb hm) fun σ H Q t => w_oin (t_tst t)
theorem je_onin (h : Ok κ) (ha : JE κ a ca) (hb : JE κ b cb) (hm : behindInMarks .NotIn b = false := by rfl) : JE κ (.Compare a [.NotIn] [b] pos) (.oin true ca cb) := PE.weak (pe_cmpR (op_onin h) ha hb hm) fun σ H Q t => w_oin t
theorem jt_onin (h : Ok κ) (ha : JE κ a ca) (hb : JE κ b cb) (hm : behindInMarks .NotIn b = false := by rfl) : JT κ (.Compare a [.NotIn] [b] pos) (.tst (.oin true ca cb)) := PT.weak (pt_cmpR (op_onin h) ha hb hm) fun σ H Q t => w_oin (t_tst t)
/-- what is known of the classes with an own == -/
structure OkQ (κ : Kx) : Prop where
  nf : ∀ c f, κ.P.T.met c "__eq__" = some f → ∀ d, (∀ c fs, d ≠ .obj c fs) → PySem.W.notFirst κ.X.K (κ.G.cl c) (tyD κ.G d) = true
theorem op_oeq (h : Ok κ) (hi : OkI κ) (hq : OkQ κ) : OpR κ.X (compareOp .Eq) (rO2 κ (oeqV κ.P.T κ.cl)) := by
  intro pins s σ H x y v u Q I rx ry hr
  obtain ⟨E, Z, F, as, va, vb, M, g, ra, rb, o⟩ := hr
  unfold oeqV at o
  cases q1 : metOf κ.P.T "__eq__" va M with
  | none => rw [q1] at o; exact o.elim
  | some f =>
    rw [q1] at o
    simp only at o
    obtain ⟨c, p, dx, fs, rfl, hp, hm, hcl, hme, hsh⟩ := met_ok2 h g ra q1
    obtain rfl : v = Value.ref p := rx
    obtain ⟨mA, O, _⟩ := ins_get I.hok hp
    obtain ⟨od, J, _⟩ := O.look
    obtain ⟨m, hF⟩ := I.fr
    have go : (κ.P.T.isb c c = true) → (∀ d, shape vb M = some d → (∃ fs, d = .obj c fs) ∨ ∀ c fs, d ≠ .obj c fs) → (∃ d, shape vb M = some d) → Out κ.G Z F as (RepL κ.G) Q E (noEx (callN κ.P κ.n (.fn f) [va, vb]) M) → wpAny (model κ.X.prog κ.X.w) κ.X.A (compareOp .Eq (.ref p) u) (EP κ.X pins σ Q) κ.X.xe s := by
      intro hcc hall ⟨d, hd⟩ o
      have ht : TyX κ.X.K H y (tyD κ.G d) := shape_ok h.toOk1.toOk0 hi g rb hd fun c' fs' e => by
        rcases hall d hd with ⟨fs2, e2⟩ | hno
        · rw [e2] at e
          cases e
          exact hcc
        · exact (hno c' fs' e).elim
      obtain ⟨Pp, kx, hP, _⟩ := kit_of I ry ht
      have o2 : Out κ.G Z F as (RepL κ.G) Q (fun c d H' => κ.W c d σ H') (callN κ.P κ.n (.fn f) [va, vb] M) := by
        unfold noEx at o
        cases e : callN κ.P κ.n (.fn f) [va, vb] M with
        | none => rw [e] at o; exact o
        | some r =>
          obtain ⟨r, M1⟩ := r
          rw [e] at o
          cases r with
          | ok w => exact o
          | ex w => exact o.elim
      refine PySem.W.cmp_K (op := .Eq) (tb := tyD κ.G d) h.room.units0 hF I.ok.mod.kin J (kx.ty _ _ I.kIn hP) ?_ hme.at_ hme.fn (thn (run_at h (Nat.le_refl _) I (us := [.ref p, u]) (vs := [.ref p, y]) (.cons rfl (.cons ry .nil)) ⟨Z, F, as, [va, vb], M, .cons ra (.cons rb .nil), g, o2⟩) fun w s3 hw => cmpBack_of hw)
      rcases hall d hd with ⟨fs2, e2⟩ | hno
      · rw [e2]
        simp [PySem.W.notFirst, tyD]
      · exact hq.nf c f hm d hno
    cases q2 : shape vb M with
    | none => simp only [q2] at o; exact o.elim
    | some d =>
      rw [q2] at o
      cases q3 : shape va M with
      | none => rw [q3] at o; cases d <;> exact o.elim
      | some d3 =>
        obtain ⟨fs3, rfl⟩ := hsh d3 q3
        rw [q3] at o
        cases d with
        | obj c2 fs2 =>
          simp only at o
          split at o
          · rename_i hc
            simp only [Bool.and_eq_true, decide_eq_true_eq] at hc
            obtain ⟨rfl, hcc⟩ := hc
            exact go hcc (fun d hd => by rw [q2] at hd; cases hd; exact .inl ⟨_, rfl⟩) ⟨_, q2⟩ o
          · exact o.elim
        | _ =>
          simp only at o
          split at o
          · rename_i hcc
            exact go hcc (fun d hd => by rw [q2] at hd; cases hd; exact .inr (fun _ _ z => by cases z)) ⟨_, q2⟩ o
          · exact o.elim
theorem w_oeq {σ : L2.St} {H : Hp} {Q : VK} (t : tM κ.G κ.hx κ.W (RepL κ.G) (runE κ.P.T κ.P.rp κ.cl (.oeq ca cb)) σ H Q) : tOp (rO2 κ (oeqV κ.P.T κ.cl)) (κ.rE ca) (κ.rE cb) σ H Q :=
  tM_bind (R := RepL κ.G) (S := RepL κ.G) (k := fun x e => EM.bind (runE κ.P.T κ.P.rp κ.cl cb e) fun y => oeqV κ.P.T κ.cl x y) t fun x Z F as e M H1 va re g ra o => ⟨Z, F, as, e, M, re, g, o.bind fun y F2 as2 H2 vb M2 _ u2 g2 rb o2 => ⟨_, Z, F2, as2, va, vb, M2, g2, ra.mono u2, rb, o2⟩⟩
theorem je_oeq (h : Ok κ) (hi : OkI κ) (hq : OkQ κ) (ha : JE κ a ca) (hb : JE κ b cb) (hm : behindInMarks .Eq b = false := by rfl) : JE κ (.Compare a [.Eq] [b] pos) (.oeq ca cb) := PE.weak (pe_cmpR (op_oeq h hi hq) ha hb hm) fun σ H Q t => w_oeq t
theorem jt_oeq (h : Ok κ) (hi : OkI κ) (hq : OkQ κ) (ha : JE κ a ca) (hb : JE κ b cb) (hm : behindInMarks .Eq b = false := by rfl) : JT κ (.Compare a [.Eq] [b] pos) (.tst (.oeq ca cb)) := PT.weak (pt_cmpR (op_oeq h hi hq) ha hb hm) fun σ H Q t => w_oeq (t_tst t)
end
section
variable {κ : Kx} {a b : Expr} {ca cb : CE} {pos p : Pos}
/-- len(a), a an object with an own __len__ -/
theorem je_olen (h : Ok κ) (hg : Gl κ.X "len") (hm : κ.X.mg "len" = none) (ha : JE κ a ca) (na : starEach [a] κ.X.env = (false, eval a κ.X.env) :: starEach [] κ.X.env := by rfl) (hpl : (backTo pos (starEach [] κ.X.env)).any (·.1) = false := by rfl) : JE κ (.Call (.Name "len" p) [a] [] pos) (.olen ca) := by
  refine ⟨fun pins s σ H Q I t => ?_⟩
  refine PyProof.Rows.Call_ (ld_blt I hg hm boot_len ?_)
  have t2 := tM_bind (R := RepL κ.G) (S := RepL κ.G) (Q := fun x H1 => ∃ Z F as va M, Good κ.G Z F as M H1 ∧ RepL κ.G F as x va ∧ Out κ.G Z F as (RepL κ.G) Q (fun c d H' => κ.W c d σ H') (olenV κ.P.T κ.cl va M)) (k := fun x e => olenV κ.P.T κ.cl x) t fun x Z F as e M H1 va re g ra o => ⟨Z, F, as, va, M, g, ra, o⟩
  refine PyProof.Rows.callWith_builtin1 (PyProof.Rows.args_cons (thn (ha.run pins s σ H _ I t2) fun v s1 ⟨x, H1, I1, r1, Z, F, as, va, M, g, ra, o⟩ => PyProof.Rows.args_nil ?_) na) na hpl
  unfold olenV at o
  obtain ⟨f, M1, e1, o1⟩ := o.got fun _ _ => metE_nx
  obtain ⟨rfl, e2⟩ := metE_got e1
  obtain ⟨c, q, dx, fs, rfl, hp, hm2, hcl, hme, hsh⟩ := met_ok2 h g ra e2
  obtain rfl : v = Value.ref q := r1
  obtain ⟨mA, O, _⟩ := ins_get I1.hok hp
  obtain ⟨od, J, _⟩ := O.look
  obtain ⟨m, hF⟩ := I1.fr
  cases hn : κ.n with
  | zero =>
    have : callN κ.P κ.n (.low f) [va] M1 = none := by rw [hn]; rfl
    unfold EM.bind noEx at o1
    rw [show κ.cl (.low f) [va] M1 = none from this] at o1
    exact o1.elim
  | succ k =>
    have ek : callN κ.P κ.n (.low f) [va] = callN κ.P k (.fn f) [va] := by rw [hn]; rfl
    have o2 : Out κ.G Z F as (RepL κ.G) (fun r H' => ∃ i : Int, r = .int i ∧ 0 ≤ i ∧ i < 2 ^ 63 ∧ Q (.int i) H') (fun c d H' => κ.W c d σ H') (callN κ.P k (.fn f) [va] M1) := by
      rw [← ek]
      exact noEx_out (R := RepL κ.G) o1 fun b F' as' H' w M' u g' r o3 => by
        unfold lenOk at o3
        split at o3
        · rename_i i
          split at o3
          · rename_i hc
            simp only [Bool.and_eq_true, decide_eq_true_eq] at hc
            have hb : b = .int i := by cases (show Rep κ.G F' b (.int i) from r); rfl
            subst hb
            exact ⟨i, rfl, hc.1, hc.2, o3 _ F' as' H' Up.refl g' (.int _)⟩
          · exact o3.elim
        · exact o3.elim
    refine PySem.W.len_K hF I1.ok.mod.kin J hme.at_ hme.fn (thn (run_low h (by omega) I1 (us := [.ref q]) (vs := [.ref q]) (.cons rfl .nil) ⟨Z, F, as, [va], _, .cons ra .nil, g, o2⟩) fun w s3 hw => ?_)
    obtain ⟨r, H3, I3, rr, i, rfl, h0, h1, qq⟩ := hw
    obtain ⟨tk, rfl⟩ := rr
    exact ⟨⟨h0, h1⟩, .int i, H3, I3.tok _, ⟨_, rfl⟩, qq⟩
/-- a[b], a an object with an own __getitem__ -/
theorem je_oix (h : Ok κ) (hfn : ∀ c f, κ.P.T.met c "__getitem__" = some f → PySem.W.fnIn κ.X.K (κ.G.fa f) = true) (ha : JE κ a ca) (hb : JE κ b cb)
    (hsl : ∀ v u : Value, subscripted b true v u = runValue (.builtin "lifetime.subscript" ⟨[v, u], []⟩) := by intro _ _; with_unfolding_all rfl) : JE κ (.Subscript a b pos) (.oix ca cb) := by
  refine ⟨fun pins s σ H Q I t => ?_⟩
  refine PyProof.Rows.Subscript_ (binT ha hb I (R := fun x y H2 => ∃ Z F as va vb M, Good κ.G Z F as M H2 ∧ RepL κ.G F as x va ∧ RepL κ.G F as y vb ∧ Out κ.G Z F as (RepL κ.G) Q (fun c d H' => κ.W c d σ H') (oixV κ.P.T κ.cl va vb M)) (tM_bind (R := RepL κ.G) (S := RepL κ.G) (k := fun x e => EM.bind (runE κ.P.T κ.P.rp κ.cl cb e) fun y => oixV κ.P.T κ.cl x y) t fun x Z F as e M H1 va re g ra o => ⟨Z, F, as, e, M, re, g, o.bind fun y F2 as2 H2 vb M2 _ u2 g2 rb o2 => ⟨Z, F2, as2, va, vb, M2, g2, ra.mono u2, rb, o2⟩⟩) fun v u s2 x y H2 I2 rx ry q => ?_)
  obtain ⟨Z, F, as, va, vb, M, g, ra, rb, o⟩ := q
  unfold oixV at o
  obtain ⟨f, M1, e1, o1⟩ := o.got fun _ _ => metE_nx
  obtain ⟨rfl, e2⟩ := metE_got e1
  obtain ⟨c, q, dx, fs, rfl, hp, hm2, hcl, hme, hsh⟩ := met_ok2 h g ra e2
  obtain rfl : v = Value.ref q := rx
  obtain ⟨mA, O, _⟩ := ins_get I2.hok hp
  obtain ⟨od, J, _⟩ := O.look
  obtain ⟨m, hF⟩ := I2.fr
  cases hn : κ.n with
  | zero =>
    have : callN κ.P κ.n (.low f) [va, vb] M1 = none := by rw [hn]; rfl
    rw [show κ.cl (.low f) [va, vb] M1 = none from this] at o1
    exact o1.elim
  | succ k =>
    have ek : callN κ.P κ.n (.low f) [va, vb] = callN κ.P k (.fn f) [va, vb] := by rw [hn]; rfl
    rw [show κ.cl (.low f) [va, vb] M1 = callN κ.P k (.fn f) [va, vb] M1 by rw [← ek]] at o1
    exact PySem.W.sub_K hF I2.ok.mod.kin J hme.at_ (hfn c f hm2) hme.fn (run_low h (by omega) I2 (us := [.ref q, u]) (vs := [.ref q, y]) (.cons rfl (.cons ry .nil)) ⟨Z, F, as, [va, vb], _, .cons ra (.cons rb .nil), g, o1⟩) (hsl _ _)
end
end TD
set_option Elab.async false
set_option linter.all false
set_option maxRecDepth 100000
set_option maxHeartbeats 3200000
/-! TD, part W: several clauses «except x as n». -/
namespace TD
open PySem L2
abbrev HdL := List (Value × Nat × (Addr → Value → Option Addr → TS))
def wMas (K : PySem.W.Frag) (Wo : WX) (D : Ends) : HdL → WX
  | [] => Wo
  | (c, i, ts) :: r => fun cls d σ H => ∃ b, PySem.W.exmOne K cls c = some b ∧
      (b = true → ∀ a, H a = none → ts a cls d { nx := fun σ2 H2 => D.nx (σ2.set i none) H2, rt := D.rt, bk := fun σ2 H2 => D.bk (σ2.set i none) H2, ct := fun σ2 H2 => D.ct (σ2.set i none) H2 } (σ.set i (some (.ref a))) H) ∧
      (b = false → wMas K Wo D r cls d σ H)
inductive HdAs (X : Cx) : List ExceptHandler → HdL → Prop
  | nil : HdAs X [] []
  | cons {x n : Str} {c : Value} {i : Nat} {ts : Addr → Value → Option Addr → TS} {b0 : Stmt} {su : List Stmt} {np p2 : Pos} {hds : List ExceptHandler} {l : HdL} (hi : X.N[i]? = some n) (hln : X.env.kindOf n = some .local) (hc : Names X x c)
      (hsu : ∀ (a : Addr) (oe : Obj) (cls : Value) (d : Option Addr) (pn : List (Addr × Obj)), Zc cls d oe → (∃ vs, oe.data = .fields vs) → PSs (X.suite a ((a, oe) :: pn)) (b0 :: su) (ts a cls d)) (r : HdAs X hds l) :
      HdAs X (.ExceptHandler (some (.Name x np)) (some n) (b0 :: su) p2 :: hds) ((c, i, ts) :: l)
section
variable {X : Cx} {body : List Stmt} {hd0 : ExceptHandler} {hds : List ExceptHandler} {l : HdL} {pos : Pos} {tb : WX → TS} {Wo : WX}
theorem ps_try_mas (hs : X.stack = X.env :: X.outer) (hf : X.env.frame = some X.env.locals) (hN : X.N.Nodup) (tk : Takes X Wo)
    (hb : ∀ (W : WX) (pn : List (Addr × Obj)) (xe : Value → Shared → Prop), Takes (X.tr pn xe) W → PassesOwn (model X.prog X.w) X.A X.env xe → PSs (X.tr pn xe) body (tb W))
    (hh : HdAs X (hd0 :: hds) l) : PS X (.Try body (hd0 :: hds) [] [] pos) (fun D σ H => tb (wMas X.K Wo D l) D σ H) := by
  refine ⟨fun pins s σ H D I h => ?_⟩
  have ok := I.ok
  have hfr : X.A.frames = some (X.env :: X.outer) := by rw [ok.frames, hs]
  refine wpAny_Try_except ?_
  refine wpAny_mono ((hb (wMas X.K Wo D l) (X.pn ++ pins) (fun e t1 => wpAny (model X.prog X.w) X.A (noteFrame e X.env) (fun _ t2 => wpAny (model X.prog X.w) X.A (setFlight e none) (fun _ t3 =>
    wpAny (model X.prog X.w) X.A (handleBy e X.env (hd0 :: hds)) (SP X pins D) X.xe t3) X.xe t2) X.xe t1) (fun u s2 xx => ?_) PassesOwn.looking).run [] s σ H D (I.toTry _) h) (fun f s1 hsp => ?_) (fun e s1 he => he)
  · obtain ⟨a, B, sI, pins2, σ2, H2, cls, d, rfl, J0, nb, up, sky, na, os, ag, w⟩ := xx
    have J : Inv X pins σ2 H2 sI := J0.ofTry ok
    have sky2 : Sky B (X.env :: X.outer) a (Zc cls d) X.env.locals s2.heap := by rw [← hs]; exact sky
    show wpAny (model X.prog X.w) X.A (noteFrame (.ref a) X.env) _ _ _
    refine Sky.land Zc.steady hfr hf sky2 fun h3 fl3 up3 => ?_
    have J3 : Inv X pins σ2 H2 { s2 with heap := h3 } := J.landed nb fl3.1 (up.trans up3) os ag
    obtain ⟨oe3, vs3, he3, hz3, hd3⟩ := fl3.there
    have nfr : a ∉ frs (X.env :: X.outer) := fun hm => by
      obtain ⟨_, o2, e2, hnf⟩ := fl3.2.2.1.mem hm
      rw [he3] at e2; cases e2
      exact hnf _ hd3
    have nL : a ≠ X.env.locals := fun z => nfr (List.mem_filterMap.mpr ⟨X.env, List.mem_cons_self, by rw [hf, z]⟩)
    have nF : a ∉ X.fs := fun hm => by
      obtain ⟨e, he, q⟩ := List.mem_filterMap.mp hm
      exact nfr (List.mem_filterMap.mpr ⟨e, List.mem_cons_of_mem _ he, q⟩)
    have S3 := J3.suite he3 hd3 na nL nF
    have go : ∀ {hs2 : List ExceptHandler} {l2 : HdL}, HdAs X hs2 l2 → wMas X.K Wo D l2 cls d σ2 H2 → wpAny (model X.prog X.w) X.A (handleBy (.ref a) X.env hs2) (SP X pins D) X.xe { s2 with heap := h3 } := by
      intro hs2 l2 hk
      induction hk with
      | nil =>
        intro w
        refine wpAny_handleBy_nil ?_
        obtain ⟨k1, k2, k3, oe, vs, T, oT, ts2, he, hz, hd, h1, hr⟩ := id fl3
        unfold PySem.passOn
        refine wpAny_bind (wpAny_field he hd h1 ?_)
        rw [if_neg (show ¬ ((Value.ref T == Value.none) = true) from by simp)]
        have fin : wpAny (model X.prog X.w) X.A (setFlight (.ref a) X.env.frame) (fun _ s4 => wpAny (model X.prog X.w) X.A (throw (.ref a) : Sem Flow) (SP X pins D) X.xe s4) X.xe { s2 with heap := h3 } := by
          rw [hf]
          refine HandSPX.setFlight_upZ fl3 fun h4 hh4 up4 => wpAny_throw (tk _ _ ?_)
          exact ⟨a, B, sI, pins, σ2, H2, cls, d, rfl, J, nb, (up.trans up3).trans up4, .inr (.inr (by rw [hs]; exact hh4)), na, os, ag, w⟩
        first
          | exact wpAny_bind (wpAny_pure (wpAny_bind fin))
          | exact wpAny_bind fin
      | @cons x n c i ts b0 su np p2 hs3 l3 hi hln hc hsu r ih =>
        intro w
        obtain ⟨b, hb1, hyes, hno⟩ := w
        have hloc : Loc X.env.scope n := .inl hln
        refine wpAny_handleBy_cons (codeAny_handlers_test ?_) (by intro q; cases q)
        have LT : PySem.W.Looks (model X.prog X.w) h3 (typeOf (.ref a)) cls := fun A Q E t k q => wpAny_typeOf_ref (k _ _ he3) (by rw [hz3.1]; exact q)
        have LM := PySem.W.exm_one (M := model X.prog X.w) (J3.kIn) LT hb1
        have test : ∀ {Q : Value → Shared → Prop} {E : Value → Shared → Prop}, Q c { s2 with heap := h3 } → wpAny (model X.prog X.w) (X.A.mark (some (.ref a))) (eval (.Name x np) X.env) Q E { s2 with heap := h3 } := fun {Q E} q => by
          obtain ⟨hg, hdbg, hm | ⟨hm, hv, hnn⟩⟩ := hc
          · exact ld_glob (X := X.suite a ((a, oe3) :: (X.pn ++ pins))) S3 hg hm q hdbg
          · exact ld_blt (X := X.suite a ((a, oe3) :: (X.pn ++ pins))) S3 hg hm hv q hnn hdbg
        refine test (LM.here ?_)
        cases b with
        | true =>
          refine codeAny_handlers_suite_as ?_
          refine HandSPX.lands_againZ fl3 fun h4 fl4 up4 => ?_
          have J4 : Inv X pins σ2 H2 { s2 with heap := h4 } := J.landed nb fl4.1 ((up.trans up3).trans up4) os ag
          obtain ⟨oe4, vs4, he4, hz4, hd4⟩ := fl4.there
          have S4 := J4.suite he4 hd4 na nL nF
          refine store_ok (X := X.suite a ((a, oe4) :: (X.pn ++ pins))) (v := .ref a) S4 hN hi hloc rfl (fun s5 S5 => ?_) (.inr hln)
          refine wpAny_mono ((hsu a oe4 cls d (X.pn ++ pins) hz4 ⟨_, hd4⟩).run [] s5 _ H2 _ S5 (hyes rfl a na)) (fun f s6 hsp => ?_) (fun _ _ z => False.elim z)
          have fin : ∀ {σ6 : St} {H6 : Hp} {Q : Shared → Prop}, Inv (X.suite a ((a, oe4) :: (X.pn ++ pins))) [] σ6 H6 s6 → (∀ s7, Inv X pins (σ6.set i none) H6 s7 → Q s7) →
              wpAny (model X.prog X.w) X.A (do bindName X.env n .none; unbindBehindTheSuite X.env n p2) (fun _ s7 => Q s7) X.xe s6 := fun {σ6 H6 Q} S6 hq => gone_ok (S6.unsuite ok) hN hi hln hq
          cases f with
          | next =>
            obtain ⟨σ6, H6, S6, q6⟩ := hsp
            exact fin S6 fun s7 J7 => ⟨_, _, J7, q6⟩
          | brk =>
            obtain ⟨σ6, H6, S6, q6⟩ := hsp
            exact fin S6 fun s7 J7 => ⟨_, _, J7, q6⟩
          | cont =>
            obtain ⟨σ6, H6, S6, q6⟩ := hsp
            exact fin S6 fun s7 J7 => ⟨_, _, J7, q6⟩
          | ret u =>
            obtain ⟨v6, σ6, H6, S6, r6, q6⟩ := hsp
            exact fin S6 fun s7 J7 => ⟨_, _, _, J7, r6, q6⟩
        | false =>
          show wpAny _ X.A (handleBy (.ref a) X.env hs3) _ _ _
          exact ih (hno rfl)
    exact go hh w
  · cases f with
    | next =>
      obtain ⟨σ2, H2, J2, q⟩ := hsp
      exact wpAny_execs_nil ⟨σ2, H2, J2.ofTry ok, q⟩
    | brk =>
      obtain ⟨σ2, H2, J2, q⟩ := hsp
      exact ⟨σ2, H2, J2.ofTry ok, q⟩
    | cont =>
      obtain ⟨σ2, H2, J2, q⟩ := hsp
      exact ⟨σ2, H2, J2.ofTry ok, q⟩
    | ret u =>
      obtain ⟨v, σ2, H2, J2, r, q⟩ := hsp
      exact ⟨v, σ2, H2, J2.ofTry ok, r, q⟩
end
/-- clauses and their code -/
inductive JHs (κ : Kx) : List ExceptHandler → CHs → Prop
  | nil : JHs κ [] .nil
  | cons {x n : Str} {i k : Nat} {b0 : Stmt} {su : List Stmt} {ch : CSs} {np p2 : Pos} {hds : List ExceptHandler} {cr : CHs} (hi : κ.X.N[i]? = some n) (hln : κ.X.env.kindOf n = some .local) (hc : Names κ.X x (.ref (κ.G.cl k)))
      (hex : ∀ j, (κ.P.XT.fs j).isSome = true → PySem.W.exmOne κ.X.K (.ref (κ.G.cl j)) (.ref (κ.G.cl k)) = some (κ.P.T.sub j k))
      (hsu : ∀ (a : Addr) (oe : Obj) (cls : Value) (d : Option Addr) (pn : List (Addr × Obj)), Zc cls d oe → (∃ vs, oe.data = .fields vs) → JSs (κ.suite i a oe cls d pn) (b0 :: su) ch) (r : JHs κ hds cr) :
      JHs κ (.ExceptHandler (some (.Name x np)) (some n) (b0 :: su) p2 :: hds) (.cons k i ch cr)
theorem jhs_list {κ : Kx} {hds : List ExceptHandler} {cr : CHs} (h : JHs κ hds cr) : ∃ l, HdAs κ.X hds l ∧ ∀ (D : Ends) (x : Xc) (e1 : TD.Env) (M1 : Mem) (Z F : Hp) (as : List Addr), OutS κ.G κ.hx κ.W Z F as D (runH κ.P.T κ.P.rp κ.P.XT κ.cl cr x e1 M1) →
    ∀ (dd : Addr) (fs : List (Str × V)) (σ1 : L2.St) (F1 : Hp) (as1 : List Addr) (H1 : Hp), Up F as F1 as1 → EnvR κ.G κ.hx F1 as1 σ1 e1 → Good κ.G Z F1 as1 M1 H1 → F1 dd = some (.xd fs) → RepF κ.G F1 fs x.fs → wMas κ.X.K κ.W D l (.ref (κ.G.cl x.cls)) (some dd) σ1 H1 := by
  induction h with
  | nil => exact ⟨[], .nil, fun D x e1 M1 Z F as o dd fs σ1 F1 as1 H1 u1 re1 g1 h1 h2 => o dd fs σ1 F1 as1 H1 u1 re1 g1 h1 h2⟩
  | @cons x n i k b0 su ch np p2 hds cr hi hln hc hex hsu r ih =>
    obtain ⟨l, hl, hw⟩ := ih
    refine ⟨(_, i, fun a cls d => tS κ.G (d.map fun dd => (i, a, cls, dd)) (fun _ _ _ _ => False) (κ.rSs ch)) :: l, .cons hi hln hc hsu hl, ?_⟩
    intro D x e1 M1 Z F as o dd fs σ1 F1 as1 H1 u1 re1 g1 h1 h2
    unfold runH at o
    by_cases hc : ((κ.P.XT.fs x.cls).isSome && decide (i < e1.s.length)) = true
    · rw [if_pos hc] at o
      obtain ⟨hc1, hc2⟩ := Bool.and_eq_true_iff.mp hc
      refine ⟨κ.P.T.sub x.cls k, hex _ hc1, fun hb a ha => ?_, fun hb => ?_⟩
      · rw [if_pos hb] at o
        refine ⟨Z, F1, as1, _, M1, re1.catch (of_decide_eq_true hc2) h1 h2, g1, ?_⟩
        cases q2 : κ.rSs ch ⟨e1.s.set i none, some x⟩ M1 with
        | none => simp only [q2] at o; exact o.elim
        | some r2 =>
          obtain ⟨r2, M2⟩ := r2
          simp only [q2] at o
          cases r2 with
          | next e3 => exact fun σ4 F4 as4 H4 u4 re4 g4 => o _ F4 as4 H4 (u1.trans u4) (re4.drop i) g4
          | brk e3 => exact fun σ4 F4 as4 H4 u4 re4 g4 => o _ F4 as4 H4 (u1.trans u4) (re4.drop i) g4
          | cnt e3 => exact fun σ4 F4 as4 H4 u4 re4 g4 => o _ F4 as4 H4 (u1.trans u4) (re4.drop i) g4
          | ret v => exact fun y F4 as4 H4 u4 g4 r4 => o y F4 as4 H4 (u1.trans u4) g4 r4
          | ex y e3 => exact o.elim
      · rw [if_neg (by rw [hb]; exact Bool.false_ne_true)] at o
        exact hw D x e1 M1 Z F as o dd fs σ1 F1 as1 H1 u1 re1 g1 h1 h2
    · rw [if_neg hc] at o
      exact o.elim
section
variable {κ : Kx} {body : List Stmt} {cbd : CSs} {pos : Pos} {hd0 : ExceptHandler} {hds : List ExceptHandler} {cr : CHs}
theorem js_tryM (h : Ok κ) (hs : κ.X.stack = κ.X.env :: κ.X.outer) (hf : κ.X.env.frame = some κ.X.env.locals)
    (hb : ∀ (W : WX) (pn : List (Addr × Obj)) (xe : Value → Shared → Prop), Ok (κ.tr W pn xe) → JSs (κ.tr W pn xe) body cbd) (hh : JHs κ (hd0 :: hds) cr) : JS κ (.Try body (hd0 :: hds) [] [] pos) (.tryx cbd cr) := by
  obtain ⟨l, hl, hw⟩ := jhs_list hh
  refine PS.weak (ps_try_mas (tb := fun W => tS κ.G κ.hx W (κ.rSs cbd)) hs hf h.nd h.tk (fun W pn xe tk po => hb W pn xe (h.tr tk po)) hl) fun D σ H t => ?_
  obtain ⟨Z, F, as, e, M, re, g, o⟩ := t
  refine ⟨Z, F, as, e, M, re, g, ?_⟩
  have o : OutS κ.G κ.hx κ.W Z F as D (match κ.rSs cbd e M with
    | some (.ex x e1, M1) => runH κ.P.T κ.P.rp κ.P.XT κ.cl cr x e1 M1
    | r => r) := o
  cases q : κ.rSs cbd e M with
  | none => rw [q] at o; exact o
  | some r =>
    obtain ⟨r, M1⟩ := r
    rw [q] at o
    cases r with
    | next e1 => exact o
    | ret v => exact o
    | brk e1 => exact o
    | cnt e1 => exact o
    | ex x e1 => exact fun dd fs σ1 F1 as1 H1 u1 re1 g1 h1 h2 => hw D x e1 M1 Z F as o dd fs σ1 F1 as1 H1 u1 re1 g1 h1 h2
end
end TD
set_option Elab.async false
set_option linter.all false
set_option maxRecDepth 100000
set_option maxHeartbeats 3200000
/-! TD, part Y: x, y, z = a, b, c where the values stand in a tuple first. -/
namespace TD
open PySem L2
section
variable {κ : Kx} {a b c : Expr} {cs : CL} {x y z : Str} {i j l : Nat} {px py pz pt pt2 pos : Pos}
theorem js_parT3 (h : Ok κ) {kt k2 : Nat} (hi : κ.X.N[i]? = some x) (hj : κ.X.N[j]? = some y) (hl : κ.X.N[l]? = some z) (hx : Loc κ.X.env.scope x) (fx : κ.X.fn x = true ∨ κ.X.env.scope.names.lookup x = some .local) (hy : Loc κ.X.env.scope y) (fy : κ.X.fn y = true ∨ κ.X.env.scope.names.lookup y = some .local) (hz : Loc κ.X.env.scope z) (fz : κ.X.fn z = true ∨ κ.X.env.scope.names.lookup z = some .local) (ha : JA κ [a, b, c] cs)
    (hw : swappedStores [.Tuple [.Name x px, .Name y py, .Name z pz] kt pt] (.Tuple [a, b, c] k2 pt2) κ.X.env = pure none := by rfl)
    (hs : swapsWithSole [.Tuple [.Name x px, .Name y py, .Name z pz] kt pt] (.Tuple [a, b, c] k2 pt2) pos.line κ.X.env = pure false := by rfl) : JS κ (.Assign [.Tuple [.Name x px, .Name y py, .Name z pz] kt pt] (.Tuple [a, b, c] k2 pt2) pos) (.par [i, j, l] cs) :=
  PS.weak (ps_asg (pe_tup ha) (pg_tup (n := 3) h.calm (pgs_cons (pg_name h.nd hi hx fx) (pgs_cons (pg_name h.nd hj hy fy) (pgs_cons (pg_name h.nd hl hz fz) pgs_nil))))  hs hw) fun D σ H t => by
    have t : tS κ.G κ.hx κ.W (fun e => seqE e (EM.bind (runL κ.P.T κ.P.rp κ.cl cs e) fun vs => EM.o (parS [i, j, l] vs e)) fun e' => SM.pure (.next e')) D σ H := t
    simp only [seqE_bind] at t
    refine tS_bind (R := RepLs κ.G) (k := fun vs e => seqE e (EM.o (parS [i, j, l] vs e)) fun e' => SM.pure (.next e')) t fun xs Z F as e M H1 vs re g rs o => ?_
    obtain ⟨e', ee, o2⟩ := o.gotO
    cases rs with
    | nil => cases ee
    | cons r1 rs =>
      cases rs with
      | nil => cases ee
      | cons r2 rs =>
        cases rs with
        | nil => cases ee
        | cons r3 rs =>
          cases rs with
          | nil =>
            cases ee
            refine ⟨by show 3 ≤ sizeLine; decide, fun p hp => ?_⟩
            refine ⟨p, _, rfl, .inl (.inl upd_same), rfl, _, _, rfl, _, _, rfl, _, _, rfl, rfl, ?_⟩
            exact o2 _ F as _ Up.refl (((re.set r1).set r2).set r3) (g.heap (Evl.Ex.new hp))
          | cons r4 rs => cases ee
end
theorem met_mem {L : List (Nat × Str × Nat)} {c f : Nat} {m : Str} (h : (L.find? fun t => decide (t.1 = c) && decide (t.2.1 = m)).map (·.2.2) = some f) : (c, m, f) ∈ L := by
  obtain ⟨t, h1, h2⟩ := Option.map_eq_some_iff.mp h
  have h3 := List.find?_some h1
  simp only [Bool.and_eq_true, decide_eq_true_eq] at h3
  obtain ⟨rfl, rfl⟩ := h3
  subst h2
  exact List.mem_of_find?_eq_some h1
end TD
set_option Elab.async false
set_option linter.all false
set_option maxRecDepth 100000
set_option maxHeartbeats 3200000
/-! TD, part Z: list(x) as a new list that may change. -/
namespace TD
open PySem L2
def lnewV (vs : List Vl) : EM Vl :=
  match vs with
  | [v] => EM.bind (peek v) fun d => EM.bind (EM.o (items d)) fun xs => mkNew xs
  | _ => EM.fail
theorem o_nx {α : Type} {o : Option α} {M M' : Mem} {x : Xc} : EM.o o M ≠ some (.ex x, M') := by
  unfold EM.o
  split
  · intro h; cases h
  · intro h; cases h
theorem toDs_mapD : ∀ (xs : List D) (M : Mem), toDs (xs.map Vl.d) M = some (.ok xs, M)
  | [], _ => rfl
  | x :: xs, M => by
    show EM.bind (EM.pure x) (fun d => EM.bind (toDs (xs.map Vl.d)) fun ds => EM.pure (d :: ds)) M = _
    unfold EM.bind
    simp only [EM.pure]
    rw [toDs_mapD xs M]
section
variable {κ : Kx} {e : Expr} {ce : CE} {pos p : Pos} {x : Str}
theorem call_lnew_ok (h : Ok0 κ) : CallR κ.X (.type "list") (rVs κ.G lnewV) := by
  intro pins s σ H xs us Q I r hr
  obtain ⟨E, Z, F, as, vs, M, g, rs, o⟩ := hr
  unfold lnewV at o
  split at o
  · rename_i v
    cases rs with
    | cons r1 r2 =>
      cases r2
      obtain ⟨d, M1, e1, o1⟩ := o.got fun _ _ => peek_nx
      obtain ⟨q1, s1⟩ := peek_ok g r1 e1
      rw [q1] at o1
      obtain ⟨ds, M2, e2, o2⟩ := o1.got fun _ _ => o_nx
      unfold EM.o at e2
      split at e2
      · rename_i ds' hi
        cases e2
        unfold mkNew at o2
        split at o2
        · unfold items at hi
          split at hi
          · cases hi
            obtain ⟨p, ws, rfl, t1, rr⟩ := s1.tup
            refine call_list_of pins s σ H _ us Q I r ⟨p, ws, rfl, .inr (by rw [h.k]; exact Evl.ex_t g.sub t1), fun l hl => ?_⟩
            obtain ⟨g2, u2⟩ := g.born (o := .lst ws) (mo := .lst ds) hl fun as' _ => ⟨g.noF hl, ws, upd_same, rr⟩
            refine o2 _ _ _ _ u2 g2 ⟨l, ?_, rfl⟩
            rw [← g.len, List.getElem?_append_right (Nat.le_refl _)]
            simp
          · cases hi
            obtain ⟨p, ws, rfl, t1, rr⟩ := s1
            refine call_list_of pins s σ H _ us Q I r ⟨p, ws, rfl, .inl (.inl (.inl t1)), fun l hl => ?_⟩
            obtain ⟨g2, u2⟩ := g.born (o := .lst ws) (mo := .lst ds) hl fun as' _ => ⟨g.noF hl, ws, upd_same, rr⟩
            refine o2 _ _ _ _ u2 g2 ⟨l, ?_, rfl⟩
            rw [← g.len, List.getElem?_append_right (Nat.le_refl _)]
            simp
          · cases hi
        · exact o2.elim
      · cases e2
  · exact o.elim
theorem lnew_run {T : Tab} {rp : D → Option Str} {cl : Cl} {en : TD.Env} : runE T rp cl (.new (.star ce .nil)) en = EM.bind (runL T rp cl (.cons ce .nil) en) lnewV := by
  funext M
  show EM.bind (EM.bind (runE T rp cl ce en) fun v => EM.bind (peek v) fun d => EM.bind (EM.o (items d)) fun xs => EM.bind (EM.pure []) fun vs => EM.pure (xs.map Vl.d ++ vs)) (fun vs => EM.bind (toDs vs) mkNew) M = EM.bind (EM.bind (runE T rp cl ce en) fun v => EM.bind (EM.pure []) fun vs => EM.pure (v :: vs)) lnewV M
  unfold EM.bind
  cases h : runE T rp cl ce en M with
  | none => rfl
  | some r =>
    obtain ⟨r, M1⟩ := r
    cases r with
    | ex x => rfl
    | ok v =>
      simp only [EM.pure, lnewV, EM.bind]
      cases h2 : peek v M1 with
      | none => rfl
      | some r =>
        obtain ⟨r, M2⟩ := r
        cases r with
        | ex x => rfl
        | ok d =>
          simp only [EM.o]
          cases h3 : items d with
          | none => rfl
          | some xs =>
            simp only [List.append_nil]
            have : toDs (xs.map Vl.d) M2 = some (.ok xs, M2) := toDs_mapD xs M2
            rw [this]
theorem je_lnew (h : Ok0 κ) (hg : Gl κ.X x) (hm : κ.X.mg x = none) (hv : bootBuiltins x = some (.type "list")) (ha : JA κ [e] (.cons ce .nil)) (hn : x ≠ "__name__" := by decide) (hdb : (x == ("__debug__" : Str)) = false := by decide)
    (he : starEach [e] κ.X.env = (false, eval e κ.X.env) :: starEach [] κ.X.env := by rfl) (hpl : (backTo pos (starEach [] κ.X.env)).any (·.1) = false := by rfl) : JE κ (.Call (.Name x p) [e] [] pos) (.new (.star ce .nil)) :=
  PE.weak (pe_callTy (call_lnew_ok h) hg hm hv ha hn hdb he hpl) fun σ H Q t => by
    have e1 : runE κ.P.T κ.P.rp κ.cl (.new (.star ce .nil)) = fun en => EM.bind (runL κ.P.T κ.P.rp κ.cl (.cons ce .nil) en) lnewV := funext fun en => lnew_run
    rw [e1] at t
    exact tM_bind (R := RepLs κ.G) (S := RepL κ.G) (k := fun vs e => lnewV vs) t fun vs Z F as e M H1 ds re g rs o => ⟨_, Z, F, as, ds, M, g, rs, o⟩
end
end TD
set_option Elab.async false
set_option linter.all false
set_option maxRecDepth 100000
set_option maxHeartbeats 8000000
/-! the law's defs as code; each def's body does what its code computes (printed by gen.py) -/
namespace LW
open PySem L2 TD
def top (i : Nat) : Stmt := PySem.Challenge.pw_takendown_k10_whole_rows.main.body.getD i (.Pass ⟨0, 0, 0, 0⟩)
abbrev s_is_whole : Stmt := top 22
def N_is_whole : List Str := ["value", "least", "most"]
def c_is_whole : CSs := (.cons (.ret (.and (.isi (.var 0) .int) (.and (.not (.isi (.var 0) .bool)) (.chn .LtE .LtE (.var 1) (.var 0) (.var 2))))) .nil)
abbrev s_is_name : Stmt := top 23
def N_is_name : List Str := ["value", "sign"]
def c_is_name : CSs := (.cons (.ife (.or (.not (.val (.isi (.var 0) .str))) (.not (.tst (.chn .LtE .LtE (.con (.int 1)) (.blt .len (.cons (.var 0) .nil)) (.glb (.int 8)))))) (.cons (.ret (.con (.bl false))) .nil) .nil) (.cons (.ret (.blt .all (.cons (.lc (.name 1) (.chars (.var 0)) .nil (.cmp .In (.var 1) (.glb (.str "abcdefghijklmnopqrstuvwxyz"))) [1]) .nil))) .nil))
abbrev s_branches : Stmt := top 24
def N_branches : List Str := ["item"]
def c_branches : CSs := (.cons (.ife (.tst (.cmp .Eq (.ix (.var 0) (.con (.int 0))) (.glb (.str "test")))) (.cons (.ret (.tup (.cons (.ix (.var 0) (.con (.int 2))) (.cons (.ix (.var 0) (.con (.int 3))) .nil)))) .nil) .nil) (.cons (.ife (.tst (.cmp .Eq (.ix (.var 0) (.con (.int 0))) (.glb (.str "choose")))) (.cons (.ret (.tup (.cons (.ix (.var 0) (.con (.int 1))) (.cons (.ix (.var 0) (.con (.int 2))) .nil)))) .nil) .nil) (.cons (.ret (.tup (.cons (.tup .nil) (.cons (.tup .nil) .nil)))) .nil)))
abbrev s_is_wrong : Stmt := top 25
def N_is_wrong : List Str := ["item", "held", "own", "behind"]
def c_is_wrong : CSs := (.cons (.ife (.tst (.cmp .Eq (.ix (.var 0) (.con (.int 0))) (.glb (.str "take")))) (.cons (.ret (.or (.cmp .In (.ix (.var 0) (.con (.int 1))) (.var 1)) (.cmp .NotIn (.tup (.cons (.glb (.str "give")) (.cons (.ix (.var 0) (.con (.int 1))) .nil))) (.var 3)))) .nil) .nil) (.cons (.ife (.tst (.cmp .Eq (.ix (.var 0) (.con (.int 0))) (.glb (.str "give")))) (.cons (.ret (.or (.cmp .Eq (.var 2) (.tup .nil)) (.cmp .NotEq (.ix (.var 2) (.neg (.con (.int 1)))) (.ix (.var 0) (.con (.int 1)))))) .nil) .nil) (.cons (.ret (.and (.cmp .Eq (.ix (.var 0) (.con (.int 0))) (.glb (.str "piece"))) (.cmp .In (.ix (.var 0) (.con (.int 1))) (.var 1)))) .nil)))
abbrev s_wrongs : Stmt := top 26
def N_wrongs : List Str := ["items", "held", "found", "own", "at", "item", "branch"]
def l_wrongs_1 : CSs := (.cons (.mut .extend (.var 2) (.cons (.call (.fn 4) (.cons (.var 6) (.cons (.bin .Add (.var 1) (.var 3)) .nil))) .nil)) .nil)
def l_wrongs_2 : CSs := (.cons (.mut .append (.var 2) (.cons (.call (.fn 3) (.cons (.var 5) (.cons (.bin .Add (.var 1) (.var 3)) (.cons (.var 3) (.cons (.sl (.var 0) (.some (.bin .Add (.var 4) (.con (.int 1)))) .none) .nil))))) .nil)) (.cons (.ife (.tst (.cmp .Eq (.ix (.var 5) (.con (.int 0))) (.glb (.str "take")))) (.cons (.set (.name 3) (.bin .Add (.var 3) (.tup (.cons (.ix (.var 5) (.con (.int 1))) .nil)))) .nil) .nil) (.cons (.ife (.tst (.cmp .Eq (.ix (.var 5) (.con (.int 0))) (.glb (.str "give")))) (.cons (.set (.name 3) (.sl (.var 3) .none (.some (.neg (.con (.int 1)))))) .nil) .nil) (.cons (.fors (.name 6) (.seq (.call (.fn 2) (.cons (.var 5) .nil))) l_wrongs_1) .nil))))
def c_wrongs : CSs := (.cons (.set (.name 2) (.new .nil)) (.cons (.set (.name 3) (.tup .nil)) (.cons (.fors (.tup (.cons (.name 4) (.cons (.name 5) .nil))) (.enm (.var 0)) l_wrongs_2) (.cons (.ret (.var 2)) .nil))))
abbrev s_lock_fault : Stmt := top 27
def N_lock_fault : List Str := ["items", "number", "wrong"]
def l_lock_fault_1 : CSs := (.cons (.ife (.val (.var 2)) (.cons (.ret (.var 1)) .nil) .nil) .nil)
def c_lock_fault : CSs := (.cons (.fors (.tup (.cons (.name 1) (.cons (.name 2) .nil))) (.enm (.call (.fn 4) (.cons (.var 0) (.cons (.tup .nil) .nil)))) l_lock_fault_1) (.cons (.ret (.con .non)) .nil))
abbrev s_is_step : Stmt := top 28
def N_is_step : List Str := ["value"]
def c_is_step : CSs := (.cons (.ret (.and (.isi (.var 0) .tuple) (.and (.cmp .Eq (.blt .len (.cons (.var 0) .nil)) (.con (.int 2))) (.and (.cmp .In (.ix (.var 0) (.con (.int 0))) (.glb (.tup [(.str "cancel"), (.str "bar"), (.str "halt"), (.str "settle"), (.str "close"), (.str "drain"), (.str "set"), (.str "clear"), (.str "take"), (.str "give")]))) (.call (.fn 1) (.cons (.ix (.var 0) (.con (.int 1))) .nil)))))) .nil)
abbrev s_require_steps : Stmt := top 32
def N_require_steps : List Str := ["steps", "index", "step"]
def l_require_steps_1 : CSs := (.cons (.ife (.not (.val (.call (.fn 6) (.cons (.var 2) .nil)))) (.cons (.raise 1 (.cons (.var 1) .nil)) .nil) .nil) .nil)
def c_require_steps : CSs := (.cons (.fors (.tup (.cons (.name 1) (.cons (.name 2) .nil))) (.enm (.var 0)) l_require_steps_1) (.cons (.ife (.tst (.cmp .Gt (.blt .len (.cons (.var 0) .nil)) (.glb (.int 8)))) (.cons (.raise 1 (.cons (.con .non) .nil)) .nil) .nil) (.cons (.set (.name 1) (.call (.fn 5) (.cons (.var 0) .nil))) (.cons (.ife (.tst (.cmp .IsNot (.var 1) (.con .non))) (.cons (.raise 1 (.cons (.var 1) .nil)) .nil) .nil) .nil))))
abbrev s_Row___init__ : Stmt := (C8.clsBody (top 33)).getD 0 (.Pass ⟨0, 0, 0, 0⟩)
def N_Row___init__ : List Str := ["self", "steps"]
def c_Row___init__ : CSs := (.cons (.expr (.call (.fn 7) (.cons (.var 1) .nil))) (.cons (.fld (.var 0) "own_steps" (.var 1)) .nil))
abbrev s_Row_shut : Stmt := (C8.clsBody (top 33)).getD 1 (.Pass ⟨0, 0, 0, 0⟩)
def N_Row_shut : List Str := ["work"]
def c_Row_shut : CSs := (.cons (.ret (.call (.mk 4) (.cons (.tup (.cons (.glb (.str "bar")) (.cons (.var 0) .nil))) (.cons (.tup (.cons (.glb (.str "halt")) (.cons (.var 0) .nil))) .nil)))) .nil)
abbrev s_Row_locked : Stmt := (C8.clsBody (top 33)).getD 2 (.Pass ⟨0, 0, 0, 0⟩)
def N_Row_locked : List Str := ["lock", "steps", "found"]
def c_Row_locked : CSs := (.cons (.set (.name 2) (.bin .Add (.bin .Add (.tup (.cons (.tup (.cons (.glb (.str "take")) (.cons (.var 0) .nil))) .nil)) (.var 1)) (.tup (.cons (.tup (.cons (.glb (.str "give")) (.cons (.var 0) .nil))) .nil)))) (.cons (.ret (.call (.mk 4) (.star (.var 2) .nil))) .nil))
abbrev s_Row_parts_of : Stmt := (C8.clsBody (top 33)).getD 3 (.Pass ⟨0, 0, 0, 0⟩)
def N_Row_parts_of : List Str := ["self", "other"]
def c_Row_parts_of : CSs := (.cons (.ife (.val (.isi (.var 1) (.cls 4))) (.cons (.ret (.fld (.var 1) "own_steps")) .nil) .nil) (.cons (.ife (.not (.val (.isi (.var 1) .tuple))) (.cons (.raise 1 (.cons (.con .non) .nil)) .nil) .nil) (.cons (.ret (.var 1)) .nil)))
abbrev s_Row___add__ : Stmt := (C8.clsBody (top 33)).getD 4 (.Pass ⟨0, 0, 0, 0⟩)
def N_Row___add__ : List Str := ["self", "other", "found"]
def c_Row___add__ : CSs := (.cons (.set (.name 2) (.bin .Add (.fld (.var 0) "own_steps") (.met "parts_of" (.var 0) (.cons (.var 1) .nil)))) (.cons (.ret (.call (.mk 4) (.star (.var 2) .nil))) .nil))
abbrev s_Row___radd__ : Stmt := (C8.clsBody (top 33)).getD 5 (.Pass ⟨0, 0, 0, 0⟩)
def N_Row___radd__ : List Str := ["self", "other", "found"]
def c_Row___radd__ : CSs := (.cons (.set (.name 2) (.bin .Add (.met "parts_of" (.var 0) (.cons (.var 1) .nil)) (.fld (.var 0) "own_steps"))) (.cons (.ret (.call (.mk 4) (.star (.var 2) .nil))) .nil))
abbrev s_Row___contains__ : Stmt := (C8.clsBody (top 33)).getD 6 (.Pass ⟨0, 0, 0, 0⟩)
def N_Row___contains__ : List Str := ["self", "step"]
def c_Row___contains__ : CSs := (.cons (.ret (.and (.call (.fn 6) (.cons (.var 1) .nil)) (.cmp .In (.var 1) (.fld (.var 0) "own_steps")))) .nil)
abbrev s_Row___getitem__ : Stmt := (C8.clsBody (top 33)).getD 7 (.Pass ⟨0, 0, 0, 0⟩)
def N_Row___getitem__ : List Str := ["self", "index"]
def c_Row___getitem__ : CSs := (.cons (.ife (.not (.val (.call (.fn 0) (.cons (.var 1) (.cons (.con (.int 0)) (.cons (.bin .Sub (.blt .len (.cons (.fld (.var 0) "own_steps") .nil)) (.con (.int 1))) .nil)))))) (.cons (.raise 2 (.cons (.var 1) .nil)) .nil) .nil) (.cons (.ret (.ix (.fld (.var 0) "own_steps") (.var 1))) .nil))
abbrev s_Row___len__ : Stmt := (C8.clsBody (top 33)).getD 9 (.Pass ⟨0, 0, 0, 0⟩)
def N_Row___len__ : List Str := ["self"]
def c_Row___len__ : CSs := (.cons (.ret (.blt .len (.cons (.fld (.var 0) "own_steps") .nil))) .nil)
abbrev s_Row___eq__ : Stmt := (C8.clsBody (top 33)).getD 10 (.Pass ⟨0, 0, 0, 0⟩)
def N_Row___eq__ : List Str := ["self", "other"]
def c_Row___eq__ : CSs := (.cons (.ret (.and (.isi (.var 1) (.cls 4)) (.cmp .Eq (.fld (.var 0) "own_steps") (.fld (.var 1) "own_steps")))) .nil)
abbrev s_Row_steps : Stmt := (C8.clsBody (top 33)).getD 11 (.Pass ⟨0, 0, 0, 0⟩)
def N_Row_steps : List Str := ["self"]
def c_Row_steps : CSs := (.cons (.ret (.new (.star (.fld (.var 0) "own_steps") .nil))) .nil)
abbrev s_Row_begins : Stmt := (C8.clsBody (top 33)).getD 12 (.Pass ⟨0, 0, 0, 0⟩)
def N_Row_begins : List Str := ["self", "other"]
def c_Row_begins : CSs := (.cons (.ret (.cmp .Eq (.fld (.var 0) "own_steps") (.sl (.fld (.var 1) "own_steps") .none (.some (.blt .len (.cons (.fld (.var 0) "own_steps") .nil)))))) .nil)
abbrev s_Row_without : Stmt := (C8.clsBody (top 33)).getD 13 (.Pass ⟨0, 0, 0, 0⟩)
def N_Row_without : List Str := ["self", "index", "found"]
def c_Row_without : CSs := (.cons (.ife (.not (.val (.call (.fn 0) (.cons (.var 1) (.cons (.con (.int 0)) (.cons (.bin .Sub (.blt .len (.cons (.fld (.var 0) "own_steps") .nil)) (.con (.int 1))) .nil)))))) (.cons (.raise 2 (.cons (.var 1) .nil)) .nil) .nil) (.cons (.set (.name 2) (.bin .Add (.sl (.fld (.var 0) "own_steps") .none (.some (.var 1))) (.sl (.fld (.var 0) "own_steps") (.some (.bin .Add (.var 1) (.con (.int 1)))) .none))) (.cons (.ret (.call (.mk 4) (.star (.var 2) .nil))) .nil)))
abbrev s_Row_held : Stmt := (C8.clsBody (top 33)).getD 14 (.Pass ⟨0, 0, 0, 0⟩)
def N_Row_held : List Str := ["self", "done", "found", "step"]
def l_Row_held_1 : CSs := (.cons (.ife (.tst (.cmp .Eq (.ix (.var 3) (.con (.int 0))) (.glb (.str "take")))) (.cons (.set (.name 2) (.bin .Add (.var 2) (.tup (.cons (.ix (.var 3) (.con (.int 1))) .nil)))) .nil) .nil) (.cons (.ife (.tst (.cmp .Eq (.ix (.var 3) (.con (.int 0))) (.glb (.str "give")))) (.cons (.set (.name 2) (.sl (.var 2) .none (.some (.neg (.con (.int 1)))))) .nil) .nil) .nil))
def c_Row_held : CSs := (.cons (.ife (.not (.val (.call (.fn 0) (.cons (.var 1) (.cons (.con (.int 0)) (.cons (.bin .Add (.blt .len (.cons (.fld (.var 0) "own_steps") .nil)) (.con (.int 1))) .nil)))))) (.cons (.raise 2 (.cons (.var 1) .nil)) .nil) .nil) (.cons (.set (.name 2) (.tup .nil)) (.cons (.fors (.name 3) (.seq (.sl (.fld (.var 0) "own_steps") .none (.some (.var 1)))) l_Row_held_1) (.cons (.ret (.var 2)) .nil))))
abbrev s_Row_names : Stmt := (C8.clsBody (top 33)).getD 15 (.Pass ⟨0, 0, 0, 0⟩)
def N_Row_names : List Str := ["self", "kind", "step"]
def c_Row_names : CSs := (.cons (.ife (.or (.not (.val (.isi (.var 1) .str))) (.tst (.kin true (.var 1) 0 [("works", (.tup [(.str "cancel"), (.str "bar"), (.str "halt"), (.str "settle")])), ("gates", (.tup [(.str "close"), (.str "drain")])), ("flags", (.tup [(.str "set"), (.str "clear")])), ("locks", (.tup [(.str "take"), (.str "give")]))]))) (.cons (.raise 3 (.cons (.var 1) .nil)) .nil) .nil) (.cons (.ret (.blt .sortedSet (.cons (.lc (.name 2) (.seq (.fld (.var 0) "own_steps")) (.one (.tst (.cmp .In (.ix (.var 2) (.con (.int 0))) (.kix 0 [("works", (.tup [(.str "cancel"), (.str "bar"), (.str "halt"), (.str "settle")])), ("gates", (.tup [(.str "close"), (.str "drain")])), ("flags", (.tup [(.str "set"), (.str "clear")])), ("locks", (.tup [(.str "take"), (.str "give")]))] (.var 1))))) (.ix (.var 2) (.con (.int 1))) [2]) .nil))) .nil))
abbrev s__law_numbers : Stmt := top 35
def N__law_numbers : List Str := ["_law_cell", "_law_salt", "_law_sizes", "_law_whole", "_law_left", "_law_result", "_law_k", "_law_one"]
def l__law_numbers_1 : CSs := (.cons (.ife (.and (.tst (.cmp .GtE (.var 3) (.bin .Pow (.con (.int 10)) (.con (.int 18))))) (.tst (.cmp .Gt (.var 4) (.con (.int 0))))) (.cons (.mut .append (.var 5) (.cons (.bin .Mod (.var 4) (.ix (.var 2) (.var 6))) .nil)) (.cons (.set (.name 4) (.bin .FloorDiv (.var 4) (.ix (.var 2) (.var 6)))) .nil)) (.cons (.set (.name 7) (.bin .Mod (.bin .Pow (.bin .Add (.bin .Add (.bin .Mod (.var 3) (.con (.int 2147483629))) (.bin .Mult (.con (.int 7919)) (.var 1))) (.con (.int 1))) (.con (.int 3))) (.con (.int 2147483647)))) (.cons (.set (.name 7) (.bin .Mod (.bin .Mult (.bin .Add (.var 7) (.bin .Mult (.con (.int 104729)) (.bin .Add (.var 6) (.con (.int 1))))) (.bin .Add (.var 6) (.con (.int 3)))) (.con (.int 2147483629)))) (.cons (.set (.name 7) (.bin .Mod (.bin .Mult (.bin .Mod (.bin .Pow (.var 7) (.con (.int 5))) (.con (.int 2147483647))) (.con (.int 48271))) (.con (.int 2147483629)))) (.cons (.mut .append (.var 5) (.cons (.bin .Mod (.bin .FloorDiv (.var 7) (.con (.int 16))) (.ix (.var 2) (.var 6))) .nil)) .nil))))) .nil)
def c__law_numbers : CSs := (.cons (.set (.name 3) (.blt .max2 (.cons (.var 0) (.cons (.bin .Sub (.neg (.con (.int 1))) (.var 0)) .nil)))) (.cons (.set (.name 4) (.var 3)) (.cons (.set (.name 5) (.new .nil)) (.cons (.fors (.name 6) (.rng (.blt .len (.cons (.var 2) .nil))) l__law_numbers_1) (.cons (.ret (.var 5)) .nil)))))
abbrev s__law_pool : Stmt := top 36
def N__law_pool : List Str := ["_law_cell", "_law_salt", "_law_many"]
def c__law_pool : CSs := (.cons (.ret (.new (.cons (.call (.fn 25) (.cons (.var 0) (.cons (.var 1) (.cons (.bin .Mult (.lst (.cons (.con (.int 420)) .nil)) (.var 2)) .nil)))) (.cons (.con (.int 0)) .nil)))) .nil)
abbrev s__law_draw : Stmt := top 37
def N__law_draw : List Str := ["_law_pool_here", "_law_many", "_law_at"]
def c__law_draw : CSs := (.cons (.set (.name 2) (.ix (.var 0) (.con (.int 1)))) (.cons (.sub (.var 0) (.con (.int 1)) (.bin .Add (.var 2) (.con (.int 1)))) (.cons (.ret (.ite (.tst (.cmp .Lt (.var 2) (.blt .len (.cons (.ix (.var 0) (.con (.int 0))) .nil)))) (.bin .Mod (.blt .int (.cons (.ix (.ix (.var 0) (.con (.int 0))) (.var 2)) .nil)) (.var 1)) (.con (.int 0)))) .nil)))
abbrev s__law_pick : Stmt := top 38
def N__law_pick : List Str := ["_law_pool_here", "_law_some"]
def c__law_pick : CSs := (.cons (.ret (.ix (.var 1) (.call (.fn 27) (.cons (.var 0) (.cons (.blt .len (.cons (.var 1) .nil)) .nil))))) .nil)
abbrev s__law_truth : Stmt := top 39
def N__law_truth : List Str := ["_law_found", "_law_due"]
def c__law_truth : CSs := (.cons (.ret (.and (.isi (.var 0) .bool) (.cmp .Eq (.var 0) (.var 1)))) .nil)
abbrev s__law_kind : Stmt := top 40
def N__law_kind : List Str := ["_law_word"]
def c__law_kind : CSs := (.cons (.ife (.tst (.cmp .In (.var 0) (.lst (.cons (.con (.str "cancel")) (.cons (.con (.str "bar")) (.cons (.con (.str "halt")) (.cons (.con (.str "settle")) .nil))))))) (.cons (.ret (.con (.str "works"))) .nil) .nil) (.cons (.ife (.tst (.cmp .In (.var 0) (.lst (.cons (.con (.str "close")) (.cons (.con (.str "drain")) .nil))))) (.cons (.ret (.con (.str "gates"))) .nil) .nil) (.cons (.ret (.ite (.tst (.cmp .In (.var 0) (.lst (.cons (.con (.str "set")) (.cons (.con (.str "clear")) .nil))))) (.con (.str "flags")) (.con (.str "locks")))) .nil)))
abbrev s__law_chosen : Stmt := top 41
def N__law_chosen : List Str := ["_law_pool_here", "_law_names", "_law_most", "_law_words", "_law_found", "_law_own", "_law_turn", "_law_free", "_law_name"]
def l__law_chosen_1 : CSs := (.cons (.set (.name 7) (.lc (.name 8) (.seq (.var 1)) (.one (.tst (.cmp .NotIn (.var 8) (.var 5)))) (.var 8) [8])) (.cons (.ife (.and (.tst (.cmp .NotEq (.var 5) (.lst .nil))) (.or (.tst (.cmp .LtE (.bin .Sub (.var 2) (.blt .len (.cons (.var 4) .nil))) (.blt .len (.cons (.var 5) .nil)))) (.tst (.cmp .Eq (.call (.fn 27) (.cons (.var 0) (.cons (.con (.int 3)) .nil))) (.con (.int 0)))))) (.cons (.mut .append (.var 4) (.cons (.tup (.cons (.con (.str "give")) (.cons (.ix (.var 5) (.neg (.con (.int 1)))) .nil))) .nil)) (.cons (.set (.name 5) (.sl (.var 5) .none (.some (.neg (.con (.int 1)))))) .nil)) (.cons (.ife (.and (.tst (.cmp .NotEq (.var 7) (.lst .nil))) (.and (.tst (.cmp .Gt (.bin .Sub (.var 2) (.blt .len (.cons (.var 4) .nil))) (.bin .Add (.blt .len (.cons (.var 5) .nil)) (.con (.int 1))))) (.tst (.cmp .Eq (.call (.fn 27) (.cons (.var 0) (.cons (.con (.int 4)) .nil))) (.con (.int 0)))))) (.cons (.set (.name 5) (.bin .Add (.var 5) (.lst (.cons (.call (.fn 28) (.cons (.var 0) (.cons (.var 7) .nil))) .nil)))) (.cons (.mut .append (.var 4) (.cons (.tup (.cons (.con (.str "take")) (.cons (.ix (.var 5) (.neg (.con (.int 1)))) .nil))) .nil)) .nil)) (.cons (.ife (.tst (.cmp .Gt (.bin .Sub (.var 2) (.blt .len (.cons (.var 4) .nil))) (.blt .len (.cons (.var 5) .nil)))) (.cons (.mut .append (.var 4) (.cons (.tup (.cons (.call (.fn 28) (.cons (.var 0) (.cons (.var 3) .nil))) (.cons (.call (.fn 28) (.cons (.var 0) (.cons (.var 1) .nil))) .nil))) .nil)) .nil) .nil) .nil)) .nil)) .nil))
def c__law_chosen : CSs := (.cons (.par [3, 4, 5] (.cons (.lst (.cons (.con (.str "cancel")) (.cons (.con (.str "bar")) (.cons (.con (.str "halt")) (.cons (.con (.str "settle")) (.cons (.con (.str "close")) (.cons (.con (.str "drain")) (.cons (.con (.str "set")) (.cons (.con (.str "clear")) .nil))))))))) (.cons (.new .nil) (.cons (.lst .nil) .nil)))) (.cons (.fors (.name 6) (.rng (.var 2)) l__law_chosen_1) (.cons (.ret (.var 4)) .nil)))
abbrev s__law_kept : Stmt := top 42
def N__law_kept : List Str := ["_law_steps", "_law_own", "_law_word", "_law_name"]
def l__law_kept_1 : CSs := (.cons (.ife (.tst (.cmp .Eq (.var 2) (.con (.str "take")))) (.cons (.set (.name 1) (.bin .Add (.var 1) (.lst (.cons (.var 3) .nil)))) .nil) .nil) (.cons (.ife (.tst (.cmp .Eq (.var 2) (.con (.str "give")))) (.cons (.set (.name 1) (.sl (.var 1) .none (.some (.neg (.con (.int 1)))))) .nil) .nil) .nil))
def c__law_kept : CSs := (.cons (.set (.name 1) (.lst .nil)) (.cons (.fors (.tup (.cons (.name 2) (.cons (.name 3) .nil))) (.seq (.var 0)) l__law_kept_1) (.cons (.ret (.blt .tuple (.cons (.var 1) .nil))) .nil)))
abbrev s__law_fault : Stmt := top 43
def N__law_fault : List Str := ["_law_steps", "_law_own", "_law_at", "_law_word", "_law_name"]
def l__law_fault_1 : CSs := (.cons (.ife (.and (.tst (.cmp .Eq (.var 3) (.con (.str "take")))) (.or (.tst (.cmp .In (.var 4) (.var 1))) (.tst (.cmp .NotIn (.tup (.cons (.con (.str "give")) (.cons (.var 4) .nil))) (.sl (.var 0) (.some (.bin .Add (.var 2) (.con (.int 1)))) .none))))) (.cons (.ret (.var 2)) .nil) .nil) (.cons (.ife (.and (.tst (.cmp .Eq (.var 3) (.con (.str "give")))) (.or (.tst (.cmp .Eq (.var 1) (.lst .nil))) (.tst (.cmp .NotEq (.ix (.var 1) (.neg (.con (.int 1)))) (.var 4))))) (.cons (.ret (.var 2)) .nil) .nil) (.cons (.set (.name 1) (.ite (.tst (.cmp .Eq (.var 3) (.con (.str "take")))) (.bin .Add (.var 1) (.lst (.cons (.var 4) .nil))) (.ite (.tst (.cmp .Eq (.var 3) (.con (.str "give")))) (.sl (.var 1) .none (.some (.neg (.con (.int 1))))) (.var 1)))) .nil)))
def c__law_fault : CSs := (.cons (.set (.name 1) (.lst .nil)) (.cons (.fors (.tup (.cons (.name 2) (.cons (.tup (.cons (.name 3) (.cons (.name 4) .nil))) .nil))) (.enm (.var 0)) l__law_fault_1) (.cons (.ret (.con .non)) .nil)))
abbrev s__law_asked : Stmt := top 44
def N__law_asked : List Str := ["_law_row", "_law_way", "_law_thing", "e"]
def c__law_asked : CSs := (.cons (.tryx (.cons (.ife (.tst (.cmp .Eq (.var 1) (.con (.int 0)))) (.cons (.ret (.oix (.var 0) (.var 2))) .nil) .nil) (.cons (.ret (.ite (.tst (.cmp .Eq (.var 1) (.con (.int 1)))) (.met "held" (.var 0) (.cons (.var 2) .nil)) (.met "steps" (.met "without" (.var 0) (.cons (.var 2) .nil)) .nil))) .nil)) (.cons 2 3 (.cons (.ret (.lst (.cons (.con (.str "none")) (.cons (.blt .repr (.cons (.xf "value") .nil)) .nil)))) .nil) (.cons 1 3 (.cons (.ret (.lst (.cons (.con (.str "step")) (.cons (.xf "index") .nil)))) .nil) .nil))) .nil)
abbrev s__law_tells : Stmt := top 45
def N__law_tells : List Str := ["_law_row", "_law_steps", "_law_at", "_law_rest", "_law_kind_here", "_law_odd", "_law_many", "_law_word", "_law_name", "_law_way"]
def l__law_tells_1 : CSs := (.cons (.ife (.tst (.cmp .NotEq (.lc (.name 9) (.rng (.con (.int 3))) (.one (.tst (.cmp .NotEq (.call (.fn 35) (.cons (.var 0) (.cons (.var 9) (.cons (.var 5) .nil)))) (.lst (.cons (.con (.str "none")) (.cons (.blt .repr (.cons (.var 5) .nil)) .nil)))))) (.var 9) [9]) (.lst .nil))) (.cons (.ret (.con (.bl false))) .nil) .nil) .nil)
def l__law_tells_2 : CSs := (.cons (.ife (.tst (.cmp .NotEq (.met "names" (.var 0) (.cons (.var 4) .nil)) (.blt .sortedSet (.cons (.lc (.tup (.cons (.name 7) (.cons (.name 8) .nil))) (.seq (.var 1)) (.one (.tst (.cmp .Eq (.call (.fn 32) (.cons (.var 7) .nil)) (.var 4)))) (.var 8) [7, 8]) .nil)))) (.cons (.ret (.con (.bl false))) .nil) .nil) .nil)
def l__law_tells_3 : CSs := (.cons (.set (.name 3) (.bin .Add (.sl (.var 1) .none (.some (.var 2))) (.sl (.var 1) (.some (.bin .Add (.var 2) (.con (.int 1)))) .none))) (.cons (.ife (.tst (.cmp .NotEq (.call (.fn 35) (.cons (.var 0) (.cons (.con (.int 2)) (.cons (.var 2) .nil)))) (.ite (.tst (.cmp .Is (.call (.fn 31) (.cons (.var 3) .nil)) (.con .non))) (.var 3) (.lst (.cons (.con (.str "step")) (.cons (.call (.fn 31) (.cons (.var 3) .nil)) .nil)))))) (.cons (.ret (.con (.bl false))) .nil) .nil) .nil))
def c__law_tells : CSs := (.cons (.ife (.or (.tst (.cmp .NotEq (.met "steps" (.var 0) .nil) (.var 1))) (.or (.tst (.cmp .NotEq (.olen (.var 0)) (.blt .len (.cons (.var 1) .nil)))) (.not (.val (.isi (.var 0) (.cls 4)))))) (.cons (.ret (.con (.bl false))) .nil) .nil) (.cons (.ife (.tst (.cmp .NotEq (.lc (.name 2) (.rng (.blt .len (.cons (.var 1) .nil))) .nil (.call (.fn 35) (.cons (.var 0) (.cons (.con (.int 0)) (.cons (.var 2) .nil)))) [2]) (.var 1))) (.cons (.ret (.con (.bl false))) .nil) .nil) (.cons (.ife (.tst (.cmp .NotEq (.lc (.name 6) (.rng (.bin .Add (.blt .len (.cons (.var 1) .nil)) (.con (.int 2)))) .nil (.call (.fn 35) (.cons (.var 0) (.cons (.con (.int 1)) (.cons (.var 6) .nil)))) [6]) (.call (.fn 37) (.cons (.var 1) .nil)))) (.cons (.ret (.con (.bl false))) .nil) .nil) (.cons (.fors (.name 2) (.rng (.blt .len (.cons (.var 1) .nil))) l__law_tells_3) (.cons (.fors (.name 4) (.seq (.lst (.cons (.con (.str "works")) (.cons (.con (.str "gates")) (.cons (.con (.str "flags")) (.cons (.con (.str "locks")) .nil)))))) l__law_tells_2) (.cons (.fors (.name 5) (.seq (.lst (.cons (.neg (.con (.int 1))) (.cons (.bin .Add (.blt .len (.cons (.var 1) .nil)) (.con (.int 2))) (.cons (.con .non) (.cons (.con (.bl true)) (.cons (.con (.str "0")) (.cons (.tup (.cons (.con (.int 0)) .nil)) (.cons (.neg (.bin .Pow (.con (.int 10)) (.con (.int 30)))) .nil))))))))) l__law_tells_1) (.cons (.mut .append (.met "steps" (.var 0) .nil) (.cons (.tup (.cons (.con (.str "bar")) (.cons (.con (.str "zz")) .nil))) .nil)) (.cons (.ret (.and (.cmp .Eq (.met "steps" (.var 0) .nil) (.var 1)) (.cmp .Eq (.call (.fn 35) (.cons (.var 0) (.cons (.con (.int 0)) (.cons (.blt .len (.cons (.var 1) .nil)) .nil)))) (.lst (.cons (.con (.str "none")) (.cons (.blt .repr (.cons (.blt .len (.cons (.var 1) .nil)) .nil)) .nil)))))) .nil))))))))
abbrev s__law_heldrows : Stmt := top 46
def N__law_heldrows : List Str := ["_law_steps", "_law_many"]
def c__law_heldrows : CSs := (.cons (.ret (.lc (.name 1) (.rng (.bin .Add (.blt .len (.cons (.var 0) .nil)) (.con (.int 2)))) .nil (.call (.fn 34) (.cons (.sl (.var 0) .none (.some (.var 1))) .nil)) [1])) .nil)
abbrev s__law_among : Stmt := top 47
def N__law_among : List Str := ["_law_row", "_law_steps", "_law_pool_here", "_law_names", "_law_words", "_law_turn", "_law_step", "_law_odd", "_law_one"]
def l__law_among_1 : CSs := (.cons (.set (.name 6) (.tup (.cons (.call (.fn 28) (.cons (.var 2) (.cons (.var 4) .nil))) (.cons (.call (.fn 28) (.cons (.var 2) (.cons (.var 3) .nil))) .nil)))) (.cons (.ife (.or (.tst (.cmp .NotEq (.oin false (.var 6) (.var 0)) (.cmp .In (.var 6) (.var 1)))) (.or (.tst (.oin false (.blt .list (.cons (.var 6) .nil)) (.var 0))) (.tst (.oin false (.bin .Add (.var 6) (.tup (.cons (.con (.int 0)) .nil))) (.var 0))))) (.cons (.ret (.con (.bl false))) .nil) .nil) .nil))
def c__law_among : CSs := (.cons (.set (.name 4) (.lst (.cons (.con (.str "cancel")) (.cons (.con (.str "bar")) (.cons (.con (.str "halt")) (.cons (.con (.str "settle")) (.cons (.con (.str "close")) (.cons (.con (.str "drain")) (.cons (.con (.str "set")) (.cons (.con (.str "clear")) (.cons (.con (.str "take")) (.cons (.con (.str "give")) (.cons (.con (.str "free")) (.cons (.con (.str "use")) .nil)))))))))))))) (.cons (.fors (.name 5) (.rng (.con (.int 6))) l__law_among_1) (.cons (.set (.name 7) (.lc (.name 8) (.seq (.bin .Add (.lst (.cons (.con .non) (.cons (.con (.int 0)) (.cons (.con (.str "bar")) (.cons (.tup .nil) (.cons (.tup (.cons (.con (.str "bar")) .nil)) (.cons (.tup (.cons (.con (.str "halt")) (.cons (.con (.int 1)) .nil))) .nil))))))) (.lc (.name 6) (.seq (.var 1)) .nil (.blt .list (.cons (.var 6) .nil)) [6]))) (.one (.tst (.oin false (.var 8) (.var 0)))) (.var 8) [8])) (.cons (.ret (.and (.cmp .Eq (.var 7) (.lst .nil)) (.cmp .Eq (.lc (.name 6) (.seq (.var 1)) (.one (.tst (.oin true (.var 6) (.var 0)))) (.var 6) [6]) (.lst .nil)))) .nil))))
abbrev s__law_added : Stmt := top 48
def N__law_added : List Str := ["_law_row", "_law_other", "_law_both", "_law_found", "_law_way", "_law_made", "e", "_law_due"]
def l__law_added_1 : CSs := (.cons (.tryx (.cons (.set (.name 5) (.ite (.tst (.cmp .Eq (.var 4) (.con (.int 0)))) (.obin (.var 0) (.var 1)) (.ite (.tst (.cmp .Eq (.var 4) (.con (.int 1)))) (.obin (.var 0) (.blt .tuple (.cons (.met "steps" (.var 1) .nil) .nil))) (.obin (.blt .tuple (.cons (.met "steps" (.var 0) .nil) .nil)) (.var 1))))) (.cons (.mut .append (.var 3) (.cons (.met "steps" (.var 5) .nil) .nil)) .nil)) (.cons 1 6 (.cons (.mut .append (.var 3) (.cons (.xf "index") .nil)) .nil) .nil)) .nil)
def c__law_added : CSs := (.cons (.set (.name 3) (.new .nil)) (.cons (.fors (.name 4) (.rng (.con (.int 3))) l__law_added_1) (.cons (.set (.name 7) (.ite (.tst (.cmp .Gt (.blt .len (.cons (.var 2) .nil)) (.con (.int 8)))) (.con .non) (.ite (.tst (.cmp .Is (.call (.fn 31) (.cons (.var 2) .nil)) (.con .non))) (.var 2) (.call (.fn 31) (.cons (.var 2) .nil))))) (.cons (.ret (.cmp .Eq (.var 3) (.bin .Mult (.lst (.cons (.var 7) .nil)) (.con (.int 3))))) .nil))))
abbrev s_law : Stmt := top 49
def N_law : List Str := ["_law_script", "_law_k", "_law_cell", "_law_pool_here", "_law_names", "_law_steps", "_law_more", "_law_row", "_law_other", "_law_due"]
def l_law_1 : CSs := (.cons (.set (.name 3) (.call (.fn 26) (.cons (.var 2) (.cons (.bin .Add (.con (.int 1000)) (.var 1)) (.cons (.con (.int 160)) .nil))))) (.cons (.set (.name 4) (.ix (.lst (.cons (.lst (.cons (.con (.str "a")) (.cons (.con (.str "ab")) (.cons (.con (.str "b")) (.cons (.con (.str "bar")) .nil))))) (.cons (.lst (.cons (.con (.str "abcdefgh")) (.cons (.con (.str "w")) (.cons (.con (.str "ww")) (.cons (.con (.str "l")) .nil))))) (.cons (.lst (.cons (.con (.str "x")) (.cons (.con (.str "y")) (.cons (.con (.str "z")) (.cons (.con (.str "take")) .nil))))) .nil)))) (.call (.fn 27) (.cons (.var 3) (.cons (.con (.int 3)) .nil))))) (.cons (.par [5, 6] (.cons (.call (.fn 33) (.cons (.var 3) (.cons (.var 4) (.cons (.call (.fn 27) (.cons (.var 3) (.cons (.con (.int 9)) .nil))) .nil)))) (.cons (.call (.fn 33) (.cons (.var 3) (.cons (.var 4) (.cons (.call (.fn 27) (.cons (.var 3) (.cons (.con (.int 9)) .nil))) .nil)))) .nil))) (.cons (.set (.name 6) (.ite (.tst (.cmp .Gt (.call (.fn 27) (.cons (.var 3) (.cons (.con (.int 3)) .nil))) (.con (.int 0)))) (.var 6) (.bin .Add (.sl (.var 5) .none (.some (.call (.fn 27) (.cons (.var 3) (.cons (.con (.int 9)) .nil))))) (.sl (.var 6) .none (.some (.con (.int 1))))))) (.cons (.set (.name 6) (.ite (.and (.tst (.cmp .Is (.call (.fn 31) (.cons (.var 6) .nil)) (.con .non))) (.tst (.cmp .Lt (.blt .len (.cons (.var 6) .nil)) (.con (.int 9))))) (.var 6) (.lst .nil))) (.cons (.par [7, 8] (.cons (.obin (.call (.mk 4) .nil) (.blt .tuple (.cons (.var 5) .nil))) (.cons (.obin (.call (.mk 4) .nil) (.blt .tuple (.cons (.var 6) .nil))) .nil))) (.cons (.ife (.or (.not (.val (.call (.fn 39) (.cons (.var 7) (.cons (.var 8) (.cons (.bin .Add (.var 5) (.var 6)) .nil)))))) (.not (.val (.call (.fn 39) (.cons (.var 8) (.cons (.var 7) (.cons (.bin .Add (.var 6) (.var 5)) .nil))))))) (.cons (.ret (.con (.bl false))) .nil) .nil) (.cons (.ife (.or (.not (.val (.call (.fn 36) (.cons (.var 7) (.cons (.var 5) .nil))))) (.or (.not (.val (.call (.fn 36) (.cons (.var 8) (.cons (.var 6) .nil))))) (.not (.val (.call (.fn 38) (.cons (.var 7) (.cons (.var 5) (.cons (.var 3) (.cons (.var 4) .nil))))))))) (.cons (.ret (.con (.bl false))) .nil) .nil) (.cons (.ife (.or (.tst (.cmp .NotEq (.oeq (.var 7) (.var 8)) (.cmp .Eq (.var 5) (.var 6)))) (.or (.tst (.oeq (.var 7) (.var 5))) (.tst (.oeq (.var 7) (.blt .tuple (.cons (.var 5) .nil)))))) (.cons (.ret (.con (.bl false))) .nil) .nil) (.cons (.ife (.or (.not (.val (.call (.fn 29) (.cons (.met "begins" (.var 7) (.cons (.var 8) .nil)) (.cons (.cmp .Eq (.sl (.var 6) .none (.some (.blt .len (.cons (.var 5) .nil)))) (.var 5)) .nil))))) (.not (.val (.call (.fn 29) (.cons (.met "begins" (.var 7) (.cons (.obin (.var 7) (.tup .nil)) .nil)) (.cons (.con (.bl true)) .nil)))))) (.cons (.ret (.con (.bl false))) .nil) .nil) (.cons (.ife (.tst (.cmp .NotEq (.met "steps" (.call (.fn 10) (.cons (.ix (.var 4) (.con (.int 0))) .nil)) .nil) (.lst (.cons (.tup (.cons (.con (.str "bar")) (.cons (.ix (.var 4) (.con (.int 0))) .nil))) (.cons (.tup (.cons (.con (.str "halt")) (.cons (.ix (.var 4) (.con (.int 0))) .nil))) .nil))))) (.cons (.ret (.con (.bl false))) .nil) .nil) (.cons (.set (.name 9) (.lst (.cons (.tup (.cons (.con (.str "take")) (.cons (.ix (.var 4) (.con (.int 1))) .nil))) (.cons (.tup (.cons (.con (.str "set")) (.cons (.ix (.var 4) (.con (.int 2))) .nil))) (.cons (.tup (.cons (.con (.str "give")) (.cons (.ix (.var 4) (.con (.int 1))) .nil))) .nil))))) (.cons (.ife (.tst (.cmp .NotEq (.met "steps" (.call (.fn 11) (.cons (.ix (.var 4) (.con (.int 1))) (.cons (.tup (.cons (.con (.str "set")) (.cons (.ix (.var 4) (.con (.int 2))) .nil))) .nil))) .nil) (.var 9))) (.cons (.ret (.con (.bl false))) .nil) .nil) .nil)))))))))))))
def c_law : CSs := (.cons (.fors (.tup (.cons (.name 1) (.cons (.name 2) .nil))) (.enm (.bin .Add (.sl (.var 0) .none (.some (.con (.int 4)))) (.bin .Mult (.lst (.cons (.con (.int 7)) .nil)) (.blt .int (.cons (.cmp .Eq (.var 0) (.lst .nil)) .nil))))) l_law_1) (.cons (.ret (.con (.bl true))) .nil))
def fnT : Nat → Option Fn
  | 0 => some ⟨3, 0, c_is_whole, 0, false⟩
  | 1 => some ⟨1, 1, c_is_name, 0, false⟩
  | 2 => some ⟨1, 0, c_branches, 0, false⟩
  | 3 => some ⟨4, 0, c_is_wrong, 0, false⟩
  | 4 => some ⟨2, 5, c_wrongs, 0, false⟩
  | 5 => some ⟨1, 2, c_lock_fault, 0, false⟩
  | 6 => some ⟨1, 0, c_is_step, 0, false⟩
  | 7 => some ⟨1, 2, c_require_steps, 0, false⟩
  | 9 => some ⟨1, 0, c_Row___init__, 0, true⟩
  | 10 => some ⟨1, 0, c_Row_shut, 0, false⟩
  | 11 => some ⟨1, 1, c_Row_locked, 0, true⟩
  | 12 => some ⟨2, 0, c_Row_parts_of, 0, false⟩
  | 13 => some ⟨2, 1, c_Row___add__, 0, false⟩
  | 14 => some ⟨2, 1, c_Row___radd__, 0, false⟩
  | 15 => some ⟨2, 0, c_Row___contains__, 0, false⟩
  | 16 => some ⟨2, 0, c_Row___getitem__, 0, false⟩
  | 18 => some ⟨1, 0, c_Row___len__, 0, false⟩
  | 19 => some ⟨2, 0, c_Row___eq__, 0, false⟩
  | 20 => some ⟨1, 0, c_Row_steps, 1, false⟩
  | 21 => some ⟨2, 0, c_Row_begins, 0, false⟩
  | 22 => some ⟨2, 1, c_Row_without, 0, false⟩
  | 23 => some ⟨2, 2, c_Row_held, 0, false⟩
  | 24 => some ⟨2, 1, c_Row_names, 0, false⟩
  | 25 => some ⟨3, 5, c__law_numbers, 0, false⟩
  | 26 => some ⟨3, 0, c__law_pool, 1, false⟩
  | 27 => some ⟨2, 1, c__law_draw, 0, false⟩
  | 28 => some ⟨2, 0, c__law_pick, 0, false⟩
  | 29 => some ⟨2, 0, c__law_truth, 0, false⟩
  | 32 => some ⟨1, 0, c__law_kind, 0, false⟩
  | 33 => some ⟨3, 6, c__law_chosen, 0, false⟩
  | 34 => some ⟨1, 3, c__law_kept, 0, false⟩
  | 31 => some ⟨1, 4, c__law_fault, 0, false⟩
  | 35 => some ⟨3, 1, c__law_asked, 0, false⟩
  | 36 => some ⟨2, 8, c__law_tells, 0, false⟩
  | 37 => some ⟨1, 1, c__law_heldrows, 0, false⟩
  | 38 => some ⟨4, 5, c__law_among, 0, false⟩
  | 39 => some ⟨3, 5, c__law_added, 0, false⟩
  | 30 => some ⟨1, 9, c_law, 0, false⟩
  | _ => none
def isbT : Nat → Nat → Bool
  | 4, 4 => true
  | _, _ => false
def subT : Nat → Nat → Bool
  | 0, 0 => true
  | 1, 0 => true
  | 1, 1 => true
  | 2, 2 => true
  | 3, 3 => true
  | _, _ => false
def metL : List (Nat × Str × Nat) := [(4, "__init__", 9), (4, "parts_of", 12), (4, "__add__", 13), (4, "__radd__", 14), (4, "__contains__", 15), (4, "__getitem__", 16), (4, "__len__", 18), (4, "__eq__", 19), (4, "steps", 20), (4, "begins", 21), (4, "without", 22), (4, "held", 23), (4, "names", 24)]
def metT (c : Nat) (m : Str) : Option Nat := (metL.find? fun t => decide (t.1 = c) && decide (t.2.1 = m)).map (·.2.2)
def fldT (c : Nat) (m : Str) : Bool :=
  (decide (c = 4) && decide (m = "own_steps"))
def xflT (c : Nat) (m : Str) : Bool :=
  (decide (c = 2) && decide (m = "value")) || (decide (c = 1) && decide (m = "index")) || (decide (c = 3) && decide (m = "name"))
def xtT : Nat → Option (List Str)
  | 2 => some ["value"]
  | 1 => some ["index"]
  | 3 => some ["name"]
  | _ => none
def cdT : Nat → Option Cd
  | 4 => some ⟨9, true⟩
  | _ => none
def prg : Prg := ⟨⟨subT, isbT, metT, fldT, xflT⟩, ⟨xtT⟩, rpD, fnT, cdT⟩
/-- what the top has written -/
structure Txt (P : Program) (w : World) (K : PySem.W.Frag) (mg : Str → Option Value) (G : GG) : Prop where
  k : K = G.K
  fld : ∀ c f, fldT c f = true → Cls K (G.cl c) ∧ NoAttr K (G.cl c) f
  met : ∀ c m f, metT c m = some f → Cls K (G.cl c) ∧ Meth K (G.cl c) m (G.fa f)
  cls : ∀ c C, cdT c = some C → Mk K (G.cl c) (G.fa C.init)
  c_BAR : ∃ v u, mg "BAR" = some u ∧ RelV v u ∧ ∀ F, Rep G F v (.str "bar")
  c_CHOOSE : ∃ v u, mg "CHOOSE" = some u ∧ RelV v u ∧ ∀ F, Rep G F v (.str "choose")
  c_GIVE : ∃ v u, mg "GIVE" = some u ∧ RelV v u ∧ ∀ F, Rep G F v (.str "give")
  c_HALT : ∃ v u, mg "HALT" = some u ∧ RelV v u ∧ ∀ F, Rep G F v (.str "halt")
  c_LETTERS : ∃ v u, mg "LETTERS" = some u ∧ RelV v u ∧ ∀ F, Rep G F v (.str "abcdefghijklmnopqrstuvwxyz")
  c_MOST_SIGNS : ∃ v u, mg "MOST_SIGNS" = some u ∧ RelV v u ∧ ∀ F, Rep G F v (.int 8)
  c_MOST_STEPS : ∃ v u, mg "MOST_STEPS" = some u ∧ RelV v u ∧ ∀ F, Rep G F v (.int 8)
  c_PIECE : ∃ v u, mg "PIECE" = some u ∧ RelV v u ∧ ∀ F, Rep G F v (.str "piece")
  c_STEPS : ∃ v u, mg "STEPS" = some u ∧ RelV v u ∧ ∀ F, Rep G F v (.tup [(.str "cancel"), (.str "bar"), (.str "halt"), (.str "settle"), (.str "close"), (.str "drain"), (.str "set"), (.str "clear"), (.str "take"), (.str "give")])
  c_TAKE : ∃ v u, mg "TAKE" = some u ∧ RelV v u ∧ ∀ F, Rep G F v (.str "take")
  c_TEST : ∃ v u, mg "TEST" = some u ∧ RelV v u ∧ ∀ F, Rep G F v (.str "test")
  m_all : mg "all" = none
  m_bool : mg "bool" = none
  m_enumerate : mg "enumerate" = none
  m_int : mg "int" = none
  m_isinstance : mg "isinstance" = none
  m_len : mg "len" = none
  m_list : mg "list" = none
  m_max : mg "max" = none
  m_range : mg "range" = none
  m_repr : mg "repr" = none
  m_set : mg "set" = none
  m_sorted : mg "sorted" = none
  m_str : mg "str" = none
  m_tuple : mg "tuple" = none
  kd_KINDS : ∃ d es n, KDict K w d es n ∧ mg "KINDS" = some (.ref d) ∧ ∀ z : Str, (([("works", (.tup [(.str "cancel"), (.str "bar"), (.str "halt"), (.str "settle")])), ("gates", (.tup [(.str "close"), (.str "drain")])), ("flags", (.tup [(.str "set"), (.str "clear")])), ("locks", (.tup [(.str "take"), (.str "give")]))] : List (Str × D)).lookup z = none → PySem.W.nsIn K d z = some none) ∧ (∀ dd, ([("works", (.tup [(.str "cancel"), (.str "bar"), (.str "halt"), (.str "settle")])), ("gates", (.tup [(.str "close"), (.str "drain")])), ("flags", (.tup [(.str "set"), (.str "clear")])), ("locks", (.tup [(.str "take"), (.str "give")]))] : List (Str × D)).lookup z = some dd → ∃ u v, PySem.W.nsIn K d z = some (some u) ∧ RelV v u ∧ ∀ F, Rep G F v dd)
  s_Row_locked : SMet K (G.cl 4) "locked" (G.fa 11)
  k_Row_locked : PySem.W.keepIn K (.ref (G.fa 11)) = true
  s_Row_shut : SMet K (G.cl 4) "shut" (G.fa 10)
  k_Row_shut : PySem.W.keepIn K (.ref (G.fa 10)) = true
  m_super : mg "super" = none
  g_InvalidNumber : mg "InvalidNumber" = some (.ref (G.cl 2))
  g_InvalidStep : mg "InvalidStep" = some (.ref (G.cl 1))
  g_Row : mg "Row" = some (.ref (G.cl 4))
  g_UnknownName : mg "UnknownName" = some (.ref (G.cl 3))
  g__law_added : mg "_law_added" = some (.ref (G.fa 39))
  k__law_added : PySem.W.keepIn K (.ref (G.fa 39)) = true
  g__law_among : mg "_law_among" = some (.ref (G.fa 38))
  k__law_among : PySem.W.keepIn K (.ref (G.fa 38)) = true
  g__law_asked : mg "_law_asked" = some (.ref (G.fa 35))
  k__law_asked : PySem.W.keepIn K (.ref (G.fa 35)) = true
  g__law_chosen : mg "_law_chosen" = some (.ref (G.fa 33))
  k__law_chosen : PySem.W.keepIn K (.ref (G.fa 33)) = true
  g__law_draw : mg "_law_draw" = some (.ref (G.fa 27))
  k__law_draw : PySem.W.keepIn K (.ref (G.fa 27)) = true
  g__law_fault : mg "_law_fault" = some (.ref (G.fa 31))
  k__law_fault : PySem.W.keepIn K (.ref (G.fa 31)) = true
  g__law_heldrows : mg "_law_heldrows" = some (.ref (G.fa 37))
  k__law_heldrows : PySem.W.keepIn K (.ref (G.fa 37)) = true
  g__law_kept : mg "_law_kept" = some (.ref (G.fa 34))
  k__law_kept : PySem.W.keepIn K (.ref (G.fa 34)) = true
  g__law_kind : mg "_law_kind" = some (.ref (G.fa 32))
  k__law_kind : PySem.W.keepIn K (.ref (G.fa 32)) = true
  g__law_numbers : mg "_law_numbers" = some (.ref (G.fa 25))
  k__law_numbers : PySem.W.keepIn K (.ref (G.fa 25)) = true
  g__law_pick : mg "_law_pick" = some (.ref (G.fa 28))
  k__law_pick : PySem.W.keepIn K (.ref (G.fa 28)) = true
  g__law_pool : mg "_law_pool" = some (.ref (G.fa 26))
  k__law_pool : PySem.W.keepIn K (.ref (G.fa 26)) = true
  g__law_tells : mg "_law_tells" = some (.ref (G.fa 36))
  k__law_tells : PySem.W.keepIn K (.ref (G.fa 36)) = true
  g__law_truth : mg "_law_truth" = some (.ref (G.fa 29))
  k__law_truth : PySem.W.keepIn K (.ref (G.fa 29)) = true
  g_branches : mg "branches" = some (.ref (G.fa 2))
  k_branches : PySem.W.keepIn K (.ref (G.fa 2)) = true
  g_is_name : mg "is_name" = some (.ref (G.fa 1))
  k_is_name : PySem.W.keepIn K (.ref (G.fa 1)) = true
  g_is_step : mg "is_step" = some (.ref (G.fa 6))
  k_is_step : PySem.W.keepIn K (.ref (G.fa 6)) = true
  g_is_whole : mg "is_whole" = some (.ref (G.fa 0))
  k_is_whole : PySem.W.keepIn K (.ref (G.fa 0)) = true
  g_is_wrong : mg "is_wrong" = some (.ref (G.fa 3))
  k_is_wrong : PySem.W.keepIn K (.ref (G.fa 3)) = true
  g_lock_fault : mg "lock_fault" = some (.ref (G.fa 5))
  k_lock_fault : PySem.W.keepIn K (.ref (G.fa 5)) = true
  g_require_steps : mg "require_steps" = some (.ref (G.fa 7))
  k_require_steps : PySem.W.keepIn K (.ref (G.fa 7)) = true
  g_wrongs : mg "wrongs" = some (.ref (G.fa 4))
  k_wrongs : PySem.W.keepIn K (.ref (G.fa 4)) = true
  isiO : ∀ c a dx fs (H : Hp), H a = some (.ins (G.cl c) dx fs) → isbT c c = true → TyX K H (.ref a) (.ref (G.cl c))
  isiK : ∀ (t : Ty) (d : D), (∀ c fs, d = .obj c fs → isbT c c = true) → (∀ c, t = .cls c → isbT c c = true) → PySem.W.kitOne K (tyD G d) (tyU G t) = some (isiD isbT t d)
  eqN : ∀ c f, metT c "__eq__" = some f → ∀ d, (∀ c fs, d ≠ .obj c fs) → PySem.W.notFirst K (G.cl c) (tyD G d) = true
  giN : ∀ c f, metT c "__getitem__" = some f → PySem.W.fnIn K (G.fa f) = true
  addL : ∀ c f, metT c "__add__" = some f → PySem.W.selfFirst K (G.cl c) = true ∧ (∃ rc, PySem.W.findIn K (.ref (G.cl c)) "__radd__" = some rc ∧ (rc = none ∨ ∃ g : Addr, rc = some (.ref g))) ∧
    ∀ d, (∀ c fs, d ≠ .obj c fs) → ∃ T fo ro, tyD G d = .type T ∧ PySem.W.findIn K (.type T) "__add__" = some fo ∧ PySem.W.findIn K (.type T) "__radd__" = some ro ∧ PySem.W.subIn K (.type T) (.ref (G.cl c)) = some false
  addR : ∀ c f, metT c "__radd__" = some f → PySem.W.selfFirst K (G.cl c) = true ∧ (∃ g : Addr, PySem.W.findIn K (.ref (G.cl c)) "__add__" = some (some (.ref g))) ∧
    ∃ fo ro, PySem.W.findIn K (.type "tuple") "__add__" = some fo ∧ PySem.W.findIn K (.type "tuple") "__radd__" = some ro ∧ ((fo.isSome && !isSeqSlot fo) || (ro.isSome && !isSeqSlot ro)) = false
  x_InvalidNumber : ∃ fI, TDX.XIni P K (G.cl 2) fI "ValueError" "ValueError.__new__" "ValueError.__init__" [.type "ValueError", .type "Exception", .type "BaseException", .type "object"] ["value"]
  e_InvalidNumber : ∀ j, (xtT j).isSome = true → PySem.W.exmOne K (.ref (G.cl j)) (.ref (G.cl 2)) = some (subT j 2)
  x_InvalidStep : ∃ fI, TDX.XIni P K (G.cl 1) fI "Exception" "Exception.__new__" "Exception.__init__" [.type "Exception", .type "BaseException", .type "object"] ["index"]
  e_InvalidStep : ∀ j, (xtT j).isSome = true → PySem.W.exmOne K (.ref (G.cl j)) (.ref (G.cl 1)) = some (subT j 1)
  x_UnknownName : ∃ fI, TDX.XIni P K (G.cl 3) fI "LookupError" "LookupError.__new__" "LookupError.__init__" [.type "LookupError", .type "Exception", .type "BaseException", .type "object"] ["name"]
  e_UnknownName : ∀ j, (xtT j).isSome = true → PySem.W.exmOne K (.ref (G.cl j)) (.ref (G.cl 3)) = some (subT j 3)
  xf : ∀ c f, xflT c f = true → XfC K (G.cl c) ∧ PySem.W.findIn K (.ref (G.cl c)) f = some none
section
variable {P : Program} {w : World} {K : PySem.W.Frag} {mg : Str → Option Value} {base : Heap} {G : GG} {k : Nat} {cdv : Value}
theorem d_is_whole (T : Txt P w K mg G) (A : Around) (outer : List PySem.Env) (s : Shared) (H : Hp) (E : XK) (h : Ok (kxOf P w K mg base N_is_whole "is_whole" (defScope s_is_whole) (G.fa 0) cdv A outer s H E G prg k)) : JSs (kxOf P w K mg base N_is_whole "is_whole" (defScope s_is_whole) (G.fa 0) cdv A outer s H E G prg k) (defBody s_is_whole) c_is_whole := by
  exact (jss_cons (js_ret (je_and (je_isi h.toOk1.toOk0 ⟨T.isiO, T.isiK⟩ (fun _ z => by cases z) (je_var (i := 0) (by rfl) (by first | exact .inl rfl | exact .inr (.inl rfl) | exact .inr (.inr rfl))) (pe_bltn (u := .type "int") (by rfl) T.m_int (by decide +kernel) (by rfl)) (by rfl) T.m_isinstance) (je_and (je_not (je_isi h.toOk1.toOk0 ⟨T.isiO, T.isiK⟩ (fun _ z => by cases z) (je_var (i := 0) (by rfl) (by first | exact .inl rfl | exact .inr (.inl rfl) | exact .inr (.inr rfl))) (pe_bltn (u := .type "bool") (by rfl) T.m_bool (by decide +kernel) (by rfl)) (by rfl) T.m_isinstance)) (je_one (je_chn h.toOk1.toOk0 (je_var (i := 1) (by rfl) (by first | exact .inl rfl | exact .inr (.inl rfl) | exact .inr (.inr rfl))) (je_var (i := 0) (by rfl) (by first | exact .inl rfl | exact .inr (.inl rfl) | exact .inr (.inr rfl))) (je_var (i := 2) (by rfl) (by first | exact .inl rfl | exact .inr (.inl rfl) | exact .inr (.inr rfl))))))))
    jss_nil)
theorem d_is_name (T : Txt P w K mg G) (A : Around) (outer : List PySem.Env) (s : Shared) (H : Hp) (E : XK) (h : Ok (kxOf P w K mg base N_is_name "is_name" (defScope s_is_name) (G.fa 1) cdv A outer s H E G prg k)) : JSs (kxOf P w K mg base N_is_name "is_name" (defScope s_is_name) (G.fa 1) cdv A outer s H E G prg k) (defBody s_is_name) c_is_name := by
  exact (jss_cons (js_if (jt_w (jw_or (jt_not (jt_val h.toOk1.toOk0 (je_isi h.toOk1.toOk0 ⟨T.isiO, T.isiK⟩ (fun _ z => by cases z) (je_var (i := 0) (by rfl) (by first | exact .inl rfl | exact .inr (.inl rfl) | exact .inr (.inr rfl))) (pe_bltn (u := .type "str") (by rfl) T.m_str (by decide +kernel) (by rfl)) (by rfl) T.m_isinstance))) (jw_or1 (jt_not (jt_chn h.toOk1.toOk0 je_int (je_bltB (call_len_ok h.toOk1.toOk0) (by rfl) T.m_len (by decide +kernel) (ja_cons (je_var (i := 0) (by rfl) (by first | exact .inl rfl | exact .inr (.inl rfl) | exact .inr (.inr rfl))) ja_nil)) (je_glb ⟨T.c_MOST_SIGNS⟩ (by rfl))))))) (jss_cons (js_ret je_bl)
    jss_nil) jss_nil)
    (jss_cons (js_ret (je_bltB (call_all_ok h.calm) (by rfl) T.m_all (by decide +kernel) (ja_cons (je_lc (own := [("sign", 1)]) h (ji_chars (je_var (i := 0) (by rfl) (by first | exact .inl rfl | exact .inr (.inl rfl) | exact .inr (.inr rfl)))) (blkOk_by (N := N_is_name) (sc := defScope s_is_name) (by decide +kernel)) (by rfl) (fun _ _ _ _ _ => (jg_name h.nd (by rfl) (by first | exact .inl rfl | exact .inr rfl) (by first | exact .inl rfl | exact .inr rfl))) (fun _ _ _ _ _ => jts_nil) (fun _ _ _ _ _ => (je_cmp (h.blk _ _ _ _ _).toOk1.toOk0 (je_var (i := 1) (by rfl) (by first | exact .inl rfl | exact .inr (.inl rfl) | exact .inr (.inr rfl))) (je_glb ⟨T.c_LETTERS⟩ (by rfl))))) ja_nil)))
    jss_nil))
theorem d_branches (T : Txt P w K mg G) (A : Around) (outer : List PySem.Env) (s : Shared) (H : Hp) (E : XK) (h : Ok (kxOf P w K mg base N_branches "branches" (defScope s_branches) (G.fa 2) cdv A outer s H E G prg k)) : JSs (kxOf P w K mg base N_branches "branches" (defScope s_branches) (G.fa 2) cdv A outer s H E G prg k) (defBody s_branches) c_branches := by
  exact (jss_cons (js_if (jt_cmp h.toOk1.toOk0 (je_ix h.toOk1.toOk0 (je_var (i := 0) (by rfl) (by first | exact .inl rfl | exact .inr (.inl rfl) | exact .inr (.inr rfl))) je_int) (je_glb ⟨T.c_TEST⟩ (by rfl))) (jss_cons (js_ret (je_tup (ja_cons (je_ix h.toOk1.toOk0 (je_var (i := 0) (by rfl) (by first | exact .inl rfl | exact .inr (.inl rfl) | exact .inr (.inr rfl))) je_int) (ja_cons (je_ix h.toOk1.toOk0 (je_var (i := 0) (by rfl) (by first | exact .inl rfl | exact .inr (.inl rfl) | exact .inr (.inr rfl))) je_int) ja_nil))))
    jss_nil) jss_nil)
    (jss_cons (js_if (jt_cmp h.toOk1.toOk0 (je_ix h.toOk1.toOk0 (je_var (i := 0) (by rfl) (by first | exact .inl rfl | exact .inr (.inl rfl) | exact .inr (.inr rfl))) je_int) (je_glb ⟨T.c_CHOOSE⟩ (by rfl))) (jss_cons (js_ret (je_tup (ja_cons (je_ix h.toOk1.toOk0 (je_var (i := 0) (by rfl) (by first | exact .inl rfl | exact .inr (.inl rfl) | exact .inr (.inr rfl))) je_int) (ja_cons (je_ix h.toOk1.toOk0 (je_var (i := 0) (by rfl) (by first | exact .inl rfl | exact .inr (.inl rfl) | exact .inr (.inr rfl))) je_int) ja_nil))))
    jss_nil) jss_nil)
    (jss_cons (js_ret (je_tup (ja_cons (je_tup ja_nil) (ja_cons (je_tup ja_nil) ja_nil))))
    jss_nil)))
theorem d_is_wrong (T : Txt P w K mg G) (A : Around) (outer : List PySem.Env) (s : Shared) (H : Hp) (E : XK) (h : Ok (kxOf P w K mg base N_is_wrong "is_wrong" (defScope s_is_wrong) (G.fa 3) cdv A outer s H E G prg k)) : JSs (kxOf P w K mg base N_is_wrong "is_wrong" (defScope s_is_wrong) (G.fa 3) cdv A outer s H E G prg k) (defBody s_is_wrong) c_is_wrong := by
  exact (jss_cons (js_if (jt_cmp h.toOk1.toOk0 (je_ix h.toOk1.toOk0 (je_var (i := 0) (by rfl) (by first | exact .inl rfl | exact .inr (.inl rfl) | exact .inr (.inr rfl))) je_int) (je_glb ⟨T.c_TAKE⟩ (by rfl))) (jss_cons (js_ret (je_or (je_cmp h.toOk1.toOk0 (je_ix h.toOk1.toOk0 (je_var (i := 0) (by rfl) (by first | exact .inl rfl | exact .inr (.inl rfl) | exact .inr (.inr rfl))) je_int) (je_var (i := 1) (by rfl) (by first | exact .inl rfl | exact .inr (.inl rfl) | exact .inr (.inr rfl)))) (je_one (je_cmp h.toOk1.toOk0 (je_tup (ja_cons (je_glb ⟨T.c_GIVE⟩ (by rfl)) (ja_cons (je_ix h.toOk1.toOk0 (je_var (i := 0) (by rfl) (by first | exact .inl rfl | exact .inr (.inl rfl) | exact .inr (.inr rfl))) je_int) ja_nil))) (je_var (i := 3) (by rfl) (by first | exact .inl rfl | exact .inr (.inl rfl) | exact .inr (.inr rfl)))))))
    jss_nil) jss_nil)
    (jss_cons (js_if (jt_cmp h.toOk1.toOk0 (je_ix h.toOk1.toOk0 (je_var (i := 0) (by rfl) (by first | exact .inl rfl | exact .inr (.inl rfl) | exact .inr (.inr rfl))) je_int) (je_glb ⟨T.c_GIVE⟩ (by rfl))) (jss_cons (js_ret (je_or (je_cmp h.toOk1.toOk0 (je_var (i := 2) (by rfl) (by first | exact .inl rfl | exact .inr (.inl rfl) | exact .inr (.inr rfl))) (je_tup ja_nil)) (je_one (je_cmp h.toOk1.toOk0 (je_ix h.toOk1.toOk0 (je_var (i := 2) (by rfl) (by first | exact .inl rfl | exact .inr (.inl rfl) | exact .inr (.inr rfl))) (je_neg h.toOk1.toOk0 je_int)) (je_ix h.toOk1.toOk0 (je_var (i := 0) (by rfl) (by first | exact .inl rfl | exact .inr (.inl rfl) | exact .inr (.inr rfl))) je_int)))))
    jss_nil) jss_nil)
    (jss_cons (js_ret (je_and (je_cmp h.toOk1.toOk0 (je_ix h.toOk1.toOk0 (je_var (i := 0) (by rfl) (by first | exact .inl rfl | exact .inr (.inl rfl) | exact .inr (.inr rfl))) je_int) (je_glb ⟨T.c_PIECE⟩ (by rfl))) (je_one (je_cmp h.toOk1.toOk0 (je_ix h.toOk1.toOk0 (je_var (i := 0) (by rfl) (by first | exact .inl rfl | exact .inr (.inl rfl) | exact .inr (.inr rfl))) je_int) (je_var (i := 1) (by rfl) (by first | exact .inl rfl | exact .inr (.inl rfl) | exact .inr (.inr rfl)))))))
    jss_nil)))
theorem d_wrongs (T : Txt P w K mg G) (A : Around) (outer : List PySem.Env) (s : Shared) (H : Hp) (E : XK) (h : Ok (kxOf P w K mg base N_wrongs "wrongs" (defScope s_wrongs) (G.fa 4) cdv A outer s H E G prg k)) : JSs (kxOf P w K mg base N_wrongs "wrongs" (defScope s_wrongs) (G.fa 4) cdv A outer s H E G prg k) (defBody s_wrongs) c_wrongs := by
  exact (jss_cons (js_set (i := 2) h.nd (by rfl) (by first | exact .inl rfl | exact .inr rfl) (.inl rfl) (je_new ja_nil))
    (jss_cons (js_set (i := 3) h.nd (by rfl) (by first | exact .inl rfl | exact .inr rfl) (.inl rfl) (je_tup ja_nil))
    (jss_cons (js_for h (ji_enm h.toOk1.toOk0 (by rfl) T.m_enumerate (je_var (i := 0) (by rfl) (by first | exact .inl rfl | exact .inr (.inl rfl) | exact .inr (.inr rfl)))) (jg_tup h.toOk1.toOk0 h.calm (jgs_cons (jg_name h.nd (by rfl) (by first | exact .inl rfl | exact .inr rfl) (by first | exact .inl rfl | exact .inr rfl)) (jgs_cons (jg_name h.nd (by rfl) (by first | exact .inl rfl | exact .inr rfl) (by first | exact .inl rfl | exact .inr rfl)) jgs_nil))) (jss_cons (js_append (je_var (i := 2) (by rfl) (by first | exact .inl rfl | exact .inr (.inl rfl) | exact .inr (.inr rfl))) (je_call (cal_fn h T.k_is_wrong) (by rfl) T.g_is_wrong (ja_cons (je_var (i := 5) (by rfl) (by first | exact .inl rfl | exact .inr (.inl rfl) | exact .inr (.inr rfl))) (ja_cons (je_bin h.toOk1.toOk0 (je_var (i := 1) (by rfl) (by first | exact .inl rfl | exact .inr (.inl rfl) | exact .inr (.inr rfl))) (je_var (i := 3) (by rfl) (by first | exact .inl rfl | exact .inr (.inl rfl) | exact .inr (.inr rfl)))) (ja_cons (je_var (i := 3) (by rfl) (by first | exact .inl rfl | exact .inr (.inl rfl) | exact .inr (.inr rfl))) (ja_cons (je_sl h.toOk1.toOk0 (je_var (i := 0) (by rfl) (by first | exact .inl rfl | exact .inr (.inl rfl) | exact .inr (.inr rfl))) (jo_some (je_bin h.toOk1.toOk0 (je_var (i := 4) (by rfl) (by first | exact .inl rfl | exact .inr (.inl rfl) | exact .inr (.inr rfl))) je_int)) jo_none) ja_nil))))))
    (jss_cons (js_if (jt_cmp h.toOk1.toOk0 (je_ix h.toOk1.toOk0 (je_var (i := 5) (by rfl) (by first | exact .inl rfl | exact .inr (.inl rfl) | exact .inr (.inr rfl))) je_int) (je_glb ⟨T.c_TAKE⟩ (by rfl))) (jss_cons (js_set (i := 3) h.nd (by rfl) (by first | exact .inl rfl | exact .inr rfl) (.inl rfl) (je_bin h.toOk1.toOk0 (je_var (i := 3) (by rfl) (by first | exact .inl rfl | exact .inr (.inl rfl) | exact .inr (.inr rfl))) (je_tup (ja_cons (je_ix h.toOk1.toOk0 (je_var (i := 5) (by rfl) (by first | exact .inl rfl | exact .inr (.inl rfl) | exact .inr (.inr rfl))) je_int) ja_nil))))
    jss_nil) jss_nil)
    (jss_cons (js_if (jt_cmp h.toOk1.toOk0 (je_ix h.toOk1.toOk0 (je_var (i := 5) (by rfl) (by first | exact .inl rfl | exact .inr (.inl rfl) | exact .inr (.inr rfl))) je_int) (je_glb ⟨T.c_GIVE⟩ (by rfl))) (jss_cons (js_set (i := 3) h.nd (by rfl) (by first | exact .inl rfl | exact .inr rfl) (.inl rfl) (je_sl h.toOk1.toOk0 (je_var (i := 3) (by rfl) (by first | exact .inl rfl | exact .inr (.inl rfl) | exact .inr (.inr rfl))) jo_none (jo_some (je_neg h.toOk1.toOk0 je_int))))
    jss_nil) jss_nil)
    (jss_cons (js_for h (ji_seq h.toOk1.toOk0 (je_call (cal_fn h T.k_branches) (by rfl) T.g_branches (ja_cons (je_var (i := 5) (by rfl) (by first | exact .inl rfl | exact .inr (.inl rfl) | exact .inr (.inr rfl))) ja_nil))) (jg_name h.nd (by rfl) (by first | exact .inl rfl | exact .inr rfl) (by first | exact .inl rfl | exact .inr rfl)) (jss_cons (js_extend (je_var (i := 2) (by rfl) (by first | exact .inl rfl | exact .inr (.inl rfl) | exact .inr (.inr rfl))) (je_call (cal_fn h T.k_wrongs) (by rfl) T.g_wrongs (ja_cons (je_var (i := 6) (by rfl) (by first | exact .inl rfl | exact .inr (.inl rfl) | exact .inr (.inr rfl))) (ja_cons (je_bin h.toOk1.toOk0 (je_var (i := 1) (by rfl) (by first | exact .inl rfl | exact .inr (.inl rfl) | exact .inr (.inr rfl))) (je_var (i := 3) (by rfl) (by first | exact .inl rfl | exact .inr (.inl rfl) | exact .inr (.inr rfl)))) ja_nil))))
    jss_nil))
    jss_nil)))))
    (jss_cons (js_ret (je_var (i := 2) (by rfl) (by first | exact .inl rfl | exact .inr (.inl rfl) | exact .inr (.inr rfl))))
    jss_nil))))
theorem d_lock_fault (T : Txt P w K mg G) (A : Around) (outer : List PySem.Env) (s : Shared) (H : Hp) (E : XK) (h : Ok (kxOf P w K mg base N_lock_fault "lock_fault" (defScope s_lock_fault) (G.fa 5) cdv A outer s H E G prg k)) : JSs (kxOf P w K mg base N_lock_fault "lock_fault" (defScope s_lock_fault) (G.fa 5) cdv A outer s H E G prg k) (defBody s_lock_fault) c_lock_fault := by
  exact (jss_cons (js_for h (ji_enm h.toOk1.toOk0 (by rfl) T.m_enumerate (je_call (cal_fn h T.k_wrongs) (by rfl) T.g_wrongs (ja_cons (je_var (i := 0) (by rfl) (by first | exact .inl rfl | exact .inr (.inl rfl) | exact .inr (.inr rfl))) (ja_cons (je_tup ja_nil) ja_nil)))) (jg_tup h.toOk1.toOk0 h.calm (jgs_cons (jg_name h.nd (by rfl) (by first | exact .inl rfl | exact .inr rfl) (by first | exact .inl rfl | exact .inr rfl)) (jgs_cons (jg_name h.nd (by rfl) (by first | exact .inl rfl | exact .inr rfl) (by first | exact .inl rfl | exact .inr rfl)) jgs_nil))) (jss_cons (js_if (jt_val h.toOk1.toOk0 (je_var (i := 2) (by rfl) (by first | exact .inl rfl | exact .inr (.inl rfl) | exact .inr (.inr rfl)))) (jss_cons (js_ret (je_var (i := 1) (by rfl) (by first | exact .inl rfl | exact .inr (.inl rfl) | exact .inr (.inr rfl))))
    jss_nil) jss_nil)
    jss_nil))
    (jss_cons (js_ret je_non)
    jss_nil))
theorem d_is_step (T : Txt P w K mg G) (A : Around) (outer : List PySem.Env) (s : Shared) (H : Hp) (E : XK) (h : Ok (kxOf P w K mg base N_is_step "is_step" (defScope s_is_step) (G.fa 6) cdv A outer s H E G prg k)) : JSs (kxOf P w K mg base N_is_step "is_step" (defScope s_is_step) (G.fa 6) cdv A outer s H E G prg k) (defBody s_is_step) c_is_step := by
  exact (jss_cons (js_ret (je_and (je_isi h.toOk1.toOk0 ⟨T.isiO, T.isiK⟩ (fun _ z => by cases z) (je_var (i := 0) (by rfl) (by first | exact .inl rfl | exact .inr (.inl rfl) | exact .inr (.inr rfl))) (pe_bltn (u := .type "tuple") (by rfl) T.m_tuple (by decide +kernel) (by rfl)) (by rfl) T.m_isinstance) (je_and (je_cmp h.toOk1.toOk0 (je_bltB (call_len_ok h.toOk1.toOk0) (by rfl) T.m_len (by decide +kernel) (ja_cons (je_var (i := 0) (by rfl) (by first | exact .inl rfl | exact .inr (.inl rfl) | exact .inr (.inr rfl))) ja_nil)) je_int) (je_and (je_cmp h.toOk1.toOk0 (je_ix h.toOk1.toOk0 (je_var (i := 0) (by rfl) (by first | exact .inl rfl | exact .inr (.inl rfl) | exact .inr (.inr rfl))) je_int) (je_glb ⟨T.c_STEPS⟩ (by rfl))) (je_one (je_call (cal_fn h T.k_is_name) (by rfl) T.g_is_name (ja_cons (je_ix h.toOk1.toOk0 (je_var (i := 0) (by rfl) (by first | exact .inl rfl | exact .inr (.inl rfl) | exact .inr (.inr rfl))) je_int) ja_nil)))))))
    jss_nil)
theorem d_require_steps (T : Txt P w K mg G) (A : Around) (outer : List PySem.Env) (s : Shared) (H : Hp) (E : XK) (h : Ok (kxOf P w K mg base N_require_steps "require_steps" (defScope s_require_steps) (G.fa 7) cdv A outer s H E G prg k)) : JSs (kxOf P w K mg base N_require_steps "require_steps" (defScope s_require_steps) (G.fa 7) cdv A outer s H E G prg k) (defBody s_require_steps) c_require_steps := by
  obtain ⟨fI_InvalidStep, x_InvalidStep⟩ := T.x_InvalidStep
  exact (jss_cons (js_for h (ji_enm h.toOk1.toOk0 (by rfl) T.m_enumerate (je_var (i := 0) (by rfl) (by first | exact .inl rfl | exact .inr (.inl rfl) | exact .inr (.inr rfl)))) (jg_tup h.toOk1.toOk0 h.calm (jgs_cons (jg_name h.nd (by rfl) (by first | exact .inl rfl | exact .inr rfl) (by first | exact .inl rfl | exact .inr rfl)) (jgs_cons (jg_name h.nd (by rfl) (by first | exact .inl rfl | exact .inr rfl) (by first | exact .inl rfl | exact .inr rfl)) jgs_nil))) (jss_cons (js_if (jt_not (jt_val h.toOk1.toOk0 (je_call (cal_fn h T.k_is_step) (by rfl) T.g_is_step (ja_cons (je_var (i := 2) (by rfl) (by first | exact .inl rfl | exact .inr (.inl rfl) | exact .inr (.inr rfl))) ja_nil)))) (jss_cons (js_raise h (jx_call h x_InvalidStep (by decide +kernel) (by rfl) (by rfl) T.g_InvalidStep T.m_super (ja_cons (je_var (i := 1) (by rfl) (by first | exact .inl rfl | exact .inr (.inl rfl) | exact .inr (.inr rfl))) ja_nil)))
    jss_nil) jss_nil)
    jss_nil))
    (jss_cons (js_if (jt_cmp h.toOk1.toOk0 (je_bltB (call_len_ok h.toOk1.toOk0) (by rfl) T.m_len (by decide +kernel) (ja_cons (je_var (i := 0) (by rfl) (by first | exact .inl rfl | exact .inr (.inl rfl) | exact .inr (.inr rfl))) ja_nil)) (je_glb ⟨T.c_MOST_STEPS⟩ (by rfl))) (jss_cons (js_raise h (jx_call h x_InvalidStep (by decide +kernel) (by rfl) (by rfl) T.g_InvalidStep T.m_super (ja_cons je_non ja_nil)))
    jss_nil) jss_nil)
    (jss_cons (js_set (i := 1) h.nd (by rfl) (by first | exact .inl rfl | exact .inr rfl) (.inl rfl) (je_call (cal_fn h T.k_lock_fault) (by rfl) T.g_lock_fault (ja_cons (je_var (i := 0) (by rfl) (by first | exact .inl rfl | exact .inr (.inl rfl) | exact .inr (.inr rfl))) ja_nil)))
    (jss_cons (js_if (jt_cmp h.toOk1.toOk0 (je_var (i := 1) (by rfl) (by first | exact .inl rfl | exact .inr (.inl rfl) | exact .inr (.inr rfl))) je_non) (jss_cons (js_raise h (jx_call h x_InvalidStep (by decide +kernel) (by rfl) (by rfl) T.g_InvalidStep T.m_super (ja_cons (je_var (i := 1) (by rfl) (by first | exact .inl rfl | exact .inr (.inl rfl) | exact .inr (.inr rfl))) ja_nil)))
    jss_nil) jss_nil)
    jss_nil))))
theorem d_Row___init__ (T : Txt P w K mg G) (A : Around) (outer : List PySem.Env) (s : Shared) (H : Hp) (E : XK) (h : Ok (kxOf P w K mg base N_Row___init__ "Row.__init__" (defScope s_Row___init__) (G.fa 9) cdv A outer s H E G prg k)) : JSs (kxOf P w K mg base N_Row___init__ "Row.__init__" (defScope s_Row___init__) (G.fa 9) cdv A outer s H E G prg k) (defBody s_Row___init__) c_Row___init__ := by
  exact (jss_cons (js_expr (je_call (cal_fn h T.k_require_steps) (by rfl) T.g_require_steps (ja_cons (je_var (i := 1) (by rfl) (by first | exact .inl rfl | exact .inr (.inl rfl) | exact .inr (.inr rfl))) ja_nil)))
    (jss_cons (js_fld h.toOk1 (je_var (i := 0) (by rfl) (by first | exact .inl rfl | exact .inr (.inl rfl) | exact .inr (.inr rfl))) (je_var (i := 1) (by rfl) (by first | exact .inl rfl | exact .inr (.inl rfl) | exact .inr (.inr rfl))))
    jss_nil))
theorem d_Row_shut (T : Txt P w K mg G) (A : Around) (outer : List PySem.Env) (s : Shared) (H : Hp) (E : XK) (h : Ok (kxOf P w K mg base N_Row_shut "Row.shut" (defScope s_Row_shut) (G.fa 10) cdv A outer s H E G prg k)) : JSs (kxOf P w K mg base N_Row_shut "Row.shut" (defScope s_Row_shut) (G.fa 10) cdv A outer s H E G prg k) (defBody s_Row_shut) c_Row_shut := by
  exact (jss_cons (js_ret (je_call (cal_mk h rfl) (by rfl) T.g_Row (ja_cons (je_tup (ja_cons (je_glb ⟨T.c_BAR⟩ (by rfl)) (ja_cons (je_var (i := 0) (by rfl) (by first | exact .inl rfl | exact .inr (.inl rfl) | exact .inr (.inr rfl))) ja_nil))) (ja_cons (je_tup (ja_cons (je_glb ⟨T.c_HALT⟩ (by rfl)) (ja_cons (je_var (i := 0) (by rfl) (by first | exact .inl rfl | exact .inr (.inl rfl) | exact .inr (.inr rfl))) ja_nil))) ja_nil))))
    jss_nil)
theorem d_Row_locked (T : Txt P w K mg G) (A : Around) (outer : List PySem.Env) (s : Shared) (H : Hp) (E : XK) (h : Ok (kxOf P w K mg base N_Row_locked "Row.locked" (defScope s_Row_locked) (G.fa 11) cdv A outer s H E G prg k)) : JSs (kxOf P w K mg base N_Row_locked "Row.locked" (defScope s_Row_locked) (G.fa 11) cdv A outer s H E G prg k) (defBody s_Row_locked) c_Row_locked := by
  exact (jss_cons (js_set (i := 2) h.nd (by rfl) (by first | exact .inl rfl | exact .inr rfl) (.inl rfl) (je_bin h.toOk1.toOk0 (je_bin h.toOk1.toOk0 (je_tup (ja_cons (je_tup (ja_cons (je_glb ⟨T.c_TAKE⟩ (by rfl)) (ja_cons (je_var (i := 0) (by rfl) (by first | exact .inl rfl | exact .inr (.inl rfl) | exact .inr (.inr rfl))) ja_nil))) ja_nil)) (je_var (i := 1) (by rfl) (by first | exact .inl rfl | exact .inr (.inl rfl) | exact .inr (.inr rfl)))) (je_tup (ja_cons (je_tup (ja_cons (je_glb ⟨T.c_GIVE⟩ (by rfl)) (ja_cons (je_var (i := 0) (by rfl) (by first | exact .inl rfl | exact .inr (.inl rfl) | exact .inr (.inr rfl))) ja_nil))) ja_nil))))
    (jss_cons (js_ret (je_call1 h.toOk1.toOk0 (cal_mk h rfl) (by rfl) T.g_Row (je_var (i := 2) (by rfl) (by first | exact .inl rfl | exact .inr (.inl rfl) | exact .inr (.inr rfl)))))
    jss_nil))
theorem d_Row_parts_of (T : Txt P w K mg G) (A : Around) (outer : List PySem.Env) (s : Shared) (H : Hp) (E : XK) (h : Ok (kxOf P w K mg base N_Row_parts_of "Row.parts_of" (defScope s_Row_parts_of) (G.fa 12) cdv A outer s H E G prg k)) : JSs (kxOf P w K mg base N_Row_parts_of "Row.parts_of" (defScope s_Row_parts_of) (G.fa 12) cdv A outer s H E G prg k) (defBody s_Row_parts_of) c_Row_parts_of := by
  obtain ⟨fI_InvalidStep, x_InvalidStep⟩ := T.x_InvalidStep
  exact (jss_cons (js_if (jt_val h.toOk1.toOk0 (je_isi h.toOk1.toOk0 ⟨T.isiO, T.isiK⟩ (fun _ z => by cases z; rfl) (je_var (i := 1) (by rfl) (by first | exact .inl rfl | exact .inr (.inl rfl) | exact .inr (.inr rfl))) (pe_glob (by rfl) T.g_Row (by rfl)) (by rfl) T.m_isinstance)) (jss_cons (js_ret (je_fld h.toOk1 (je_var (i := 1) (by rfl) (by first | exact .inl rfl | exact .inr (.inl rfl) | exact .inr (.inr rfl)))))
    jss_nil) jss_nil)
    (jss_cons (js_if (jt_not (jt_val h.toOk1.toOk0 (je_isi h.toOk1.toOk0 ⟨T.isiO, T.isiK⟩ (fun _ z => by cases z) (je_var (i := 1) (by rfl) (by first | exact .inl rfl | exact .inr (.inl rfl) | exact .inr (.inr rfl))) (pe_bltn (u := .type "tuple") (by rfl) T.m_tuple (by decide +kernel) (by rfl)) (by rfl) T.m_isinstance))) (jss_cons (js_raise h (jx_call h x_InvalidStep (by decide +kernel) (by rfl) (by rfl) T.g_InvalidStep T.m_super (ja_cons je_non ja_nil)))
    jss_nil) jss_nil)
    (jss_cons (js_ret (je_var (i := 1) (by rfl) (by first | exact .inl rfl | exact .inr (.inl rfl) | exact .inr (.inr rfl))))
    jss_nil)))
theorem d_Row___add__ (T : Txt P w K mg G) (A : Around) (outer : List PySem.Env) (s : Shared) (H : Hp) (E : XK) (h : Ok (kxOf P w K mg base N_Row___add__ "Row.__add__" (defScope s_Row___add__) (G.fa 13) cdv A outer s H E G prg k)) : JSs (kxOf P w K mg base N_Row___add__ "Row.__add__" (defScope s_Row___add__) (G.fa 13) cdv A outer s H E G prg k) (defBody s_Row___add__) c_Row___add__ := by
  exact (jss_cons (js_set (i := 2) h.nd (by rfl) (by first | exact .inl rfl | exact .inr rfl) (.inl rfl) (je_bin h.toOk1.toOk0 (je_fld h.toOk1 (je_var (i := 0) (by rfl) (by first | exact .inl rfl | exact .inr (.inl rfl) | exact .inr (.inr rfl)))) (je_met h (je_var (i := 0) (by rfl) (by first | exact .inl rfl | exact .inr (.inl rfl) | exact .inr (.inr rfl))) (ja_cons (je_var (i := 1) (by rfl) (by first | exact .inl rfl | exact .inr (.inl rfl) | exact .inr (.inr rfl))) ja_nil))))
    (jss_cons (js_ret (je_call1 h.toOk1.toOk0 (cal_mk h rfl) (by rfl) T.g_Row (je_var (i := 2) (by rfl) (by first | exact .inl rfl | exact .inr (.inl rfl) | exact .inr (.inr rfl)))))
    jss_nil))
theorem d_Row___radd__ (T : Txt P w K mg G) (A : Around) (outer : List PySem.Env) (s : Shared) (H : Hp) (E : XK) (h : Ok (kxOf P w K mg base N_Row___radd__ "Row.__radd__" (defScope s_Row___radd__) (G.fa 14) cdv A outer s H E G prg k)) : JSs (kxOf P w K mg base N_Row___radd__ "Row.__radd__" (defScope s_Row___radd__) (G.fa 14) cdv A outer s H E G prg k) (defBody s_Row___radd__) c_Row___radd__ := by
  exact (jss_cons (js_set (i := 2) h.nd (by rfl) (by first | exact .inl rfl | exact .inr rfl) (.inl rfl) (je_bin h.toOk1.toOk0 (je_met h (je_var (i := 0) (by rfl) (by first | exact .inl rfl | exact .inr (.inl rfl) | exact .inr (.inr rfl))) (ja_cons (je_var (i := 1) (by rfl) (by first | exact .inl rfl | exact .inr (.inl rfl) | exact .inr (.inr rfl))) ja_nil)) (je_fld h.toOk1 (je_var (i := 0) (by rfl) (by first | exact .inl rfl | exact .inr (.inl rfl) | exact .inr (.inr rfl))))))
    (jss_cons (js_ret (je_call1 h.toOk1.toOk0 (cal_mk h rfl) (by rfl) T.g_Row (je_var (i := 2) (by rfl) (by first | exact .inl rfl | exact .inr (.inl rfl) | exact .inr (.inr rfl)))))
    jss_nil))
theorem d_Row___contains__ (T : Txt P w K mg G) (A : Around) (outer : List PySem.Env) (s : Shared) (H : Hp) (E : XK) (h : Ok (kxOf P w K mg base N_Row___contains__ "Row.__contains__" (defScope s_Row___contains__) (G.fa 15) cdv A outer s H E G prg k)) : JSs (kxOf P w K mg base N_Row___contains__ "Row.__contains__" (defScope s_Row___contains__) (G.fa 15) cdv A outer s H E G prg k) (defBody s_Row___contains__) c_Row___contains__ := by
  exact (jss_cons (js_ret (je_and (je_call (cal_fn h T.k_is_step) (by rfl) T.g_is_step (ja_cons (je_var (i := 1) (by rfl) (by first | exact .inl rfl | exact .inr (.inl rfl) | exact .inr (.inr rfl))) ja_nil)) (je_one (je_cmp h.toOk1.toOk0 (je_var (i := 1) (by rfl) (by first | exact .inl rfl | exact .inr (.inl rfl) | exact .inr (.inr rfl))) (je_fld h.toOk1 (je_var (i := 0) (by rfl) (by first | exact .inl rfl | exact .inr (.inl rfl) | exact .inr (.inr rfl))))))))
    jss_nil)
theorem d_Row___getitem__ (T : Txt P w K mg G) (A : Around) (outer : List PySem.Env) (s : Shared) (H : Hp) (E : XK) (h : Ok (kxOf P w K mg base N_Row___getitem__ "Row.__getitem__" (defScope s_Row___getitem__) (G.fa 16) cdv A outer s H E G prg k)) : JSs (kxOf P w K mg base N_Row___getitem__ "Row.__getitem__" (defScope s_Row___getitem__) (G.fa 16) cdv A outer s H E G prg k) (defBody s_Row___getitem__) c_Row___getitem__ := by
  obtain ⟨fI_InvalidNumber, x_InvalidNumber⟩ := T.x_InvalidNumber
  exact (jss_cons (js_if (jt_not (jt_val h.toOk1.toOk0 (je_call (cal_fn h T.k_is_whole) (by rfl) T.g_is_whole (ja_cons (je_var (i := 1) (by rfl) (by first | exact .inl rfl | exact .inr (.inl rfl) | exact .inr (.inr rfl))) (ja_cons je_int (ja_cons (je_bin h.toOk1.toOk0 (je_bltB (call_len_ok h.toOk1.toOk0) (by rfl) T.m_len (by decide +kernel) (ja_cons (je_fld h.toOk1 (je_var (i := 0) (by rfl) (by first | exact .inl rfl | exact .inr (.inl rfl) | exact .inr (.inr rfl)))) ja_nil)) je_int) ja_nil)))))) (jss_cons (js_raise h (jx_call h x_InvalidNumber (by decide +kernel) (by rfl) (by rfl) T.g_InvalidNumber T.m_super (ja_cons (je_var (i := 1) (by rfl) (by first | exact .inl rfl | exact .inr (.inl rfl) | exact .inr (.inr rfl))) ja_nil)))
    jss_nil) jss_nil)
    (jss_cons (js_ret (je_ix h.toOk1.toOk0 (je_fld h.toOk1 (je_var (i := 0) (by rfl) (by first | exact .inl rfl | exact .inr (.inl rfl) | exact .inr (.inr rfl)))) (je_var (i := 1) (by rfl) (by first | exact .inl rfl | exact .inr (.inl rfl) | exact .inr (.inr rfl)))))
    jss_nil))
theorem d_Row___len__ (T : Txt P w K mg G) (A : Around) (outer : List PySem.Env) (s : Shared) (H : Hp) (E : XK) (h : Ok (kxOf P w K mg base N_Row___len__ "Row.__len__" (defScope s_Row___len__) (G.fa 18) cdv A outer s H E G prg k)) : JSs (kxOf P w K mg base N_Row___len__ "Row.__len__" (defScope s_Row___len__) (G.fa 18) cdv A outer s H E G prg k) (defBody s_Row___len__) c_Row___len__ := by
  exact (jss_cons (js_ret (je_bltB (call_len_ok h.toOk1.toOk0) (by rfl) T.m_len (by decide +kernel) (ja_cons (je_fld h.toOk1 (je_var (i := 0) (by rfl) (by first | exact .inl rfl | exact .inr (.inl rfl) | exact .inr (.inr rfl)))) ja_nil)))
    jss_nil)
theorem d_Row___eq__ (T : Txt P w K mg G) (A : Around) (outer : List PySem.Env) (s : Shared) (H : Hp) (E : XK) (h : Ok (kxOf P w K mg base N_Row___eq__ "Row.__eq__" (defScope s_Row___eq__) (G.fa 19) cdv A outer s H E G prg k)) : JSs (kxOf P w K mg base N_Row___eq__ "Row.__eq__" (defScope s_Row___eq__) (G.fa 19) cdv A outer s H E G prg k) (defBody s_Row___eq__) c_Row___eq__ := by
  exact (jss_cons (js_ret (je_and (je_isi h.toOk1.toOk0 ⟨T.isiO, T.isiK⟩ (fun _ z => by cases z; rfl) (je_var (i := 1) (by rfl) (by first | exact .inl rfl | exact .inr (.inl rfl) | exact .inr (.inr rfl))) (pe_glob (by rfl) T.g_Row (by rfl)) (by rfl) T.m_isinstance) (je_one (je_cmp h.toOk1.toOk0 (je_fld h.toOk1 (je_var (i := 0) (by rfl) (by first | exact .inl rfl | exact .inr (.inl rfl) | exact .inr (.inr rfl)))) (je_fld h.toOk1 (je_var (i := 1) (by rfl) (by first | exact .inl rfl | exact .inr (.inl rfl) | exact .inr (.inr rfl))))))))
    jss_nil)
theorem d_Row_steps (T : Txt P w K mg G) (A : Around) (outer : List PySem.Env) (s : Shared) (H : Hp) (E : XK) (h : Ok (kxOf P w K mg base N_Row_steps "Row.steps" (defScope s_Row_steps) (G.fa 20) cdv A outer s H E G prg k)) : JSs (kxOf P w K mg base N_Row_steps "Row.steps" (defScope s_Row_steps) (G.fa 20) cdv A outer s H E G prg k) (defBody s_Row_steps) c_Row_steps := by
  exact (jss_cons (js_ret (je_lnew h.toOk1.toOk0 (by rfl) T.m_list (by decide +kernel) (ja_cons (je_fld h.toOk1 (je_var (i := 0) (by rfl) (by first | exact .inl rfl | exact .inr (.inl rfl) | exact .inr (.inr rfl)))) ja_nil)))
    jss_nil)
theorem d_Row_begins (T : Txt P w K mg G) (A : Around) (outer : List PySem.Env) (s : Shared) (H : Hp) (E : XK) (h : Ok (kxOf P w K mg base N_Row_begins "Row.begins" (defScope s_Row_begins) (G.fa 21) cdv A outer s H E G prg k)) : JSs (kxOf P w K mg base N_Row_begins "Row.begins" (defScope s_Row_begins) (G.fa 21) cdv A outer s H E G prg k) (defBody s_Row_begins) c_Row_begins := by
  exact (jss_cons (js_ret (je_cmp h.toOk1.toOk0 (je_fld h.toOk1 (je_var (i := 0) (by rfl) (by first | exact .inl rfl | exact .inr (.inl rfl) | exact .inr (.inr rfl)))) (je_sl h.toOk1.toOk0 (je_fld h.toOk1 (je_var (i := 1) (by rfl) (by first | exact .inl rfl | exact .inr (.inl rfl) | exact .inr (.inr rfl)))) jo_none (jo_some (je_bltB (call_len_ok h.toOk1.toOk0) (by rfl) T.m_len (by decide +kernel) (ja_cons (je_fld h.toOk1 (je_var (i := 0) (by rfl) (by first | exact .inl rfl | exact .inr (.inl rfl) | exact .inr (.inr rfl)))) ja_nil))))))
    jss_nil)
theorem d_Row_without (T : Txt P w K mg G) (A : Around) (outer : List PySem.Env) (s : Shared) (H : Hp) (E : XK) (h : Ok (kxOf P w K mg base N_Row_without "Row.without" (defScope s_Row_without) (G.fa 22) cdv A outer s H E G prg k)) : JSs (kxOf P w K mg base N_Row_without "Row.without" (defScope s_Row_without) (G.fa 22) cdv A outer s H E G prg k) (defBody s_Row_without) c_Row_without := by
  obtain ⟨fI_InvalidNumber, x_InvalidNumber⟩ := T.x_InvalidNumber
  exact (jss_cons (js_if (jt_not (jt_val h.toOk1.toOk0 (je_call (cal_fn h T.k_is_whole) (by rfl) T.g_is_whole (ja_cons (je_var (i := 1) (by rfl) (by first | exact .inl rfl | exact .inr (.inl rfl) | exact .inr (.inr rfl))) (ja_cons je_int (ja_cons (je_bin h.toOk1.toOk0 (je_bltB (call_len_ok h.toOk1.toOk0) (by rfl) T.m_len (by decide +kernel) (ja_cons (je_fld h.toOk1 (je_var (i := 0) (by rfl) (by first | exact .inl rfl | exact .inr (.inl rfl) | exact .inr (.inr rfl)))) ja_nil)) je_int) ja_nil)))))) (jss_cons (js_raise h (jx_call h x_InvalidNumber (by decide +kernel) (by rfl) (by rfl) T.g_InvalidNumber T.m_super (ja_cons (je_var (i := 1) (by rfl) (by first | exact .inl rfl | exact .inr (.inl rfl) | exact .inr (.inr rfl))) ja_nil)))
    jss_nil) jss_nil)
    (jss_cons (js_set (i := 2) h.nd (by rfl) (by first | exact .inl rfl | exact .inr rfl) (.inl rfl) (je_bin h.toOk1.toOk0 (je_sl h.toOk1.toOk0 (je_fld h.toOk1 (je_var (i := 0) (by rfl) (by first | exact .inl rfl | exact .inr (.inl rfl) | exact .inr (.inr rfl)))) jo_none (jo_some (je_var (i := 1) (by rfl) (by first | exact .inl rfl | exact .inr (.inl rfl) | exact .inr (.inr rfl))))) (je_sl h.toOk1.toOk0 (je_fld h.toOk1 (je_var (i := 0) (by rfl) (by first | exact .inl rfl | exact .inr (.inl rfl) | exact .inr (.inr rfl)))) (jo_some (je_bin h.toOk1.toOk0 (je_var (i := 1) (by rfl) (by first | exact .inl rfl | exact .inr (.inl rfl) | exact .inr (.inr rfl))) je_int)) jo_none)))
    (jss_cons (js_ret (je_call1 h.toOk1.toOk0 (cal_mk h rfl) (by rfl) T.g_Row (je_var (i := 2) (by rfl) (by first | exact .inl rfl | exact .inr (.inl rfl) | exact .inr (.inr rfl)))))
    jss_nil)))
theorem d_Row_held (T : Txt P w K mg G) (A : Around) (outer : List PySem.Env) (s : Shared) (H : Hp) (E : XK) (h : Ok (kxOf P w K mg base N_Row_held "Row.held" (defScope s_Row_held) (G.fa 23) cdv A outer s H E G prg k)) : JSs (kxOf P w K mg base N_Row_held "Row.held" (defScope s_Row_held) (G.fa 23) cdv A outer s H E G prg k) (defBody s_Row_held) c_Row_held := by
  obtain ⟨fI_InvalidNumber, x_InvalidNumber⟩ := T.x_InvalidNumber
  exact (jss_cons (js_if (jt_not (jt_val h.toOk1.toOk0 (je_call (cal_fn h T.k_is_whole) (by rfl) T.g_is_whole (ja_cons (je_var (i := 1) (by rfl) (by first | exact .inl rfl | exact .inr (.inl rfl) | exact .inr (.inr rfl))) (ja_cons je_int (ja_cons (je_bin h.toOk1.toOk0 (je_bltB (call_len_ok h.toOk1.toOk0) (by rfl) T.m_len (by decide +kernel) (ja_cons (je_fld h.toOk1 (je_var (i := 0) (by rfl) (by first | exact .inl rfl | exact .inr (.inl rfl) | exact .inr (.inr rfl)))) ja_nil)) je_int) ja_nil)))))) (jss_cons (js_raise h (jx_call h x_InvalidNumber (by decide +kernel) (by rfl) (by rfl) T.g_InvalidNumber T.m_super (ja_cons (je_var (i := 1) (by rfl) (by first | exact .inl rfl | exact .inr (.inl rfl) | exact .inr (.inr rfl))) ja_nil)))
    jss_nil) jss_nil)
    (jss_cons (js_set (i := 2) h.nd (by rfl) (by first | exact .inl rfl | exact .inr rfl) (.inl rfl) (je_tup ja_nil))
    (jss_cons (js_for h (ji_seq h.toOk1.toOk0 (je_sl h.toOk1.toOk0 (je_fld h.toOk1 (je_var (i := 0) (by rfl) (by first | exact .inl rfl | exact .inr (.inl rfl) | exact .inr (.inr rfl)))) jo_none (jo_some (je_var (i := 1) (by rfl) (by first | exact .inl rfl | exact .inr (.inl rfl) | exact .inr (.inr rfl)))))) (jg_name h.nd (by rfl) (by first | exact .inl rfl | exact .inr rfl) (by first | exact .inl rfl | exact .inr rfl)) (jss_cons (js_if (jt_cmp h.toOk1.toOk0 (je_ix h.toOk1.toOk0 (je_var (i := 3) (by rfl) (by first | exact .inl rfl | exact .inr (.inl rfl) | exact .inr (.inr rfl))) je_int) (je_glb ⟨T.c_TAKE⟩ (by rfl))) (jss_cons (js_set (i := 2) h.nd (by rfl) (by first | exact .inl rfl | exact .inr rfl) (.inl rfl) (je_bin h.toOk1.toOk0 (je_var (i := 2) (by rfl) (by first | exact .inl rfl | exact .inr (.inl rfl) | exact .inr (.inr rfl))) (je_tup (ja_cons (je_ix h.toOk1.toOk0 (je_var (i := 3) (by rfl) (by first | exact .inl rfl | exact .inr (.inl rfl) | exact .inr (.inr rfl))) je_int) ja_nil))))
    jss_nil) jss_nil)
    (jss_cons (js_if (jt_cmp h.toOk1.toOk0 (je_ix h.toOk1.toOk0 (je_var (i := 3) (by rfl) (by first | exact .inl rfl | exact .inr (.inl rfl) | exact .inr (.inr rfl))) je_int) (je_glb ⟨T.c_GIVE⟩ (by rfl))) (jss_cons (js_set (i := 2) h.nd (by rfl) (by first | exact .inl rfl | exact .inr rfl) (.inl rfl) (je_sl h.toOk1.toOk0 (je_var (i := 2) (by rfl) (by first | exact .inl rfl | exact .inr (.inl rfl) | exact .inr (.inr rfl))) jo_none (jo_some (je_neg h.toOk1.toOk0 je_int))))
    jss_nil) jss_nil)
    jss_nil)))
    (jss_cons (js_ret (je_var (i := 2) (by rfl) (by first | exact .inl rfl | exact .inr (.inl rfl) | exact .inr (.inr rfl))))
    jss_nil))))
theorem d_Row_names (T : Txt P w K mg G) (A : Around) (outer : List PySem.Env) (s : Shared) (H : Hp) (E : XK) (h : Ok (kxOf P w K mg base N_Row_names "Row.names" (defScope s_Row_names) (G.fa 24) cdv A outer s H E G prg k)) : JSs (kxOf P w K mg base N_Row_names "Row.names" (defScope s_Row_names) (G.fa 24) cdv A outer s H E G prg k) (defBody s_Row_names) c_Row_names := by
  obtain ⟨fI_UnknownName, x_UnknownName⟩ := T.x_UnknownName
  exact (jss_cons (js_if (jt_w (jw_or (jt_not (jt_val h.toOk1.toOk0 (je_isi h.toOk1.toOk0 ⟨T.isiO, T.isiK⟩ (fun _ z => by cases z) (je_var (i := 1) (by rfl) (by first | exact .inl rfl | exact .inr (.inl rfl) | exact .inr (.inr rfl))) (pe_bltn (u := .type "str") (by rfl) T.m_str (by decide +kernel) (by rfl)) (by rfl) T.m_isinstance))) (jw_or1 (jt_knin (n := 0) ⟨T.kd_KINDS⟩ (je_var (i := 1) (by rfl) (by first | exact .inl rfl | exact .inr (.inl rfl) | exact .inr (.inr rfl))) (by rfl))))) (jss_cons (js_raise h (jx_call h x_UnknownName (by decide +kernel) (by rfl) (by rfl) T.g_UnknownName T.m_super (ja_cons (je_var (i := 1) (by rfl) (by first | exact .inl rfl | exact .inr (.inl rfl) | exact .inr (.inr rfl))) ja_nil)))
    jss_nil) jss_nil)
    (jss_cons (js_ret (je_sset h.calm (by rfl) T.m_sorted (by rfl) T.m_set (je_lc (own := [("step", 2)]) h (ji_seq h.toOk1.toOk0 (je_fld h.toOk1 (je_var (i := 0) (by rfl) (by first | exact .inl rfl | exact .inr (.inl rfl) | exact .inr (.inr rfl))))) (blkOk_by (N := N_Row_names) (sc := defScope s_Row_names) (by decide +kernel)) (by rfl) (fun _ _ _ _ _ => (jg_name h.nd (by rfl) (by first | exact .inl rfl | exact .inr rfl) (by first | exact .inl rfl | exact .inr rfl))) (fun _ _ _ _ _ => (jts_one (jt_cmp (h.blk _ _ _ _ _).toOk1.toOk0 (je_ix (h.blk _ _ _ _ _).toOk1.toOk0 (je_var (i := 2) (by rfl) (by first | exact .inl rfl | exact .inr (.inl rfl) | exact .inr (.inr rfl))) je_int) (je_kix (n := 0) ⟨T.kd_KINDS⟩ (je_var (i := 1) (by rfl) (by first | exact .inl rfl | exact .inr (.inl rfl) | exact .inr (.inr rfl))) (by rfl))))) (fun _ _ _ _ _ => (je_ix (h.blk _ _ _ _ _).toOk1.toOk0 (je_var (i := 2) (by rfl) (by first | exact .inl rfl | exact .inr (.inl rfl) | exact .inr (.inr rfl))) je_int)))))
    jss_nil))
theorem d__law_numbers (T : Txt P w K mg G) (A : Around) (outer : List PySem.Env) (s : Shared) (H : Hp) (E : XK) (h : Ok (kxOf P w K mg base N__law_numbers "_law_numbers" (defScope s__law_numbers) (G.fa 25) cdv A outer s H E G prg k)) : JSs (kxOf P w K mg base N__law_numbers "_law_numbers" (defScope s__law_numbers) (G.fa 25) cdv A outer s H E G prg k) (defBody s__law_numbers) c__law_numbers := by
  exact (jss_cons (js_set (i := 3) h.nd (by rfl) (by first | exact .inl rfl | exact .inr rfl) (.inl rfl) (je_bltB (call_max_ok h.calm) (by rfl) T.m_max (by decide +kernel) (ja_cons (je_var (i := 0) (by rfl) (by first | exact .inl rfl | exact .inr (.inl rfl) | exact .inr (.inr rfl))) (ja_cons (je_bin h.toOk1.toOk0 (je_neg h.toOk1.toOk0 je_int) (je_var (i := 0) (by rfl) (by first | exact .inl rfl | exact .inr (.inl rfl) | exact .inr (.inr rfl)))) ja_nil))))
    (jss_cons (js_set (i := 4) h.nd (by rfl) (by first | exact .inl rfl | exact .inr rfl) (.inl rfl) (je_var (i := 3) (by rfl) (by first | exact .inl rfl | exact .inr (.inl rfl) | exact .inr (.inr rfl))))
    (jss_cons (js_set (i := 5) h.nd (by rfl) (by first | exact .inl rfl | exact .inr rfl) (.inl rfl) (je_new ja_nil))
    (jss_cons (js_for h (ji_rng (by rfl) T.m_range (je_bltB (call_len_ok h.toOk1.toOk0) (by rfl) T.m_len (by decide +kernel) (ja_cons (je_var (i := 2) (by rfl) (by first | exact .inl rfl | exact .inr (.inl rfl) | exact .inr (.inr rfl))) ja_nil))) (jg_name h.nd (by rfl) (by first | exact .inl rfl | exact .inr rfl) (by first | exact .inl rfl | exact .inr rfl)) (jss_cons (js_if (jt_w (jw_and (jt_cmp h.toOk1.toOk0 (je_var (i := 3) (by rfl) (by first | exact .inl rfl | exact .inr (.inl rfl) | exact .inr (.inr rfl))) (je_bin h.toOk1.toOk0 je_int je_int)) (jw_and1 (jt_cmp h.toOk1.toOk0 (je_var (i := 4) (by rfl) (by first | exact .inl rfl | exact .inr (.inl rfl) | exact .inr (.inr rfl))) je_int)))) (jss_cons (js_append (je_var (i := 5) (by rfl) (by first | exact .inl rfl | exact .inr (.inl rfl) | exact .inr (.inr rfl))) (je_bin h.toOk1.toOk0 (je_var (i := 4) (by rfl) (by first | exact .inl rfl | exact .inr (.inl rfl) | exact .inr (.inr rfl))) (je_ix h.toOk1.toOk0 (je_var (i := 2) (by rfl) (by first | exact .inl rfl | exact .inr (.inl rfl) | exact .inr (.inr rfl))) (je_var (i := 6) (by rfl) (by first | exact .inl rfl | exact .inr (.inl rfl) | exact .inr (.inr rfl))))))
    (jss_cons (js_set (i := 4) h.nd (by rfl) (by first | exact .inl rfl | exact .inr rfl) (.inl rfl) (je_bin h.toOk1.toOk0 (je_var (i := 4) (by rfl) (by first | exact .inl rfl | exact .inr (.inl rfl) | exact .inr (.inr rfl))) (je_ix h.toOk1.toOk0 (je_var (i := 2) (by rfl) (by first | exact .inl rfl | exact .inr (.inl rfl) | exact .inr (.inr rfl))) (je_var (i := 6) (by rfl) (by first | exact .inl rfl | exact .inr (.inl rfl) | exact .inr (.inr rfl))))))
    jss_nil)) (jss_cons (js_set (i := 7) h.nd (by rfl) (by first | exact .inl rfl | exact .inr rfl) (.inl rfl) (je_bin h.toOk1.toOk0 (je_bin h.toOk1.toOk0 (je_bin h.toOk1.toOk0 (je_bin h.toOk1.toOk0 (je_bin h.toOk1.toOk0 (je_var (i := 3) (by rfl) (by first | exact .inl rfl | exact .inr (.inl rfl) | exact .inr (.inr rfl))) je_int) (je_bin h.toOk1.toOk0 je_int (je_var (i := 1) (by rfl) (by first | exact .inl rfl | exact .inr (.inl rfl) | exact .inr (.inr rfl))))) je_int) je_int) je_int))
    (jss_cons (js_set (i := 7) h.nd (by rfl) (by first | exact .inl rfl | exact .inr rfl) (.inl rfl) (je_bin h.toOk1.toOk0 (je_bin h.toOk1.toOk0 (je_bin h.toOk1.toOk0 (je_var (i := 7) (by rfl) (by first | exact .inl rfl | exact .inr (.inl rfl) | exact .inr (.inr rfl))) (je_bin h.toOk1.toOk0 je_int (je_bin h.toOk1.toOk0 (je_var (i := 6) (by rfl) (by first | exact .inl rfl | exact .inr (.inl rfl) | exact .inr (.inr rfl))) je_int))) (je_bin h.toOk1.toOk0 (je_var (i := 6) (by rfl) (by first | exact .inl rfl | exact .inr (.inl rfl) | exact .inr (.inr rfl))) je_int)) je_int))
    (jss_cons (js_set (i := 7) h.nd (by rfl) (by first | exact .inl rfl | exact .inr rfl) (.inl rfl) (je_bin h.toOk1.toOk0 (je_bin h.toOk1.toOk0 (je_bin h.toOk1.toOk0 (je_bin h.toOk1.toOk0 (je_var (i := 7) (by rfl) (by first | exact .inl rfl | exact .inr (.inl rfl) | exact .inr (.inr rfl))) je_int) je_int) je_int) je_int))
    (jss_cons (js_append (je_var (i := 5) (by rfl) (by first | exact .inl rfl | exact .inr (.inl rfl) | exact .inr (.inr rfl))) (je_bin h.toOk1.toOk0 (je_bin h.toOk1.toOk0 (je_var (i := 7) (by rfl) (by first | exact .inl rfl | exact .inr (.inl rfl) | exact .inr (.inr rfl))) je_int) (je_ix h.toOk1.toOk0 (je_var (i := 2) (by rfl) (by first | exact .inl rfl | exact .inr (.inl rfl) | exact .inr (.inr rfl))) (je_var (i := 6) (by rfl) (by first | exact .inl rfl | exact .inr (.inl rfl) | exact .inr (.inr rfl))))))
    jss_nil)))))
    jss_nil))
    (jss_cons (js_ret (je_var (i := 5) (by rfl) (by first | exact .inl rfl | exact .inr (.inl rfl) | exact .inr (.inr rfl))))
    jss_nil)))))
theorem d__law_pool (T : Txt P w K mg G) (A : Around) (outer : List PySem.Env) (s : Shared) (H : Hp) (E : XK) (h : Ok (kxOf P w K mg base N__law_pool "_law_pool" (defScope s__law_pool) (G.fa 26) cdv A outer s H E G prg k)) : JSs (kxOf P w K mg base N__law_pool "_law_pool" (defScope s__law_pool) (G.fa 26) cdv A outer s H E G prg k) (defBody s__law_pool) c__law_pool := by
  exact (jss_cons (js_ret (je_new (ja_cons (je_call (cal_fn h T.k__law_numbers) (by rfl) T.g__law_numbers (ja_cons (je_var (i := 0) (by rfl) (by first | exact .inl rfl | exact .inr (.inl rfl) | exact .inr (.inr rfl))) (ja_cons (je_var (i := 1) (by rfl) (by first | exact .inl rfl | exact .inr (.inl rfl) | exact .inr (.inr rfl))) (ja_cons (je_bin h.toOk1.toOk0 (je_lst (ja_cons je_int ja_nil)) (je_var (i := 2) (by rfl) (by first | exact .inl rfl | exact .inr (.inl rfl) | exact .inr (.inr rfl)))) ja_nil)))) (ja_cons je_int ja_nil))))
    jss_nil)
theorem d__law_draw (T : Txt P w K mg G) (A : Around) (outer : List PySem.Env) (s : Shared) (H : Hp) (E : XK) (h : Ok (kxOf P w K mg base N__law_draw "_law_draw" (defScope s__law_draw) (G.fa 27) cdv A outer s H E G prg k)) : JSs (kxOf P w K mg base N__law_draw "_law_draw" (defScope s__law_draw) (G.fa 27) cdv A outer s H E G prg k) (defBody s__law_draw) c__law_draw := by
  exact (jss_cons (js_set (i := 2) h.nd (by rfl) (by first | exact .inl rfl | exact .inr rfl) (.inl rfl) (je_ix h.toOk1.toOk0 (je_var (i := 0) (by rfl) (by first | exact .inl rfl | exact .inr (.inl rfl) | exact .inr (.inr rfl))) je_int))
    (jss_cons (js_sub (je_var (i := 0) (by rfl) (by first | exact .inl rfl | exact .inr (.inl rfl) | exact .inr (.inr rfl))) je_int (je_bin h.toOk1.toOk0 (je_var (i := 2) (by rfl) (by first | exact .inl rfl | exact .inr (.inl rfl) | exact .inr (.inr rfl))) je_int))
    (jss_cons (js_ret (je_ite (jt_cmp h.toOk1.toOk0 (je_var (i := 2) (by rfl) (by first | exact .inl rfl | exact .inr (.inl rfl) | exact .inr (.inr rfl))) (je_bltB (call_len_ok h.toOk1.toOk0) (by rfl) T.m_len (by decide +kernel) (ja_cons (je_ix h.toOk1.toOk0 (je_var (i := 0) (by rfl) (by first | exact .inl rfl | exact .inr (.inl rfl) | exact .inr (.inr rfl))) je_int) ja_nil))) (je_bin h.toOk1.toOk0 (je_bltT (call_int_ok) (by rfl) T.m_int (by decide +kernel) (ja_cons (je_ix h.toOk1.toOk0 (je_ix h.toOk1.toOk0 (je_var (i := 0) (by rfl) (by first | exact .inl rfl | exact .inr (.inl rfl) | exact .inr (.inr rfl))) je_int) (je_var (i := 2) (by rfl) (by first | exact .inl rfl | exact .inr (.inl rfl) | exact .inr (.inr rfl)))) ja_nil)) (je_var (i := 1) (by rfl) (by first | exact .inl rfl | exact .inr (.inl rfl) | exact .inr (.inr rfl)))) je_int))
    jss_nil)))
theorem d__law_pick (T : Txt P w K mg G) (A : Around) (outer : List PySem.Env) (s : Shared) (H : Hp) (E : XK) (h : Ok (kxOf P w K mg base N__law_pick "_law_pick" (defScope s__law_pick) (G.fa 28) cdv A outer s H E G prg k)) : JSs (kxOf P w K mg base N__law_pick "_law_pick" (defScope s__law_pick) (G.fa 28) cdv A outer s H E G prg k) (defBody s__law_pick) c__law_pick := by
  exact (jss_cons (js_ret (je_ix h.toOk1.toOk0 (je_var (i := 1) (by rfl) (by first | exact .inl rfl | exact .inr (.inl rfl) | exact .inr (.inr rfl))) (je_call (cal_fn h T.k__law_draw) (by rfl) T.g__law_draw (ja_cons (je_var (i := 0) (by rfl) (by first | exact .inl rfl | exact .inr (.inl rfl) | exact .inr (.inr rfl))) (ja_cons (je_bltB (call_len_ok h.toOk1.toOk0) (by rfl) T.m_len (by decide +kernel) (ja_cons (je_var (i := 1) (by rfl) (by first | exact .inl rfl | exact .inr (.inl rfl) | exact .inr (.inr rfl))) ja_nil)) ja_nil)))))
    jss_nil)
theorem d__law_truth (T : Txt P w K mg G) (A : Around) (outer : List PySem.Env) (s : Shared) (H : Hp) (E : XK) (h : Ok (kxOf P w K mg base N__law_truth "_law_truth" (defScope s__law_truth) (G.fa 29) cdv A outer s H E G prg k)) : JSs (kxOf P w K mg base N__law_truth "_law_truth" (defScope s__law_truth) (G.fa 29) cdv A outer s H E G prg k) (defBody s__law_truth) c__law_truth := by
  exact (jss_cons (js_ret (je_and (je_isi h.toOk1.toOk0 ⟨T.isiO, T.isiK⟩ (fun _ z => by cases z) (je_var (i := 0) (by rfl) (by first | exact .inl rfl | exact .inr (.inl rfl) | exact .inr (.inr rfl))) (pe_bltn (u := .type "bool") (by rfl) T.m_bool (by decide +kernel) (by rfl)) (by rfl) T.m_isinstance) (je_one (je_cmp h.toOk1.toOk0 (je_var (i := 0) (by rfl) (by first | exact .inl rfl | exact .inr (.inl rfl) | exact .inr (.inr rfl))) (je_var (i := 1) (by rfl) (by first | exact .inl rfl | exact .inr (.inl rfl) | exact .inr (.inr rfl)))))))
    jss_nil)
theorem d__law_kind (T : Txt P w K mg G) (A : Around) (outer : List PySem.Env) (s : Shared) (H : Hp) (E : XK) (h : Ok (kxOf P w K mg base N__law_kind "_law_kind" (defScope s__law_kind) (G.fa 32) cdv A outer s H E G prg k)) : JSs (kxOf P w K mg base N__law_kind "_law_kind" (defScope s__law_kind) (G.fa 32) cdv A outer s H E G prg k) (defBody s__law_kind) c__law_kind := by
  exact (jss_cons (js_if (jt_cmp h.toOk1.toOk0 (je_var (i := 0) (by rfl) (by first | exact .inl rfl | exact .inr (.inl rfl) | exact .inr (.inr rfl))) (je_lst (ja_cons je_str (ja_cons je_str (ja_cons je_str (ja_cons je_str ja_nil)))))) (jss_cons (js_ret je_str)
    jss_nil) jss_nil)
    (jss_cons (js_if (jt_cmp h.toOk1.toOk0 (je_var (i := 0) (by rfl) (by first | exact .inl rfl | exact .inr (.inl rfl) | exact .inr (.inr rfl))) (je_lst (ja_cons je_str (ja_cons je_str ja_nil)))) (jss_cons (js_ret je_str)
    jss_nil) jss_nil)
    (jss_cons (js_ret (je_ite (jt_cmp h.toOk1.toOk0 (je_var (i := 0) (by rfl) (by first | exact .inl rfl | exact .inr (.inl rfl) | exact .inr (.inr rfl))) (je_lst (ja_cons je_str (ja_cons je_str ja_nil)))) je_str je_str))
    jss_nil)))
theorem d__law_chosen (T : Txt P w K mg G) (A : Around) (outer : List PySem.Env) (s : Shared) (H : Hp) (E : XK) (h : Ok (kxOf P w K mg base N__law_chosen "_law_chosen" (defScope s__law_chosen) (G.fa 33) cdv A outer s H E G prg k)) : JSs (kxOf P w K mg base N__law_chosen "_law_chosen" (defScope s__law_chosen) (G.fa 33) cdv A outer s H E G prg k) (defBody s__law_chosen) c__law_chosen := by
  exact (jss_cons (js_parT3 (i := 3) (j := 4) (l := 5) h (by rfl) (by rfl) (by rfl) (by first | exact .inl rfl | exact .inr rfl) (by first | exact .inl rfl | exact .inr rfl) (by first | exact .inl rfl | exact .inr rfl) (by first | exact .inl rfl | exact .inr rfl) (by first | exact .inl rfl | exact .inr rfl) (by first | exact .inl rfl | exact .inr rfl) (ja_cons (je_lst (ja_cons je_str (ja_cons je_str (ja_cons je_str (ja_cons je_str (ja_cons je_str (ja_cons je_str (ja_cons je_str (ja_cons je_str ja_nil))))))))) (ja_cons (je_new ja_nil) (ja_cons (je_lst ja_nil) ja_nil))))
    (jss_cons (js_for h (ji_rng (by rfl) T.m_range (je_var (i := 2) (by rfl) (by first | exact .inl rfl | exact .inr (.inl rfl) | exact .inr (.inr rfl)))) (jg_name h.nd (by rfl) (by first | exact .inl rfl | exact .inr rfl) (by first | exact .inl rfl | exact .inr rfl)) (jss_cons (js_setLc (i := 7) (own := [("_law_name", 8)]) h (by rfl) (by rfl) (sw_true (by rfl) (by rfl) (by rfl) (by rfl)) (ji_seq h.toOk1.toOk0 (je_var (i := 1) (by rfl) (by first | exact .inl rfl | exact .inr (.inl rfl) | exact .inr (.inr rfl)))) (blkOk_by (N := N__law_chosen) (sc := defScope s__law_chosen) (by decide +kernel)) (by rfl) (fun _ _ _ _ _ => (jg_name h.nd (by rfl) (by first | exact .inl rfl | exact .inr rfl) (by first | exact .inl rfl | exact .inr rfl))) (fun _ _ _ _ _ => (jts_one (jt_cmp (h.blk _ _ _ _ _).toOk1.toOk0 (je_var (i := 8) (by rfl) (by first | exact .inl rfl | exact .inr (.inl rfl) | exact .inr (.inr rfl))) (je_var (i := 5) (by rfl) (by first | exact .inl rfl | exact .inr (.inl rfl) | exact .inr (.inr rfl)))))) (fun _ _ _ _ _ => (je_var (i := 8) (by rfl) (by first | exact .inl rfl | exact .inr (.inl rfl) | exact .inr (.inr rfl)))))
    (jss_cons (js_if (jt_w (jw_and (jt_cmp h.toOk1.toOk0 (je_var (i := 5) (by rfl) (by first | exact .inl rfl | exact .inr (.inl rfl) | exact .inr (.inr rfl))) (je_lst ja_nil)) (jw_and1 (jt_w (jw_or (jt_cmp h.toOk1.toOk0 (je_bin h.toOk1.toOk0 (je_var (i := 2) (by rfl) (by first | exact .inl rfl | exact .inr (.inl rfl) | exact .inr (.inr rfl))) (je_bltB (call_len_ok h.toOk1.toOk0) (by rfl) T.m_len (by decide +kernel) (ja_cons (je_var (i := 4) (by rfl) (by first | exact .inl rfl | exact .inr (.inl rfl) | exact .inr (.inr rfl))) ja_nil))) (je_bltB (call_len_ok h.toOk1.toOk0) (by rfl) T.m_len (by decide +kernel) (ja_cons (je_var (i := 5) (by rfl) (by first | exact .inl rfl | exact .inr (.inl rfl) | exact .inr (.inr rfl))) ja_nil))) (jw_or1 (jt_cmp h.toOk1.toOk0 (je_call (cal_fn h T.k__law_draw) (by rfl) T.g__law_draw (ja_cons (je_var (i := 0) (by rfl) (by first | exact .inl rfl | exact .inr (.inl rfl) | exact .inr (.inr rfl))) (ja_cons je_int ja_nil))) je_int))))))) (jss_cons (js_append (je_var (i := 4) (by rfl) (by first | exact .inl rfl | exact .inr (.inl rfl) | exact .inr (.inr rfl))) (je_tup (ja_cons je_str (ja_cons (je_ix h.toOk1.toOk0 (je_var (i := 5) (by rfl) (by first | exact .inl rfl | exact .inr (.inl rfl) | exact .inr (.inr rfl))) (je_neg h.toOk1.toOk0 je_int)) ja_nil))))
    (jss_cons (js_set (i := 5) h.nd (by rfl) (by first | exact .inl rfl | exact .inr rfl) (.inl rfl) (je_sl h.toOk1.toOk0 (je_var (i := 5) (by rfl) (by first | exact .inl rfl | exact .inr (.inl rfl) | exact .inr (.inr rfl))) jo_none (jo_some (je_neg h.toOk1.toOk0 je_int))))
    jss_nil)) (jss_cons (js_if (jt_w (jw_and (jt_cmp h.toOk1.toOk0 (je_var (i := 7) (by rfl) (by first | exact .inl rfl | exact .inr (.inl rfl) | exact .inr (.inr rfl))) (je_lst ja_nil)) (jw_and (jt_cmp h.toOk1.toOk0 (je_bin h.toOk1.toOk0 (je_var (i := 2) (by rfl) (by first | exact .inl rfl | exact .inr (.inl rfl) | exact .inr (.inr rfl))) (je_bltB (call_len_ok h.toOk1.toOk0) (by rfl) T.m_len (by decide +kernel) (ja_cons (je_var (i := 4) (by rfl) (by first | exact .inl rfl | exact .inr (.inl rfl) | exact .inr (.inr rfl))) ja_nil))) (je_bin h.toOk1.toOk0 (je_bltB (call_len_ok h.toOk1.toOk0) (by rfl) T.m_len (by decide +kernel) (ja_cons (je_var (i := 5) (by rfl) (by first | exact .inl rfl | exact .inr (.inl rfl) | exact .inr (.inr rfl))) ja_nil)) je_int)) (jw_and1 (jt_cmp h.toOk1.toOk0 (je_call (cal_fn h T.k__law_draw) (by rfl) T.g__law_draw (ja_cons (je_var (i := 0) (by rfl) (by first | exact .inl rfl | exact .inr (.inl rfl) | exact .inr (.inr rfl))) (ja_cons je_int ja_nil))) je_int))))) (jss_cons (js_set (i := 5) h.nd (by rfl) (by first | exact .inl rfl | exact .inr rfl) (.inl rfl) (je_bin h.toOk1.toOk0 (je_var (i := 5) (by rfl) (by first | exact .inl rfl | exact .inr (.inl rfl) | exact .inr (.inr rfl))) (je_lst (ja_cons (je_call (cal_fn h T.k__law_pick) (by rfl) T.g__law_pick (ja_cons (je_var (i := 0) (by rfl) (by first | exact .inl rfl | exact .inr (.inl rfl) | exact .inr (.inr rfl))) (ja_cons (je_var (i := 7) (by rfl) (by first | exact .inl rfl | exact .inr (.inl rfl) | exact .inr (.inr rfl))) ja_nil))) ja_nil))))
    (jss_cons (js_append (je_var (i := 4) (by rfl) (by first | exact .inl rfl | exact .inr (.inl rfl) | exact .inr (.inr rfl))) (je_tup (ja_cons je_str (ja_cons (je_ix h.toOk1.toOk0 (je_var (i := 5) (by rfl) (by first | exact .inl rfl | exact .inr (.inl rfl) | exact .inr (.inr rfl))) (je_neg h.toOk1.toOk0 je_int)) ja_nil))))
    jss_nil)) (jss_cons (js_if (jt_cmp h.toOk1.toOk0 (je_bin h.toOk1.toOk0 (je_var (i := 2) (by rfl) (by first | exact .inl rfl | exact .inr (.inl rfl) | exact .inr (.inr rfl))) (je_bltB (call_len_ok h.toOk1.toOk0) (by rfl) T.m_len (by decide +kernel) (ja_cons (je_var (i := 4) (by rfl) (by first | exact .inl rfl | exact .inr (.inl rfl) | exact .inr (.inr rfl))) ja_nil))) (je_bltB (call_len_ok h.toOk1.toOk0) (by rfl) T.m_len (by decide +kernel) (ja_cons (je_var (i := 5) (by rfl) (by first | exact .inl rfl | exact .inr (.inl rfl) | exact .inr (.inr rfl))) ja_nil))) (jss_cons (js_append (je_var (i := 4) (by rfl) (by first | exact .inl rfl | exact .inr (.inl rfl) | exact .inr (.inr rfl))) (je_tup (ja_cons (je_call (cal_fn h T.k__law_pick) (by rfl) T.g__law_pick (ja_cons (je_var (i := 0) (by rfl) (by first | exact .inl rfl | exact .inr (.inl rfl) | exact .inr (.inr rfl))) (ja_cons (je_var (i := 3) (by rfl) (by first | exact .inl rfl | exact .inr (.inl rfl) | exact .inr (.inr rfl))) ja_nil))) (ja_cons (je_call (cal_fn h T.k__law_pick) (by rfl) T.g__law_pick (ja_cons (je_var (i := 0) (by rfl) (by first | exact .inl rfl | exact .inr (.inl rfl) | exact .inr (.inr rfl))) (ja_cons (je_var (i := 1) (by rfl) (by first | exact .inl rfl | exact .inr (.inl rfl) | exact .inr (.inr rfl))) ja_nil))) ja_nil))))
    jss_nil) jss_nil)
    jss_nil))
    jss_nil))
    jss_nil)))
    (jss_cons (js_ret (je_var (i := 4) (by rfl) (by first | exact .inl rfl | exact .inr (.inl rfl) | exact .inr (.inr rfl))))
    jss_nil)))
theorem d__law_kept (T : Txt P w K mg G) (A : Around) (outer : List PySem.Env) (s : Shared) (H : Hp) (E : XK) (h : Ok (kxOf P w K mg base N__law_kept "_law_kept" (defScope s__law_kept) (G.fa 34) cdv A outer s H E G prg k)) : JSs (kxOf P w K mg base N__law_kept "_law_kept" (defScope s__law_kept) (G.fa 34) cdv A outer s H E G prg k) (defBody s__law_kept) c__law_kept := by
  exact (jss_cons (js_set (i := 1) h.nd (by rfl) (by first | exact .inl rfl | exact .inr rfl) (.inl rfl) (je_lst ja_nil))
    (jss_cons (js_for h (ji_seq h.toOk1.toOk0 (je_var (i := 0) (by rfl) (by first | exact .inl rfl | exact .inr (.inl rfl) | exact .inr (.inr rfl)))) (jg_tup h.toOk1.toOk0 h.calm (jgs_cons (jg_name h.nd (by rfl) (by first | exact .inl rfl | exact .inr rfl) (by first | exact .inl rfl | exact .inr rfl)) (jgs_cons (jg_name h.nd (by rfl) (by first | exact .inl rfl | exact .inr rfl) (by first | exact .inl rfl | exact .inr rfl)) jgs_nil))) (jss_cons (js_if (jt_cmp h.toOk1.toOk0 (je_var (i := 2) (by rfl) (by first | exact .inl rfl | exact .inr (.inl rfl) | exact .inr (.inr rfl))) je_str) (jss_cons (js_set (i := 1) h.nd (by rfl) (by first | exact .inl rfl | exact .inr rfl) (.inl rfl) (je_bin h.toOk1.toOk0 (je_var (i := 1) (by rfl) (by first | exact .inl rfl | exact .inr (.inl rfl) | exact .inr (.inr rfl))) (je_lst (ja_cons (je_var (i := 3) (by rfl) (by first | exact .inl rfl | exact .inr (.inl rfl) | exact .inr (.inr rfl))) ja_nil))))
    jss_nil) jss_nil)
    (jss_cons (js_if (jt_cmp h.toOk1.toOk0 (je_var (i := 2) (by rfl) (by first | exact .inl rfl | exact .inr (.inl rfl) | exact .inr (.inr rfl))) je_str) (jss_cons (js_set (i := 1) h.nd (by rfl) (by first | exact .inl rfl | exact .inr rfl) (.inl rfl) (je_sl h.toOk1.toOk0 (je_var (i := 1) (by rfl) (by first | exact .inl rfl | exact .inr (.inl rfl) | exact .inr (.inr rfl))) jo_none (jo_some (je_neg h.toOk1.toOk0 je_int))))
    jss_nil) jss_nil)
    jss_nil)))
    (jss_cons (js_ret (je_bltT (call_tuple_ok h.toOk1.toOk0) (by rfl) T.m_tuple (by decide +kernel) (ja_cons (je_var (i := 1) (by rfl) (by first | exact .inl rfl | exact .inr (.inl rfl) | exact .inr (.inr rfl))) ja_nil)))
    jss_nil)))
theorem d__law_fault (T : Txt P w K mg G) (A : Around) (outer : List PySem.Env) (s : Shared) (H : Hp) (E : XK) (h : Ok (kxOf P w K mg base N__law_fault "_law_fault" (defScope s__law_fault) (G.fa 31) cdv A outer s H E G prg k)) : JSs (kxOf P w K mg base N__law_fault "_law_fault" (defScope s__law_fault) (G.fa 31) cdv A outer s H E G prg k) (defBody s__law_fault) c__law_fault := by
  exact (jss_cons (js_set (i := 1) h.nd (by rfl) (by first | exact .inl rfl | exact .inr rfl) (.inl rfl) (je_lst ja_nil))
    (jss_cons (js_for h (ji_enm h.toOk1.toOk0 (by rfl) T.m_enumerate (je_var (i := 0) (by rfl) (by first | exact .inl rfl | exact .inr (.inl rfl) | exact .inr (.inr rfl)))) (jg_tup h.toOk1.toOk0 h.calm (jgs_cons (jg_name h.nd (by rfl) (by first | exact .inl rfl | exact .inr rfl) (by first | exact .inl rfl | exact .inr rfl)) (jgs_cons (jg_tup h.toOk1.toOk0 h.calm (jgs_cons (jg_name h.nd (by rfl) (by first | exact .inl rfl | exact .inr rfl) (by first | exact .inl rfl | exact .inr rfl)) (jgs_cons (jg_name h.nd (by rfl) (by first | exact .inl rfl | exact .inr rfl) (by first | exact .inl rfl | exact .inr rfl)) jgs_nil))) jgs_nil))) (jss_cons (js_if (jt_w (jw_and (jt_cmp h.toOk1.toOk0 (je_var (i := 3) (by rfl) (by first | exact .inl rfl | exact .inr (.inl rfl) | exact .inr (.inr rfl))) je_str) (jw_and1 (jt_w (jw_or (jt_cmp h.toOk1.toOk0 (je_var (i := 4) (by rfl) (by first | exact .inl rfl | exact .inr (.inl rfl) | exact .inr (.inr rfl))) (je_var (i := 1) (by rfl) (by first | exact .inl rfl | exact .inr (.inl rfl) | exact .inr (.inr rfl)))) (jw_or1 (jt_cmp h.toOk1.toOk0 (je_tup (ja_cons je_str (ja_cons (je_var (i := 4) (by rfl) (by first | exact .inl rfl | exact .inr (.inl rfl) | exact .inr (.inr rfl))) ja_nil))) (je_sl h.toOk1.toOk0 (je_var (i := 0) (by rfl) (by first | exact .inl rfl | exact .inr (.inl rfl) | exact .inr (.inr rfl))) (jo_some (je_bin h.toOk1.toOk0 (je_var (i := 2) (by rfl) (by first | exact .inl rfl | exact .inr (.inl rfl) | exact .inr (.inr rfl))) je_int)) jo_none)))))))) (jss_cons (js_ret (je_var (i := 2) (by rfl) (by first | exact .inl rfl | exact .inr (.inl rfl) | exact .inr (.inr rfl))))
    jss_nil) jss_nil)
    (jss_cons (js_if (jt_w (jw_and (jt_cmp h.toOk1.toOk0 (je_var (i := 3) (by rfl) (by first | exact .inl rfl | exact .inr (.inl rfl) | exact .inr (.inr rfl))) je_str) (jw_and1 (jt_w (jw_or (jt_cmp h.toOk1.toOk0 (je_var (i := 1) (by rfl) (by first | exact .inl rfl | exact .inr (.inl rfl) | exact .inr (.inr rfl))) (je_lst ja_nil)) (jw_or1 (jt_cmp h.toOk1.toOk0 (je_ix h.toOk1.toOk0 (je_var (i := 1) (by rfl) (by first | exact .inl rfl | exact .inr (.inl rfl) | exact .inr (.inr rfl))) (je_neg h.toOk1.toOk0 je_int)) (je_var (i := 4) (by rfl) (by first | exact .inl rfl | exact .inr (.inl rfl) | exact .inr (.inr rfl)))))))))) (jss_cons (js_ret (je_var (i := 2) (by rfl) (by first | exact .inl rfl | exact .inr (.inl rfl) | exact .inr (.inr rfl))))
    jss_nil) jss_nil)
    (jss_cons (js_set (i := 1) h.nd (by rfl) (by first | exact .inl rfl | exact .inr rfl) (.inl rfl) (je_ite (jt_cmp h.toOk1.toOk0 (je_var (i := 3) (by rfl) (by first | exact .inl rfl | exact .inr (.inl rfl) | exact .inr (.inr rfl))) je_str) (je_bin h.toOk1.toOk0 (je_var (i := 1) (by rfl) (by first | exact .inl rfl | exact .inr (.inl rfl) | exact .inr (.inr rfl))) (je_lst (ja_cons (je_var (i := 4) (by rfl) (by first | exact .inl rfl | exact .inr (.inl rfl) | exact .inr (.inr rfl))) ja_nil))) (je_ite (jt_cmp h.toOk1.toOk0 (je_var (i := 3) (by rfl) (by first | exact .inl rfl | exact .inr (.inl rfl) | exact .inr (.inr rfl))) je_str) (je_sl h.toOk1.toOk0 (je_var (i := 1) (by rfl) (by first | exact .inl rfl | exact .inr (.inl rfl) | exact .inr (.inr rfl))) jo_none (jo_some (je_neg h.toOk1.toOk0 je_int))) (je_var (i := 1) (by rfl) (by first | exact .inl rfl | exact .inr (.inl rfl) | exact .inr (.inr rfl))))))
    jss_nil))))
    (jss_cons (js_ret je_non)
    jss_nil)))
theorem d__law_asked (T : Txt P w K mg G) (A : Around) (outer : List PySem.Env) (s : Shared) (H : Hp) (E : XK) (h : Ok (kxOf P w K mg base N__law_asked "_law_asked" (defScope s__law_asked) (G.fa 35) cdv A outer s H E G prg k)) : JSs (kxOf P w K mg base N__law_asked "_law_asked" (defScope s__law_asked) (G.fa 35) cdv A outer s H E G prg k) (defBody s__law_asked) c__law_asked := by
  exact (jss_cons (js_tryM h (by rfl) (by rfl) (fun _ _ _ h1 => (jss_cons (js_if (jt_cmp h1.toOk1.toOk0 (je_var (i := 1) (by rfl) (by first | exact .inl rfl | exact .inr (.inl rfl) | exact .inr (.inr rfl))) je_int) (jss_cons (js_ret (je_oix h1 T.giN (je_var (i := 0) (by rfl) (by first | exact .inl rfl | exact .inr (.inl rfl) | exact .inr (.inr rfl))) (je_var (i := 2) (by rfl) (by first | exact .inl rfl | exact .inr (.inl rfl) | exact .inr (.inr rfl)))))
    jss_nil) jss_nil)
    (jss_cons (js_ret (je_ite (jt_cmp h1.toOk1.toOk0 (je_var (i := 1) (by rfl) (by first | exact .inl rfl | exact .inr (.inl rfl) | exact .inr (.inr rfl))) je_int) (je_met h1 (je_var (i := 0) (by rfl) (by first | exact .inl rfl | exact .inr (.inl rfl) | exact .inr (.inr rfl))) (ja_cons (je_var (i := 2) (by rfl) (by first | exact .inl rfl | exact .inr (.inl rfl) | exact .inr (.inr rfl))) ja_nil)) (je_met0 h1 (je_met h1 (je_var (i := 0) (by rfl) (by first | exact .inl rfl | exact .inr (.inl rfl) | exact .inr (.inr rfl))) (ja_cons (je_var (i := 2) (by rfl) (by first | exact .inl rfl | exact .inr (.inl rfl) | exact .inr (.inr rfl))) ja_nil)))))
    jss_nil))) (.cons (i := 3) (by rfl) (by rfl) ⟨(by rfl), by decide, .inl T.g_InvalidNumber⟩ T.e_InvalidNumber (fun _ _ _ _ _ hz hd => (jss_cons (js_ret (je_lst (ja_cons je_str (ja_cons (je_bltB (call_repr_ok (h.toOk1.toOk0.suite _ _ _ _ _ _) rfl) (by rfl) T.m_repr (by decide +kernel) (ja_cons (je_xf (i := 3) T.xf hz hd (by rfl) (by first | exact .inl rfl | exact .inr (.inl rfl) | exact .inr (.inr rfl))) ja_nil)) ja_nil))))
    jss_nil)) (.cons (i := 3) (by rfl) (by rfl) ⟨(by rfl), by decide, .inl T.g_InvalidStep⟩ T.e_InvalidStep (fun _ _ _ _ _ hz hd => (jss_cons (js_ret (je_lst (ja_cons je_str (ja_cons (je_xf (i := 3) T.xf hz hd (by rfl) (by first | exact .inl rfl | exact .inr (.inl rfl) | exact .inr (.inr rfl))) ja_nil))))
    jss_nil)) .nil)))
    jss_nil)
theorem d__law_tells (T : Txt P w K mg G) (A : Around) (outer : List PySem.Env) (s : Shared) (H : Hp) (E : XK) (h : Ok (kxOf P w K mg base N__law_tells "_law_tells" (defScope s__law_tells) (G.fa 36) cdv A outer s H E G prg k)) : JSs (kxOf P w K mg base N__law_tells "_law_tells" (defScope s__law_tells) (G.fa 36) cdv A outer s H E G prg k) (defBody s__law_tells) c__law_tells := by
  exact (jss_cons (js_if (jt_w (jw_or (jt_cmp h.toOk1.toOk0 (je_met0 h (je_var (i := 0) (by rfl) (by first | exact .inl rfl | exact .inr (.inl rfl) | exact .inr (.inr rfl)))) (je_var (i := 1) (by rfl) (by first | exact .inl rfl | exact .inr (.inl rfl) | exact .inr (.inr rfl)))) (jw_or (jt_cmp h.toOk1.toOk0 (je_olen h (by rfl) T.m_len (je_var (i := 0) (by rfl) (by first | exact .inl rfl | exact .inr (.inl rfl) | exact .inr (.inr rfl)))) (je_bltB (call_len_ok h.toOk1.toOk0) (by rfl) T.m_len (by decide +kernel) (ja_cons (je_var (i := 1) (by rfl) (by first | exact .inl rfl | exact .inr (.inl rfl) | exact .inr (.inr rfl))) ja_nil))) (jw_or1 (jt_not (jt_val h.toOk1.toOk0 (je_isi h.toOk1.toOk0 ⟨T.isiO, T.isiK⟩ (fun _ z => by cases z; rfl) (je_var (i := 0) (by rfl) (by first | exact .inl rfl | exact .inr (.inl rfl) | exact .inr (.inr rfl))) (pe_glob (by rfl) T.g_Row (by rfl)) (by rfl) T.m_isinstance))))))) (jss_cons (js_ret je_bl)
    jss_nil) jss_nil)
    (jss_cons (js_if (jt_cmp h.toOk1.toOk0 (je_lc (own := [("_law_at", 2)]) h (ji_rng (by rfl) T.m_range (je_bltB (call_len_ok h.toOk1.toOk0) (by rfl) T.m_len (by decide +kernel) (ja_cons (je_var (i := 1) (by rfl) (by first | exact .inl rfl | exact .inr (.inl rfl) | exact .inr (.inr rfl))) ja_nil))) (blkOk_by (N := N__law_tells) (sc := defScope s__law_tells) (by decide +kernel)) (by rfl) (fun _ _ _ _ _ => (jg_name h.nd (by rfl) (by first | exact .inl rfl | exact .inr rfl) (by first | exact .inl rfl | exact .inr rfl))) (fun _ _ _ _ _ => jts_nil) (fun _ _ _ _ _ => (je_call (cal_fn (h.blk _ _ _ _ _) T.k__law_asked) (by rfl) T.g__law_asked (ja_cons (je_var (i := 0) (by rfl) (by first | exact .inl rfl | exact .inr (.inl rfl) | exact .inr (.inr rfl))) (ja_cons je_int (ja_cons (je_var (i := 2) (by rfl) (by first | exact .inl rfl | exact .inr (.inl rfl) | exact .inr (.inr rfl))) ja_nil)))))) (je_var (i := 1) (by rfl) (by first | exact .inl rfl | exact .inr (.inl rfl) | exact .inr (.inr rfl)))) (jss_cons (js_ret je_bl)
    jss_nil) jss_nil)
    (jss_cons (js_if (jt_cmp h.toOk1.toOk0 (je_lc (own := [("_law_many", 6)]) h (ji_rng (by rfl) T.m_range (je_bin h.toOk1.toOk0 (je_bltB (call_len_ok h.toOk1.toOk0) (by rfl) T.m_len (by decide +kernel) (ja_cons (je_var (i := 1) (by rfl) (by first | exact .inl rfl | exact .inr (.inl rfl) | exact .inr (.inr rfl))) ja_nil)) je_int)) (blkOk_by (N := N__law_tells) (sc := defScope s__law_tells) (by decide +kernel)) (by rfl) (fun _ _ _ _ _ => (jg_name h.nd (by rfl) (by first | exact .inl rfl | exact .inr rfl) (by first | exact .inl rfl | exact .inr rfl))) (fun _ _ _ _ _ => jts_nil) (fun _ _ _ _ _ => (je_call (cal_fn (h.blk _ _ _ _ _) T.k__law_asked) (by rfl) T.g__law_asked (ja_cons (je_var (i := 0) (by rfl) (by first | exact .inl rfl | exact .inr (.inl rfl) | exact .inr (.inr rfl))) (ja_cons je_int (ja_cons (je_var (i := 6) (by rfl) (by first | exact .inl rfl | exact .inr (.inl rfl) | exact .inr (.inr rfl))) ja_nil)))))) (je_call (cal_fn h T.k__law_heldrows) (by rfl) T.g__law_heldrows (ja_cons (je_var (i := 1) (by rfl) (by first | exact .inl rfl | exact .inr (.inl rfl) | exact .inr (.inr rfl))) ja_nil))) (jss_cons (js_ret je_bl)
    jss_nil) jss_nil)
    (jss_cons (js_for h (ji_rng (by rfl) T.m_range (je_bltB (call_len_ok h.toOk1.toOk0) (by rfl) T.m_len (by decide +kernel) (ja_cons (je_var (i := 1) (by rfl) (by first | exact .inl rfl | exact .inr (.inl rfl) | exact .inr (.inr rfl))) ja_nil))) (jg_name h.nd (by rfl) (by first | exact .inl rfl | exact .inr rfl) (by first | exact .inl rfl | exact .inr rfl)) (jss_cons (js_set (i := 3) h.nd (by rfl) (by first | exact .inl rfl | exact .inr rfl) (.inl rfl) (je_bin h.toOk1.toOk0 (je_sl h.toOk1.toOk0 (je_var (i := 1) (by rfl) (by first | exact .inl rfl | exact .inr (.inl rfl) | exact .inr (.inr rfl))) jo_none (jo_some (je_var (i := 2) (by rfl) (by first | exact .inl rfl | exact .inr (.inl rfl) | exact .inr (.inr rfl))))) (je_sl h.toOk1.toOk0 (je_var (i := 1) (by rfl) (by first | exact .inl rfl | exact .inr (.inl rfl) | exact .inr (.inr rfl))) (jo_some (je_bin h.toOk1.toOk0 (je_var (i := 2) (by rfl) (by first | exact .inl rfl | exact .inr (.inl rfl) | exact .inr (.inr rfl))) je_int)) jo_none)))
    (jss_cons (js_if (jt_cmp h.toOk1.toOk0 (je_call (cal_fn h T.k__law_asked) (by rfl) T.g__law_asked (ja_cons (je_var (i := 0) (by rfl) (by first | exact .inl rfl | exact .inr (.inl rfl) | exact .inr (.inr rfl))) (ja_cons je_int (ja_cons (je_var (i := 2) (by rfl) (by first | exact .inl rfl | exact .inr (.inl rfl) | exact .inr (.inr rfl))) ja_nil)))) (je_ite (jt_cmp h.toOk1.toOk0 (je_call (cal_fn h T.k__law_fault) (by rfl) T.g__law_fault (ja_cons (je_var (i := 3) (by rfl) (by first | exact .inl rfl | exact .inr (.inl rfl) | exact .inr (.inr rfl))) ja_nil)) je_non) (je_var (i := 3) (by rfl) (by first | exact .inl rfl | exact .inr (.inl rfl) | exact .inr (.inr rfl))) (je_lst (ja_cons je_str (ja_cons (je_call (cal_fn h T.k__law_fault) (by rfl) T.g__law_fault (ja_cons (je_var (i := 3) (by rfl) (by first | exact .inl rfl | exact .inr (.inl rfl) | exact .inr (.inr rfl))) ja_nil)) ja_nil))))) (jss_cons (js_ret je_bl)
    jss_nil) jss_nil)
    jss_nil)))
    (jss_cons (js_for h (ji_seq h.toOk1.toOk0 (je_lst (ja_cons je_str (ja_cons je_str (ja_cons je_str (ja_cons je_str ja_nil)))))) (jg_name h.nd (by rfl) (by first | exact .inl rfl | exact .inr rfl) (by first | exact .inl rfl | exact .inr rfl)) (jss_cons (js_if (jt_cmp h.toOk1.toOk0 (je_met h (je_var (i := 0) (by rfl) (by first | exact .inl rfl | exact .inr (.inl rfl) | exact .inr (.inr rfl))) (ja_cons (je_var (i := 4) (by rfl) (by first | exact .inl rfl | exact .inr (.inl rfl) | exact .inr (.inr rfl))) ja_nil)) (je_sset h.calm (by rfl) T.m_sorted (by rfl) T.m_set (je_lc (own := [("_law_word", 7), ("_law_name", 8)]) h (ji_seq h.toOk1.toOk0 (je_var (i := 1) (by rfl) (by first | exact .inl rfl | exact .inr (.inl rfl) | exact .inr (.inr rfl)))) (blkOk_by (N := N__law_tells) (sc := defScope s__law_tells) (by decide +kernel)) (by rfl) (fun _ _ _ _ _ => (jg_tup (h.blk _ _ _ _ _).toOk1.toOk0 h.calm (jgs_cons (jg_name h.nd (by rfl) (by first | exact .inl rfl | exact .inr rfl) (by first | exact .inl rfl | exact .inr rfl)) (jgs_cons (jg_name h.nd (by rfl) (by first | exact .inl rfl | exact .inr rfl) (by first | exact .inl rfl | exact .inr rfl)) jgs_nil)))) (fun _ _ _ _ _ => (jts_one (jt_cmp (h.blk _ _ _ _ _).toOk1.toOk0 (je_call (cal_fn (h.blk _ _ _ _ _) T.k__law_kind) (by rfl) T.g__law_kind (ja_cons (je_var (i := 7) (by rfl) (by first | exact .inl rfl | exact .inr (.inl rfl) | exact .inr (.inr rfl))) ja_nil)) (je_var (i := 4) (by rfl) (by first | exact .inl rfl | exact .inr (.inl rfl) | exact .inr (.inr rfl)))))) (fun _ _ _ _ _ => (je_var (i := 8) (by rfl) (by first | exact .inl rfl | exact .inr (.inl rfl) | exact .inr (.inr rfl))))))) (jss_cons (js_ret je_bl)
    jss_nil) jss_nil)
    jss_nil))
    (jss_cons (js_for h (ji_seq h.toOk1.toOk0 (je_lst (ja_cons (je_neg h.toOk1.toOk0 je_int) (ja_cons (je_bin h.toOk1.toOk0 (je_bltB (call_len_ok h.toOk1.toOk0) (by rfl) T.m_len (by decide +kernel) (ja_cons (je_var (i := 1) (by rfl) (by first | exact .inl rfl | exact .inr (.inl rfl) | exact .inr (.inr rfl))) ja_nil)) je_int) (ja_cons je_non (ja_cons je_bl (ja_cons je_str (ja_cons (je_tup (ja_cons je_int ja_nil)) (ja_cons (je_neg h.toOk1.toOk0 (je_bin h.toOk1.toOk0 je_int je_int)) ja_nil))))))))) (jg_name h.nd (by rfl) (by first | exact .inl rfl | exact .inr rfl) (by first | exact .inl rfl | exact .inr rfl)) (jss_cons (js_if (jt_cmp h.toOk1.toOk0 (je_lc (own := [("_law_way", 9)]) h (ji_rng (by rfl) T.m_range je_int) (blkOk_by (N := N__law_tells) (sc := defScope s__law_tells) (by decide +kernel)) (by rfl) (fun _ _ _ _ _ => (jg_name h.nd (by rfl) (by first | exact .inl rfl | exact .inr rfl) (by first | exact .inl rfl | exact .inr rfl))) (fun _ _ _ _ _ => (jts_one (jt_cmp (h.blk _ _ _ _ _).toOk1.toOk0 (je_call (cal_fn (h.blk _ _ _ _ _) T.k__law_asked) (by rfl) T.g__law_asked (ja_cons (je_var (i := 0) (by rfl) (by first | exact .inl rfl | exact .inr (.inl rfl) | exact .inr (.inr rfl))) (ja_cons (je_var (i := 9) (by rfl) (by first | exact .inl rfl | exact .inr (.inl rfl) | exact .inr (.inr rfl))) (ja_cons (je_var (i := 5) (by rfl) (by first | exact .inl rfl | exact .inr (.inl rfl) | exact .inr (.inr rfl))) ja_nil)))) (je_lst (ja_cons je_str (ja_cons (je_bltB (call_repr_ok (h.blk _ _ _ _ _).toOk1.toOk0 rfl) (by rfl) T.m_repr (by decide +kernel) (ja_cons (je_var (i := 5) (by rfl) (by first | exact .inl rfl | exact .inr (.inl rfl) | exact .inr (.inr rfl))) ja_nil)) ja_nil)))))) (fun _ _ _ _ _ => (je_var (i := 9) (by rfl) (by first | exact .inl rfl | exact .inr (.inl rfl) | exact .inr (.inr rfl))))) (je_lst ja_nil)) (jss_cons (js_ret je_bl)
    jss_nil) jss_nil)
    jss_nil))
    (jss_cons (js_append (je_met0 h (je_var (i := 0) (by rfl) (by first | exact .inl rfl | exact .inr (.inl rfl) | exact .inr (.inr rfl)))) (je_tup (ja_cons je_str (ja_cons je_str ja_nil))))
    (jss_cons (js_ret (je_and (je_cmp h.toOk1.toOk0 (je_met0 h (je_var (i := 0) (by rfl) (by first | exact .inl rfl | exact .inr (.inl rfl) | exact .inr (.inr rfl)))) (je_var (i := 1) (by rfl) (by first | exact .inl rfl | exact .inr (.inl rfl) | exact .inr (.inr rfl)))) (je_one (je_cmp h.toOk1.toOk0 (je_call (cal_fn h T.k__law_asked) (by rfl) T.g__law_asked (ja_cons (je_var (i := 0) (by rfl) (by first | exact .inl rfl | exact .inr (.inl rfl) | exact .inr (.inr rfl))) (ja_cons je_int (ja_cons (je_bltB (call_len_ok h.toOk1.toOk0) (by rfl) T.m_len (by decide +kernel) (ja_cons (je_var (i := 1) (by rfl) (by first | exact .inl rfl | exact .inr (.inl rfl) | exact .inr (.inr rfl))) ja_nil)) ja_nil)))) (je_lst (ja_cons je_str (ja_cons (je_bltB (call_repr_ok h.toOk1.toOk0 rfl) (by rfl) T.m_repr (by decide +kernel) (ja_cons (je_bltB (call_len_ok h.toOk1.toOk0) (by rfl) T.m_len (by decide +kernel) (ja_cons (je_var (i := 1) (by rfl) (by first | exact .inl rfl | exact .inr (.inl rfl) | exact .inr (.inr rfl))) ja_nil)) ja_nil)) ja_nil)))))))
    jss_nil))))))))
theorem d__law_heldrows (T : Txt P w K mg G) (A : Around) (outer : List PySem.Env) (s : Shared) (H : Hp) (E : XK) (h : Ok (kxOf P w K mg base N__law_heldrows "_law_heldrows" (defScope s__law_heldrows) (G.fa 37) cdv A outer s H E G prg k)) : JSs (kxOf P w K mg base N__law_heldrows "_law_heldrows" (defScope s__law_heldrows) (G.fa 37) cdv A outer s H E G prg k) (defBody s__law_heldrows) c__law_heldrows := by
  exact (jss_cons (js_ret (je_lc (own := [("_law_many", 1)]) h (ji_rng (by rfl) T.m_range (je_bin h.toOk1.toOk0 (je_bltB (call_len_ok h.toOk1.toOk0) (by rfl) T.m_len (by decide +kernel) (ja_cons (je_var (i := 0) (by rfl) (by first | exact .inl rfl | exact .inr (.inl rfl) | exact .inr (.inr rfl))) ja_nil)) je_int)) (blkOk_by (N := N__law_heldrows) (sc := defScope s__law_heldrows) (by decide +kernel)) (by rfl) (fun _ _ _ _ _ => (jg_name h.nd (by rfl) (by first | exact .inl rfl | exact .inr rfl) (by first | exact .inl rfl | exact .inr rfl))) (fun _ _ _ _ _ => jts_nil) (fun _ _ _ _ _ => (je_call (cal_fn (h.blk _ _ _ _ _) T.k__law_kept) (by rfl) T.g__law_kept (ja_cons (je_sl (h.blk _ _ _ _ _).toOk1.toOk0 (je_var (i := 0) (by rfl) (by first | exact .inl rfl | exact .inr (.inl rfl) | exact .inr (.inr rfl))) jo_none (jo_some (je_var (i := 1) (by rfl) (by first | exact .inl rfl | exact .inr (.inl rfl) | exact .inr (.inr rfl))))) ja_nil)))))
    jss_nil)
theorem d__law_among (T : Txt P w K mg G) (A : Around) (outer : List PySem.Env) (s : Shared) (H : Hp) (E : XK) (h : Ok (kxOf P w K mg base N__law_among "_law_among" (defScope s__law_among) (G.fa 38) cdv A outer s H E G prg k)) : JSs (kxOf P w K mg base N__law_among "_law_among" (defScope s__law_among) (G.fa 38) cdv A outer s H E G prg k) (defBody s__law_among) c__law_among := by
  exact (jss_cons (js_set (i := 4) h.nd (by rfl) (by first | exact .inl rfl | exact .inr rfl) (.inl rfl) (je_lst (ja_cons je_str (ja_cons je_str (ja_cons je_str (ja_cons je_str (ja_cons je_str (ja_cons je_str (ja_cons je_str (ja_cons je_str (ja_cons je_str (ja_cons je_str (ja_cons je_str (ja_cons je_str ja_nil))))))))))))))
    (jss_cons (js_for h (ji_rng (by rfl) T.m_range je_int) (jg_name h.nd (by rfl) (by first | exact .inl rfl | exact .inr rfl) (by first | exact .inl rfl | exact .inr rfl)) (jss_cons (js_set (i := 6) h.nd (by rfl) (by first | exact .inl rfl | exact .inr rfl) (.inl rfl) (je_tup (ja_cons (je_call (cal_fn h T.k__law_pick) (by rfl) T.g__law_pick (ja_cons (je_var (i := 2) (by rfl) (by first | exact .inl rfl | exact .inr (.inl rfl) | exact .inr (.inr rfl))) (ja_cons (je_var (i := 4) (by rfl) (by first | exact .inl rfl | exact .inr (.inl rfl) | exact .inr (.inr rfl))) ja_nil))) (ja_cons (je_call (cal_fn h T.k__law_pick) (by rfl) T.g__law_pick (ja_cons (je_var (i := 2) (by rfl) (by first | exact .inl rfl | exact .inr (.inl rfl) | exact .inr (.inr rfl))) (ja_cons (je_var (i := 3) (by rfl) (by first | exact .inl rfl | exact .inr (.inl rfl) | exact .inr (.inr rfl))) ja_nil))) ja_nil))))
    (jss_cons (js_if (jt_w (jw_or (jt_cmp h.toOk1.toOk0 (je_oin h (je_var (i := 6) (by rfl) (by first | exact .inl rfl | exact .inr (.inl rfl) | exact .inr (.inr rfl))) (je_var (i := 0) (by rfl) (by first | exact .inl rfl | exact .inr (.inl rfl) | exact .inr (.inr rfl)))) (je_cmp h.toOk1.toOk0 (je_var (i := 6) (by rfl) (by first | exact .inl rfl | exact .inr (.inl rfl) | exact .inr (.inr rfl))) (je_var (i := 1) (by rfl) (by first | exact .inl rfl | exact .inr (.inl rfl) | exact .inr (.inr rfl))))) (jw_or (jt_oin h (je_bltT (call_list_ok h.toOk1.toOk0) (by rfl) T.m_list (by decide +kernel) (ja_cons (je_var (i := 6) (by rfl) (by first | exact .inl rfl | exact .inr (.inl rfl) | exact .inr (.inr rfl))) ja_nil)) (je_var (i := 0) (by rfl) (by first | exact .inl rfl | exact .inr (.inl rfl) | exact .inr (.inr rfl)))) (jw_or1 (jt_oin h (je_bin h.toOk1.toOk0 (je_var (i := 6) (by rfl) (by first | exact .inl rfl | exact .inr (.inl rfl) | exact .inr (.inr rfl))) (je_tup (ja_cons je_int ja_nil))) (je_var (i := 0) (by rfl) (by first | exact .inl rfl | exact .inr (.inl rfl) | exact .inr (.inr rfl)))))))) (jss_cons (js_ret je_bl)
    jss_nil) jss_nil)
    jss_nil)))
    (jss_cons (js_setLc (i := 7) (own := [("_law_one", 8)]) h (by rfl) (by rfl) (sw_true (by rfl) (by rfl) (by rfl) (by rfl)) (ji_seq h.toOk1.toOk0 (je_bin h.toOk1.toOk0 (je_lst (ja_cons je_non (ja_cons je_int (ja_cons je_str (ja_cons (je_tup ja_nil) (ja_cons (je_tup (ja_cons je_str ja_nil)) (ja_cons (je_tup (ja_cons je_str (ja_cons je_int ja_nil))) ja_nil))))))) (je_lc (own := [("_law_step", 6)]) h (ji_seq h.toOk1.toOk0 (je_var (i := 1) (by rfl) (by first | exact .inl rfl | exact .inr (.inl rfl) | exact .inr (.inr rfl)))) (blkOk_by (N := N__law_among) (sc := defScope s__law_among) (by decide +kernel)) (by rfl) (fun _ _ _ _ _ => (jg_name h.nd (by rfl) (by first | exact .inl rfl | exact .inr rfl) (by first | exact .inl rfl | exact .inr rfl))) (fun _ _ _ _ _ => jts_nil) (fun _ _ _ _ _ => (je_bltT (call_list_ok (h.blk _ _ _ _ _).toOk1.toOk0) (by rfl) T.m_list (by decide +kernel) (ja_cons (je_var (i := 6) (by rfl) (by first | exact .inl rfl | exact .inr (.inl rfl) | exact .inr (.inr rfl))) ja_nil)))))) (blkOk_by (N := N__law_among) (sc := defScope s__law_among) (by decide +kernel)) (by rfl) (fun _ _ _ _ _ => (jg_name h.nd (by rfl) (by first | exact .inl rfl | exact .inr rfl) (by first | exact .inl rfl | exact .inr rfl))) (fun _ _ _ _ _ => (jts_one (jt_oin (h.blk _ _ _ _ _) (je_var (i := 8) (by rfl) (by first | exact .inl rfl | exact .inr (.inl rfl) | exact .inr (.inr rfl))) (je_var (i := 0) (by rfl) (by first | exact .inl rfl | exact .inr (.inl rfl) | exact .inr (.inr rfl)))))) (fun _ _ _ _ _ => (je_var (i := 8) (by rfl) (by first | exact .inl rfl | exact .inr (.inl rfl) | exact .inr (.inr rfl)))))
    (jss_cons (js_ret (je_and (je_cmp h.toOk1.toOk0 (je_var (i := 7) (by rfl) (by first | exact .inl rfl | exact .inr (.inl rfl) | exact .inr (.inr rfl))) (je_lst ja_nil)) (je_one (je_cmp h.toOk1.toOk0 (je_lc (own := [("_law_step", 6)]) h (ji_seq h.toOk1.toOk0 (je_var (i := 1) (by rfl) (by first | exact .inl rfl | exact .inr (.inl rfl) | exact .inr (.inr rfl)))) (blkOk_by (N := N__law_among) (sc := defScope s__law_among) (by decide +kernel)) (by rfl) (fun _ _ _ _ _ => (jg_name h.nd (by rfl) (by first | exact .inl rfl | exact .inr rfl) (by first | exact .inl rfl | exact .inr rfl))) (fun _ _ _ _ _ => (jts_one (jt_onin (h.blk _ _ _ _ _) (je_var (i := 6) (by rfl) (by first | exact .inl rfl | exact .inr (.inl rfl) | exact .inr (.inr rfl))) (je_var (i := 0) (by rfl) (by first | exact .inl rfl | exact .inr (.inl rfl) | exact .inr (.inr rfl)))))) (fun _ _ _ _ _ => (je_var (i := 6) (by rfl) (by first | exact .inl rfl | exact .inr (.inl rfl) | exact .inr (.inr rfl))))) (je_lst ja_nil)))))
    jss_nil))))
theorem d__law_added (T : Txt P w K mg G) (A : Around) (outer : List PySem.Env) (s : Shared) (H : Hp) (E : XK) (h : Ok (kxOf P w K mg base N__law_added "_law_added" (defScope s__law_added) (G.fa 39) cdv A outer s H E G prg k)) : JSs (kxOf P w K mg base N__law_added "_law_added" (defScope s__law_added) (G.fa 39) cdv A outer s H E G prg k) (defBody s__law_added) c__law_added := by
  exact (jss_cons (js_set (i := 3) h.nd (by rfl) (by first | exact .inl rfl | exact .inr rfl) (.inl rfl) (je_new ja_nil))
    (jss_cons (js_for h (ji_rng (by rfl) T.m_range je_int) (jg_name h.nd (by rfl) (by first | exact .inl rfl | exact .inr rfl) (by first | exact .inl rfl | exact .inr rfl)) (jss_cons (js_tryAs (i := 6) h (by rfl) (by rfl) (by rfl) (by rfl) ⟨(by rfl), by decide, .inl T.g_InvalidStep⟩ T.e_InvalidStep (fun _ _ _ h1 => (jss_cons (js_set (i := 5) h1.nd (by rfl) (by first | exact .inl rfl | exact .inr rfl) (.inl rfl) (je_ite (jt_cmp h1.toOk1.toOk0 (je_var (i := 4) (by rfl) (by first | exact .inl rfl | exact .inr (.inl rfl) | exact .inr (.inr rfl))) je_int) (je_obin h1 ⟨T.isiO, T.isiK⟩ ⟨T.addL, T.addR⟩ (je_var (i := 0) (by rfl) (by first | exact .inl rfl | exact .inr (.inl rfl) | exact .inr (.inr rfl))) (je_var (i := 1) (by rfl) (by first | exact .inl rfl | exact .inr (.inl rfl) | exact .inr (.inr rfl)))) (je_ite (jt_cmp h1.toOk1.toOk0 (je_var (i := 4) (by rfl) (by first | exact .inl rfl | exact .inr (.inl rfl) | exact .inr (.inr rfl))) je_int) (je_obin h1 ⟨T.isiO, T.isiK⟩ ⟨T.addL, T.addR⟩ (je_var (i := 0) (by rfl) (by first | exact .inl rfl | exact .inr (.inl rfl) | exact .inr (.inr rfl))) (je_bltT (call_tuple_ok h1.toOk1.toOk0) (by rfl) T.m_tuple (by decide +kernel) (ja_cons (je_met0 h1 (je_var (i := 1) (by rfl) (by first | exact .inl rfl | exact .inr (.inl rfl) | exact .inr (.inr rfl)))) ja_nil))) (je_obin h1 ⟨T.isiO, T.isiK⟩ ⟨T.addL, T.addR⟩ (je_bltT (call_tuple_ok h1.toOk1.toOk0) (by rfl) T.m_tuple (by decide +kernel) (ja_cons (je_met0 h1 (je_var (i := 0) (by rfl) (by first | exact .inl rfl | exact .inr (.inl rfl) | exact .inr (.inr rfl)))) ja_nil)) (je_var (i := 1) (by rfl) (by first | exact .inl rfl | exact .inr (.inl rfl) | exact .inr (.inr rfl)))))))
    (jss_cons (js_append (je_var (i := 3) (by rfl) (by first | exact .inl rfl | exact .inr (.inl rfl) | exact .inr (.inr rfl))) (je_met0 h1 (je_var (i := 5) (by rfl) (by first | exact .inl rfl | exact .inr (.inl rfl) | exact .inr (.inr rfl)))))
    jss_nil))) (fun _ _ _ _ _ hz hd => (jss_cons (js_append (je_var (i := 3) (by rfl) (by first | exact .inl rfl | exact .inr (.inl rfl) | exact .inr (.inr rfl))) (je_xf (i := 6) T.xf hz hd (by rfl) (by first | exact .inl rfl | exact .inr (.inl rfl) | exact .inr (.inr rfl))))
    jss_nil)))
    jss_nil))
    (jss_cons (js_set (i := 7) h.nd (by rfl) (by first | exact .inl rfl | exact .inr rfl) (.inl rfl) (je_ite (jt_cmp h.toOk1.toOk0 (je_bltB (call_len_ok h.toOk1.toOk0) (by rfl) T.m_len (by decide +kernel) (ja_cons (je_var (i := 2) (by rfl) (by first | exact .inl rfl | exact .inr (.inl rfl) | exact .inr (.inr rfl))) ja_nil)) je_int) je_non (je_ite (jt_cmp h.toOk1.toOk0 (je_call (cal_fn h T.k__law_fault) (by rfl) T.g__law_fault (ja_cons (je_var (i := 2) (by rfl) (by first | exact .inl rfl | exact .inr (.inl rfl) | exact .inr (.inr rfl))) ja_nil)) je_non) (je_var (i := 2) (by rfl) (by first | exact .inl rfl | exact .inr (.inl rfl) | exact .inr (.inr rfl))) (je_call (cal_fn h T.k__law_fault) (by rfl) T.g__law_fault (ja_cons (je_var (i := 2) (by rfl) (by first | exact .inl rfl | exact .inr (.inl rfl) | exact .inr (.inr rfl))) ja_nil)))))
    (jss_cons (js_ret (je_cmp h.toOk1.toOk0 (je_var (i := 3) (by rfl) (by first | exact .inl rfl | exact .inr (.inl rfl) | exact .inr (.inr rfl))) (je_bin h.toOk1.toOk0 (je_lst (ja_cons (je_var (i := 7) (by rfl) (by first | exact .inl rfl | exact .inr (.inl rfl) | exact .inr (.inr rfl))) ja_nil)) je_int)))
    jss_nil))))
theorem d_law (T : Txt P w K mg G) (A : Around) (outer : List PySem.Env) (s : Shared) (H : Hp) (E : XK) (h : Ok (kxOf P w K mg base N_law "law" (defScope s_law) (G.fa 30) cdv A outer s H E G prg k)) : JSs (kxOf P w K mg base N_law "law" (defScope s_law) (G.fa 30) cdv A outer s H E G prg k) (defBody s_law) c_law := by
  exact (jss_cons (js_for h (ji_enm h.toOk1.toOk0 (by rfl) T.m_enumerate (je_bin h.toOk1.toOk0 (je_sl h.toOk1.toOk0 (je_var (i := 0) (by rfl) (by first | exact .inl rfl | exact .inr (.inl rfl) | exact .inr (.inr rfl))) jo_none (jo_some je_int)) (je_bin h.toOk1.toOk0 (je_lst (ja_cons je_int ja_nil)) (je_bltT (call_int_ok) (by rfl) T.m_int (by decide +kernel) (ja_cons (je_cmp h.toOk1.toOk0 (je_var (i := 0) (by rfl) (by first | exact .inl rfl | exact .inr (.inl rfl) | exact .inr (.inr rfl))) (je_lst ja_nil)) ja_nil))))) (jg_tup h.toOk1.toOk0 h.calm (jgs_cons (jg_name h.nd (by rfl) (by first | exact .inl rfl | exact .inr rfl) (by first | exact .inl rfl | exact .inr rfl)) (jgs_cons (jg_name h.nd (by rfl) (by first | exact .inl rfl | exact .inr rfl) (by first | exact .inl rfl | exact .inr rfl)) jgs_nil))) (jss_cons (js_set (i := 3) h.nd (by rfl) (by first | exact .inl rfl | exact .inr rfl) (.inl rfl) (je_call (cal_fn h T.k__law_pool) (by rfl) T.g__law_pool (ja_cons (je_var (i := 2) (by rfl) (by first | exact .inl rfl | exact .inr (.inl rfl) | exact .inr (.inr rfl))) (ja_cons (je_bin h.toOk1.toOk0 je_int (je_var (i := 1) (by rfl) (by first | exact .inl rfl | exact .inr (.inl rfl) | exact .inr (.inr rfl)))) (ja_cons je_int ja_nil)))))
    (jss_cons (js_set (i := 4) h.nd (by rfl) (by first | exact .inl rfl | exact .inr rfl) (.inl rfl) (je_ix h.toOk1.toOk0 (je_lst (ja_cons (je_lst (ja_cons je_str (ja_cons je_str (ja_cons je_str (ja_cons je_str ja_nil))))) (ja_cons (je_lst (ja_cons je_str (ja_cons je_str (ja_cons je_str (ja_cons je_str ja_nil))))) (ja_cons (je_lst (ja_cons je_str (ja_cons je_str (ja_cons je_str (ja_cons je_str ja_nil))))) ja_nil)))) (je_call (cal_fn h T.k__law_draw) (by rfl) T.g__law_draw (ja_cons (je_var (i := 3) (by rfl) (by first | exact .inl rfl | exact .inr (.inl rfl) | exact .inr (.inr rfl))) (ja_cons je_int ja_nil)))))
    (jss_cons (js_par2 (i := 5) (j := 6) h (by rfl) (by rfl) (by decide) (by rfl) (by rfl) (ja_cons (je_call (cal_fn h T.k__law_chosen) (by rfl) T.g__law_chosen (ja_cons (je_var (i := 3) (by rfl) (by first | exact .inl rfl | exact .inr (.inl rfl) | exact .inr (.inr rfl))) (ja_cons (je_var (i := 4) (by rfl) (by first | exact .inl rfl | exact .inr (.inl rfl) | exact .inr (.inr rfl))) (ja_cons (je_call (cal_fn h T.k__law_draw) (by rfl) T.g__law_draw (ja_cons (je_var (i := 3) (by rfl) (by first | exact .inl rfl | exact .inr (.inl rfl) | exact .inr (.inr rfl))) (ja_cons je_int ja_nil))) ja_nil)))) (ja_cons (je_call (cal_fn h T.k__law_chosen) (by rfl) T.g__law_chosen (ja_cons (je_var (i := 3) (by rfl) (by first | exact .inl rfl | exact .inr (.inl rfl) | exact .inr (.inr rfl))) (ja_cons (je_var (i := 4) (by rfl) (by first | exact .inl rfl | exact .inr (.inl rfl) | exact .inr (.inr rfl))) (ja_cons (je_call (cal_fn h T.k__law_draw) (by rfl) T.g__law_draw (ja_cons (je_var (i := 3) (by rfl) (by first | exact .inl rfl | exact .inr (.inl rfl) | exact .inr (.inr rfl))) (ja_cons je_int ja_nil))) ja_nil)))) ja_nil)) (by rfl))
    (jss_cons (js_set (i := 6) h.nd (by rfl) (by first | exact .inl rfl | exact .inr rfl) (.inl rfl) (je_ite (jt_cmp h.toOk1.toOk0 (je_call (cal_fn h T.k__law_draw) (by rfl) T.g__law_draw (ja_cons (je_var (i := 3) (by rfl) (by first | exact .inl rfl | exact .inr (.inl rfl) | exact .inr (.inr rfl))) (ja_cons je_int ja_nil))) je_int) (je_var (i := 6) (by rfl) (by first | exact .inl rfl | exact .inr (.inl rfl) | exact .inr (.inr rfl))) (je_bin h.toOk1.toOk0 (je_sl h.toOk1.toOk0 (je_var (i := 5) (by rfl) (by first | exact .inl rfl | exact .inr (.inl rfl) | exact .inr (.inr rfl))) jo_none (jo_some (je_call (cal_fn h T.k__law_draw) (by rfl) T.g__law_draw (ja_cons (je_var (i := 3) (by rfl) (by first | exact .inl rfl | exact .inr (.inl rfl) | exact .inr (.inr rfl))) (ja_cons je_int ja_nil))))) (je_sl h.toOk1.toOk0 (je_var (i := 6) (by rfl) (by first | exact .inl rfl | exact .inr (.inl rfl) | exact .inr (.inr rfl))) jo_none (jo_some je_int)))))
    (jss_cons (js_set (i := 6) h.nd (by rfl) (by first | exact .inl rfl | exact .inr rfl) (.inl rfl) (je_ite (jt_w (jw_and (jt_cmp h.toOk1.toOk0 (je_call (cal_fn h T.k__law_fault) (by rfl) T.g__law_fault (ja_cons (je_var (i := 6) (by rfl) (by first | exact .inl rfl | exact .inr (.inl rfl) | exact .inr (.inr rfl))) ja_nil)) je_non) (jw_and1 (jt_cmp h.toOk1.toOk0 (je_bltB (call_len_ok h.toOk1.toOk0) (by rfl) T.m_len (by decide +kernel) (ja_cons (je_var (i := 6) (by rfl) (by first | exact .inl rfl | exact .inr (.inl rfl) | exact .inr (.inr rfl))) ja_nil)) je_int)))) (je_var (i := 6) (by rfl) (by first | exact .inl rfl | exact .inr (.inl rfl) | exact .inr (.inr rfl))) (je_lst ja_nil)))
    (jss_cons (js_par2 (i := 7) (j := 8) h (by rfl) (by rfl) (by decide) (by rfl) (by rfl) (ja_cons (je_obin h ⟨T.isiO, T.isiK⟩ ⟨T.addL, T.addR⟩ (je_call0 (cal_mk h rfl) (by rfl) T.g_Row) (je_bltT (call_tuple_ok h.toOk1.toOk0) (by rfl) T.m_tuple (by decide +kernel) (ja_cons (je_var (i := 5) (by rfl) (by first | exact .inl rfl | exact .inr (.inl rfl) | exact .inr (.inr rfl))) ja_nil))) (ja_cons (je_obin h ⟨T.isiO, T.isiK⟩ ⟨T.addL, T.addR⟩ (je_call0 (cal_mk h rfl) (by rfl) T.g_Row) (je_bltT (call_tuple_ok h.toOk1.toOk0) (by rfl) T.m_tuple (by decide +kernel) (ja_cons (je_var (i := 6) (by rfl) (by first | exact .inl rfl | exact .inr (.inl rfl) | exact .inr (.inr rfl))) ja_nil))) ja_nil)) (by rfl))
    (jss_cons (js_if (jt_w (jw_or (jt_not (jt_val h.toOk1.toOk0 (je_call (cal_fn h T.k__law_added) (by rfl) T.g__law_added (ja_cons (je_var (i := 7) (by rfl) (by first | exact .inl rfl | exact .inr (.inl rfl) | exact .inr (.inr rfl))) (ja_cons (je_var (i := 8) (by rfl) (by first | exact .inl rfl | exact .inr (.inl rfl) | exact .inr (.inr rfl))) (ja_cons (je_bin h.toOk1.toOk0 (je_var (i := 5) (by rfl) (by first | exact .inl rfl | exact .inr (.inl rfl) | exact .inr (.inr rfl))) (je_var (i := 6) (by rfl) (by first | exact .inl rfl | exact .inr (.inl rfl) | exact .inr (.inr rfl)))) ja_nil)))))) (jw_or1 (jt_not (jt_val h.toOk1.toOk0 (je_call (cal_fn h T.k__law_added) (by rfl) T.g__law_added (ja_cons (je_var (i := 8) (by rfl) (by first | exact .inl rfl | exact .inr (.inl rfl) | exact .inr (.inr rfl))) (ja_cons (je_var (i := 7) (by rfl) (by first | exact .inl rfl | exact .inr (.inl rfl) | exact .inr (.inr rfl))) (ja_cons (je_bin h.toOk1.toOk0 (je_var (i := 6) (by rfl) (by first | exact .inl rfl | exact .inr (.inl rfl) | exact .inr (.inr rfl))) (je_var (i := 5) (by rfl) (by first | exact .inl rfl | exact .inr (.inl rfl) | exact .inr (.inr rfl)))) ja_nil))))))))) (jss_cons (js_ret je_bl)
    jss_nil) jss_nil)
    (jss_cons (js_if (jt_w (jw_or (jt_not (jt_val h.toOk1.toOk0 (je_call (cal_fn h T.k__law_tells) (by rfl) T.g__law_tells (ja_cons (je_var (i := 7) (by rfl) (by first | exact .inl rfl | exact .inr (.inl rfl) | exact .inr (.inr rfl))) (ja_cons (je_var (i := 5) (by rfl) (by first | exact .inl rfl | exact .inr (.inl rfl) | exact .inr (.inr rfl))) ja_nil))))) (jw_or (jt_not (jt_val h.toOk1.toOk0 (je_call (cal_fn h T.k__law_tells) (by rfl) T.g__law_tells (ja_cons (je_var (i := 8) (by rfl) (by first | exact .inl rfl | exact .inr (.inl rfl) | exact .inr (.inr rfl))) (ja_cons (je_var (i := 6) (by rfl) (by first | exact .inl rfl | exact .inr (.inl rfl) | exact .inr (.inr rfl))) ja_nil))))) (jw_or1 (jt_not (jt_val h.toOk1.toOk0 (je_call (cal_fn h T.k__law_among) (by rfl) T.g__law_among (ja_cons (je_var (i := 7) (by rfl) (by first | exact .inl rfl | exact .inr (.inl rfl) | exact .inr (.inr rfl))) (ja_cons (je_var (i := 5) (by rfl) (by first | exact .inl rfl | exact .inr (.inl rfl) | exact .inr (.inr rfl))) (ja_cons (je_var (i := 3) (by rfl) (by first | exact .inl rfl | exact .inr (.inl rfl) | exact .inr (.inr rfl))) (ja_cons (je_var (i := 4) (by rfl) (by first | exact .inl rfl | exact .inr (.inl rfl) | exact .inr (.inr rfl))) ja_nil))))))))))) (jss_cons (js_ret je_bl)
    jss_nil) jss_nil)
    (jss_cons (js_if (jt_w (jw_or (jt_cmp h.toOk1.toOk0 (je_oeq h ⟨T.isiO, T.isiK⟩ ⟨T.eqN⟩ (je_var (i := 7) (by rfl) (by first | exact .inl rfl | exact .inr (.inl rfl) | exact .inr (.inr rfl))) (je_var (i := 8) (by rfl) (by first | exact .inl rfl | exact .inr (.inl rfl) | exact .inr (.inr rfl)))) (je_cmp h.toOk1.toOk0 (je_var (i := 5) (by rfl) (by first | exact .inl rfl | exact .inr (.inl rfl) | exact .inr (.inr rfl))) (je_var (i := 6) (by rfl) (by first | exact .inl rfl | exact .inr (.inl rfl) | exact .inr (.inr rfl))))) (jw_or (jt_oeq h ⟨T.isiO, T.isiK⟩ ⟨T.eqN⟩ (je_var (i := 7) (by rfl) (by first | exact .inl rfl | exact .inr (.inl rfl) | exact .inr (.inr rfl))) (je_var (i := 5) (by rfl) (by first | exact .inl rfl | exact .inr (.inl rfl) | exact .inr (.inr rfl)))) (jw_or1 (jt_oeq h ⟨T.isiO, T.isiK⟩ ⟨T.eqN⟩ (je_var (i := 7) (by rfl) (by first | exact .inl rfl | exact .inr (.inl rfl) | exact .inr (.inr rfl))) (je_bltT (call_tuple_ok h.toOk1.toOk0) (by rfl) T.m_tuple (by decide +kernel) (ja_cons (je_var (i := 5) (by rfl) (by first | exact .inl rfl | exact .inr (.inl rfl) | exact .inr (.inr rfl))) ja_nil))))))) (jss_cons (js_ret je_bl)
    jss_nil) jss_nil)
    (jss_cons (js_if (jt_w (jw_or (jt_not (jt_val h.toOk1.toOk0 (je_call (cal_fn h T.k__law_truth) (by rfl) T.g__law_truth (ja_cons (je_met h (je_var (i := 7) (by rfl) (by first | exact .inl rfl | exact .inr (.inl rfl) | exact .inr (.inr rfl))) (ja_cons (je_var (i := 8) (by rfl) (by first | exact .inl rfl | exact .inr (.inl rfl) | exact .inr (.inr rfl))) ja_nil)) (ja_cons (je_cmp h.toOk1.toOk0 (je_sl h.toOk1.toOk0 (je_var (i := 6) (by rfl) (by first | exact .inl rfl | exact .inr (.inl rfl) | exact .inr (.inr rfl))) jo_none (jo_some (je_bltB (call_len_ok h.toOk1.toOk0) (by rfl) T.m_len (by decide +kernel) (ja_cons (je_var (i := 5) (by rfl) (by first | exact .inl rfl | exact .inr (.inl rfl) | exact .inr (.inr rfl))) ja_nil)))) (je_var (i := 5) (by rfl) (by first | exact .inl rfl | exact .inr (.inl rfl) | exact .inr (.inr rfl)))) ja_nil))))) (jw_or1 (jt_not (jt_val h.toOk1.toOk0 (je_call (cal_fn h T.k__law_truth) (by rfl) T.g__law_truth (ja_cons (je_met h (je_var (i := 7) (by rfl) (by first | exact .inl rfl | exact .inr (.inl rfl) | exact .inr (.inr rfl))) (ja_cons (je_obin h ⟨T.isiO, T.isiK⟩ ⟨T.addL, T.addR⟩ (je_var (i := 7) (by rfl) (by first | exact .inl rfl | exact .inr (.inl rfl) | exact .inr (.inr rfl))) (je_tup ja_nil)) ja_nil)) (ja_cons je_bl ja_nil)))))))) (jss_cons (js_ret je_bl)
    jss_nil) jss_nil)
    (jss_cons (js_if (jt_cmp h.toOk1.toOk0 (je_met0 h (je_smet T.s_Row_shut (cal_fn h T.k_Row_shut) (by rfl) T.g_Row (ja_cons (je_ix h.toOk1.toOk0 (je_var (i := 4) (by rfl) (by first | exact .inl rfl | exact .inr (.inl rfl) | exact .inr (.inr rfl))) je_int) ja_nil))) (je_lst (ja_cons (je_tup (ja_cons je_str (ja_cons (je_ix h.toOk1.toOk0 (je_var (i := 4) (by rfl) (by first | exact .inl rfl | exact .inr (.inl rfl) | exact .inr (.inr rfl))) je_int) ja_nil))) (ja_cons (je_tup (ja_cons je_str (ja_cons (je_ix h.toOk1.toOk0 (je_var (i := 4) (by rfl) (by first | exact .inl rfl | exact .inr (.inl rfl) | exact .inr (.inr rfl))) je_int) ja_nil))) ja_nil)))) (jss_cons (js_ret je_bl)
    jss_nil) jss_nil)
    (jss_cons (js_set (i := 9) h.nd (by rfl) (by first | exact .inl rfl | exact .inr rfl) (.inl rfl) (je_lst (ja_cons (je_tup (ja_cons je_str (ja_cons (je_ix h.toOk1.toOk0 (je_var (i := 4) (by rfl) (by first | exact .inl rfl | exact .inr (.inl rfl) | exact .inr (.inr rfl))) je_int) ja_nil))) (ja_cons (je_tup (ja_cons je_str (ja_cons (je_ix h.toOk1.toOk0 (je_var (i := 4) (by rfl) (by first | exact .inl rfl | exact .inr (.inl rfl) | exact .inr (.inr rfl))) je_int) ja_nil))) (ja_cons (je_tup (ja_cons je_str (ja_cons (je_ix h.toOk1.toOk0 (je_var (i := 4) (by rfl) (by first | exact .inl rfl | exact .inr (.inl rfl) | exact .inr (.inr rfl))) je_int) ja_nil))) ja_nil)))))
    (jss_cons (js_if (jt_cmp h.toOk1.toOk0 (je_met0 h (je_smet T.s_Row_locked (cal_fn h T.k_Row_locked) (by rfl) T.g_Row (ja_cons (je_ix h.toOk1.toOk0 (je_var (i := 4) (by rfl) (by first | exact .inl rfl | exact .inr (.inl rfl) | exact .inr (.inr rfl))) je_int) (ja_cons (je_tup (ja_cons je_str (ja_cons (je_ix h.toOk1.toOk0 (je_var (i := 4) (by rfl) (by first | exact .inl rfl | exact .inr (.inl rfl) | exact .inr (.inr rfl))) je_int) ja_nil))) ja_nil)))) (je_var (i := 9) (by rfl) (by first | exact .inl rfl | exact .inr (.inl rfl) | exact .inr (.inr rfl)))) (jss_cons (js_ret je_bl)
    jss_nil) jss_nil)
    jss_nil))))))))))))))
    (jss_cons (js_ret je_bl)
    jss_nil))
end
abbrev x_InvalidNumber : Stmt := (C8.clsBody (top 3)).getD 0 (.Pass ⟨0, 0, 0, 0⟩)
abbrev x_InvalidStep : Stmt := (C8.clsBody (top 2)).getD 0 (.Pass ⟨0, 0, 0, 0⟩)
abbrev x_UnknownName : Stmt := (C8.clsBody (top 4)).getD 0 (.Pass ⟨0, 0, 0, 0⟩)
end LW
set_option Elab.async false
set_option linter.all false
set_option maxRecDepth 100000
set_option maxHeartbeats 8000000
namespace LW
open PySem L2 TD
theorem sc_is_whole : FnScope N_is_whole ["value", "least", "most"] (defScope s_is_whole) := ⟨rfl, rfl, rfl, by decide +kernel, rfl, by decide +kernel, by decide +kernel⟩
theorem sc_is_name : FnScope N_is_name ["value"] (defScope s_is_name) := ⟨rfl, rfl, rfl, by decide +kernel, rfl, by decide +kernel, by decide +kernel⟩
theorem sc_branches : FnScope N_branches ["item"] (defScope s_branches) := ⟨rfl, rfl, rfl, by decide +kernel, rfl, by decide +kernel, by decide +kernel⟩
theorem sc_is_wrong : FnScope N_is_wrong ["item", "held", "own", "behind"] (defScope s_is_wrong) := ⟨rfl, rfl, rfl, by decide +kernel, rfl, by decide +kernel, by decide +kernel⟩
theorem sc_wrongs : FnScope N_wrongs ["items", "held"] (defScope s_wrongs) := ⟨rfl, rfl, rfl, by decide +kernel, rfl, by decide +kernel, by decide +kernel⟩
theorem sc_lock_fault : FnScope N_lock_fault ["items"] (defScope s_lock_fault) := ⟨rfl, rfl, rfl, by decide +kernel, rfl, by decide +kernel, by decide +kernel⟩
theorem sc_is_step : FnScope N_is_step ["value"] (defScope s_is_step) := ⟨rfl, rfl, rfl, by decide +kernel, rfl, by decide +kernel, by decide +kernel⟩
theorem sc_require_steps : FnScope N_require_steps ["steps"] (defScope s_require_steps) := ⟨rfl, rfl, rfl, by decide +kernel, rfl, by decide +kernel, by decide +kernel⟩
theorem sc_Row___init__ : FnScope N_Row___init__ ["self", "steps"] (defScope s_Row___init__) := ⟨rfl, rfl, rfl, by decide +kernel, rfl, by decide +kernel, by decide +kernel⟩
theorem sc_Row_shut : FnScope N_Row_shut ["work"] (defScope s_Row_shut) := ⟨rfl, rfl, rfl, by decide +kernel, rfl, by decide +kernel, by decide +kernel⟩
theorem sc_Row_locked : FnScope N_Row_locked ["lock", "steps"] (defScope s_Row_locked) := ⟨rfl, rfl, rfl, by decide +kernel, rfl, by decide +kernel, by decide +kernel⟩
theorem sc_Row_parts_of : FnScope N_Row_parts_of ["self", "other"] (defScope s_Row_parts_of) := ⟨rfl, rfl, rfl, by decide +kernel, rfl, by decide +kernel, by decide +kernel⟩
theorem sc_Row___add__ : FnScope N_Row___add__ ["self", "other"] (defScope s_Row___add__) := ⟨rfl, rfl, rfl, by decide +kernel, rfl, by decide +kernel, by decide +kernel⟩
theorem sc_Row___radd__ : FnScope N_Row___radd__ ["self", "other"] (defScope s_Row___radd__) := ⟨rfl, rfl, rfl, by decide +kernel, rfl, by decide +kernel, by decide +kernel⟩
theorem sc_Row___contains__ : FnScope N_Row___contains__ ["self", "step"] (defScope s_Row___contains__) := ⟨rfl, rfl, rfl, by decide +kernel, rfl, by decide +kernel, by decide +kernel⟩
theorem sc_Row___getitem__ : FnScope N_Row___getitem__ ["self", "index"] (defScope s_Row___getitem__) := ⟨rfl, rfl, rfl, by decide +kernel, rfl, by decide +kernel, by decide +kernel⟩
theorem sc_Row___len__ : FnScope N_Row___len__ ["self"] (defScope s_Row___len__) := ⟨rfl, rfl, rfl, by decide +kernel, rfl, by decide +kernel, by decide +kernel⟩
theorem sc_Row___eq__ : FnScope N_Row___eq__ ["self", "other"] (defScope s_Row___eq__) := ⟨rfl, rfl, rfl, by decide +kernel, rfl, by decide +kernel, by decide +kernel⟩
theorem sc_Row_steps : FnScope N_Row_steps ["self"] (defScope s_Row_steps) := ⟨rfl, rfl, rfl, by decide +kernel, rfl, by decide +kernel, by decide +kernel⟩
theorem sc_Row_begins : FnScope N_Row_begins ["self", "other"] (defScope s_Row_begins) := ⟨rfl, rfl, rfl, by decide +kernel, rfl, by decide +kernel, by decide +kernel⟩
theorem sc_Row_without : FnScope N_Row_without ["self", "index"] (defScope s_Row_without) := ⟨rfl, rfl, rfl, by decide +kernel, rfl, by decide +kernel, by decide +kernel⟩
theorem sc_Row_held : FnScope N_Row_held ["self", "done"] (defScope s_Row_held) := ⟨rfl, rfl, rfl, by decide +kernel, rfl, by decide +kernel, by decide +kernel⟩
theorem sc_Row_names : FnScope N_Row_names ["self", "kind"] (defScope s_Row_names) := ⟨rfl, rfl, rfl, by decide +kernel, rfl, by decide +kernel, by decide +kernel⟩
theorem sc__law_numbers : FnScope N__law_numbers ["_law_cell", "_law_salt", "_law_sizes"] (defScope s__law_numbers) := ⟨rfl, rfl, rfl, by decide +kernel, rfl, by decide +kernel, by decide +kernel⟩
theorem sc__law_pool : FnScope N__law_pool ["_law_cell", "_law_salt", "_law_many"] (defScope s__law_pool) := ⟨rfl, rfl, rfl, by decide +kernel, rfl, by decide +kernel, by decide +kernel⟩
theorem sc__law_draw : FnScope N__law_draw ["_law_pool_here", "_law_many"] (defScope s__law_draw) := ⟨rfl, rfl, rfl, by decide +kernel, rfl, by decide +kernel, by decide +kernel⟩
theorem sc__law_pick : FnScope N__law_pick ["_law_pool_here", "_law_some"] (defScope s__law_pick) := ⟨rfl, rfl, rfl, by decide +kernel, rfl, by decide +kernel, by decide +kernel⟩
theorem sc__law_truth : FnScope N__law_truth ["_law_found", "_law_due"] (defScope s__law_truth) := ⟨rfl, rfl, rfl, by decide +kernel, rfl, by decide +kernel, by decide +kernel⟩
theorem sc__law_kind : FnScope N__law_kind ["_law_word"] (defScope s__law_kind) := ⟨rfl, rfl, rfl, by decide +kernel, rfl, by decide +kernel, by decide +kernel⟩
theorem sc__law_chosen : FnScope N__law_chosen ["_law_pool_here", "_law_names", "_law_most"] (defScope s__law_chosen) := ⟨rfl, rfl, rfl, by decide +kernel, rfl, by decide +kernel, by decide +kernel⟩
theorem sc__law_kept : FnScope N__law_kept ["_law_steps"] (defScope s__law_kept) := ⟨rfl, rfl, rfl, by decide +kernel, rfl, by decide +kernel, by decide +kernel⟩
theorem sc__law_fault : FnScope N__law_fault ["_law_steps"] (defScope s__law_fault) := ⟨rfl, rfl, rfl, by decide +kernel, rfl, by decide +kernel, by decide +kernel⟩
theorem sc__law_asked : FnScope N__law_asked ["_law_row", "_law_way", "_law_thing"] (defScope s__law_asked) := ⟨rfl, rfl, rfl, by decide +kernel, rfl, by decide +kernel, by decide +kernel⟩
theorem sc__law_tells : FnScope N__law_tells ["_law_row", "_law_steps"] (defScope s__law_tells) := ⟨rfl, rfl, rfl, by decide +kernel, rfl, by decide +kernel, by decide +kernel⟩
theorem sc__law_heldrows : FnScope N__law_heldrows ["_law_steps"] (defScope s__law_heldrows) := ⟨rfl, rfl, rfl, by decide +kernel, rfl, by decide +kernel, by decide +kernel⟩
theorem sc__law_among : FnScope N__law_among ["_law_row", "_law_steps", "_law_pool_here", "_law_names"] (defScope s__law_among) := ⟨rfl, rfl, rfl, by decide +kernel, rfl, by decide +kernel, by decide +kernel⟩
theorem sc__law_added : FnScope N__law_added ["_law_row", "_law_other", "_law_both"] (defScope s__law_added) := ⟨rfl, rfl, rfl, by decide +kernel, rfl, by decide +kernel, by decide +kernel⟩
theorem sc_law : FnScope N_law ["_law_script"] (defScope s_law) := ⟨rfl, rfl, rfl, by decide +kernel, rfl, by decide +kernel, by decide +kernel⟩
theorem all_mk {w : World} {K : PySem.W.Frag} {h : Heap} {mg : Str → Option Value} {fa : Addr} (X : K.In h) (Gn : h.Ns mainGlobals mg) (hfa : mg "law" = some (.ref fa)) {C4 : Addr} {C1 : Addr} {C2 : Addr} {C3 : Addr} {f0 : Addr} {od0 an0 : Option Addr} {sl0 : Array (Option Value)} {oc0 kV0 dc0 pm0 cd0 ct0 : Value} {f1 : Addr} {od1 an1 : Option Addr} {sl1 : Array (Option Value)} {oc1 kV1 dc1 pm1 cd1 ct1 : Value} {f2 : Addr} {od2 an2 : Option Addr} {sl2 : Array (Option Value)} {oc2 kV2 dc2 pm2 cd2 ct2 : Value} {f3 : Addr} {od3 an3 : Option Addr} {sl3 : Array (Option Value)} {oc3 kV3 dc3 pm3 cd3 ct3 : Value} {f4 : Addr} {od4 an4 : Option Addr} {sl4 : Array (Option Value)} {oc4 kV4 dc4 pm4 cd4 ct4 : Value} {f5 : Addr} {od5 an5 : Option Addr} {sl5 : Array (Option Value)} {oc5 kV5 dc5 pm5 cd5 ct5 : Value} {f6 : Addr} {od6 an6 : Option Addr} {sl6 : Array (Option Value)} {oc6 kV6 dc6 pm6 cd6 ct6 : Value} {f7 : Addr} {od7 an7 : Option Addr} {sl7 : Array (Option Value)} {oc7 kV7 dc7 pm7 cd7 ct7 : Value} {f9 : Addr} {od9 an9 : Option Addr} {sl9 : Array (Option Value)} {oc9 kV9 dc9 pm9 cd9 ct9 : Value} {f10 : Addr} {od10 an10 : Option Addr} {sl10 : Array (Option Value)} {oc10 kV10 dc10 pm10 cd10 ct10 : Value} {f11 : Addr} {od11 an11 : Option Addr} {sl11 : Array (Option Value)} {oc11 kV11 dc11 pm11 cd11 ct11 : Value} {f12 : Addr} {od12 an12 : Option Addr} {sl12 : Array (Option Value)} {oc12 kV12 dc12 pm12 cd12 ct12 : Value} {f13 : Addr} {od13 an13 : Option Addr} {sl13 : Array (Option Value)} {oc13 kV13 dc13 pm13 cd13 ct13 : Value} {f14 : Addr} {od14 an14 : Option Addr} {sl14 : Array (Option Value)} {oc14 kV14 dc14 pm14 cd14 ct14 : Value} {f15 : Addr} {od15 an15 : Option Addr} {sl15 : Array (Option Value)} {oc15 kV15 dc15 pm15 cd15 ct15 : Value} {f16 : Addr} {od16 an16 : Option Addr} {sl16 : Array (Option Value)} {oc16 kV16 dc16 pm16 cd16 ct16 : Value} {f18 : Addr} {od18 an18 : Option Addr} {sl18 : Array (Option Value)} {oc18 kV18 dc18 pm18 cd18 ct18 : Value} {f19 : Addr} {od19 an19 : Option Addr} {sl19 : Array (Option Value)} {oc19 kV19 dc19 pm19 cd19 ct19 : Value} {f20 : Addr} {od20 an20 : Option Addr} {sl20 : Array (Option Value)} {oc20 kV20 dc20 pm20 cd20 ct20 : Value} {f21 : Addr} {od21 an21 : Option Addr} {sl21 : Array (Option Value)} {oc21 kV21 dc21 pm21 cd21 ct21 : Value} {f22 : Addr} {od22 an22 : Option Addr} {sl22 : Array (Option Value)} {oc22 kV22 dc22 pm22 cd22 ct22 : Value} {f23 : Addr} {od23 an23 : Option Addr} {sl23 : Array (Option Value)} {oc23 kV23 dc23 pm23 cd23 ct23 : Value} {f24 : Addr} {od24 an24 : Option Addr} {sl24 : Array (Option Value)} {oc24 kV24 dc24 pm24 cd24 ct24 : Value} {f25 : Addr} {od25 an25 : Option Addr} {sl25 : Array (Option Value)} {oc25 kV25 dc25 pm25 cd25 ct25 : Value} {f26 : Addr} {od26 an26 : Option Addr} {sl26 : Array (Option Value)} {oc26 kV26 dc26 pm26 cd26 ct26 : Value} {f27 : Addr} {od27 an27 : Option Addr} {sl27 : Array (Option Value)} {oc27 kV27 dc27 pm27 cd27 ct27 : Value} {f28 : Addr} {od28 an28 : Option Addr} {sl28 : Array (Option Value)} {oc28 kV28 dc28 pm28 cd28 ct28 : Value} {f29 : Addr} {od29 an29 : Option Addr} {sl29 : Array (Option Value)} {oc29 kV29 dc29 pm29 cd29 ct29 : Value} {f32 : Addr} {od32 an32 : Option Addr} {sl32 : Array (Option Value)} {oc32 kV32 dc32 pm32 cd32 ct32 : Value} {f33 : Addr} {od33 an33 : Option Addr} {sl33 : Array (Option Value)} {oc33 kV33 dc33 pm33 cd33 ct33 : Value} {f34 : Addr} {od34 an34 : Option Addr} {sl34 : Array (Option Value)} {oc34 kV34 dc34 pm34 cd34 ct34 : Value} {f31 : Addr} {od31 an31 : Option Addr} {sl31 : Array (Option Value)} {oc31 kV31 dc31 pm31 cd31 ct31 : Value} {f35 : Addr} {od35 an35 : Option Addr} {sl35 : Array (Option Value)} {oc35 kV35 dc35 pm35 cd35 ct35 : Value} {f36 : Addr} {od36 an36 : Option Addr} {sl36 : Array (Option Value)} {oc36 kV36 dc36 pm36 cd36 ct36 : Value} {f37 : Addr} {od37 an37 : Option Addr} {sl37 : Array (Option Value)} {oc37 kV37 dc37 pm37 cd37 ct37 : Value} {f38 : Addr} {od38 an38 : Option Addr} {sl38 : Array (Option Value)} {oc38 kV38 dc38 pm38 cd38 ct38 : Value} {f39 : Addr} {od39 an39 : Option Addr} {sl39 : Array (Option Value)} {oc39 kV39 dc39 pm39 cd39 ct39 : Value} {f30 : Addr} {od30 an30 : Option Addr} {sl30 : Array (Option Value)} {oc30 kV30 dc30 pm30 cd30 ct30 : Value} {mc4 : Value} {pS10 : Addr} {rS10 : List Value} {pS11 : Addr} {rS11 : List Value} {xa_NoneType xr_NoneType : Option Value} {xa_bool xr_bool : Option Value} {xa_int xr_int : Option Value} {xa_str xr_str : Option Value} {xa_tuple xr_tuple : Option Value} {xa_list xr_list : Option Value} {xa_dict xr_dict : Option Value} {t_BAR : Tok} {t_CHOOSE : Tok} {t_GIVE : Tok} {t_HALT : Tok} {t_LETTERS : Tok} {t_MOST_SIGNS : Tok} {t_MOST_STEPS : Tok} {t_PIECE : Tok} {A_STEPS : Addr} {t_STEPS_0 t_STEPS_1 t_STEPS_2 t_STEPS_3 t_STEPS_4 t_STEPS_5 t_STEPS_6 t_STEPS_7 t_STEPS_8 t_STEPS_9 : Tok} {n_STEPS : Nat} {dd_STEPS : Option Addr} {sl_STEPS : Array (Option Value)} {t_TAKE : Tok} {t_TEST : Tok} {A_KINDS : Addr} {n_KINDS : Nat} {A_KINDS_0 : Addr} {h_KINDS_0 : Int} {u_KINDS_0 t_KINDS_0_0 t_KINDS_0_1 t_KINDS_0_2 t_KINDS_0_3 : Tok} {n_KINDS_0 : Nat} {dd_KINDS_0 : Option Addr} {sl_KINDS_0 : Array (Option Value)} {A_KINDS_1 : Addr} {h_KINDS_1 : Int} {u_KINDS_1 t_KINDS_1_0 t_KINDS_1_1 : Tok} {n_KINDS_1 : Nat} {dd_KINDS_1 : Option Addr} {sl_KINDS_1 : Array (Option Value)} {A_KINDS_2 : Addr} {h_KINDS_2 : Int} {u_KINDS_2 t_KINDS_2_0 t_KINDS_2_1 : Tok} {n_KINDS_2 : Nat} {dd_KINDS_2 : Option Addr} {sl_KINDS_2 : Array (Option Value)} {A_KINDS_3 : Addr} {h_KINDS_3 : Int} {u_KINDS_3 t_KINDS_3_0 t_KINDS_3_1 : Tok} {n_KINDS_3 : Nat} {dd_KINDS_3 : Option Addr} {sl_KINDS_3 : Array (Option Value)} {fI2 cda2 cc2 : Addr} {xoc2 xdc2 xpm2 xct2 xcl2 ycl2 : Value} {xod2 xan2 xdd2 ydd2 : Option Addr} {xsl2 xcs2 ycs2 : Array (Option Value)} {xvs2 : Array Value} {xfile2 : Str} {xtf2 : Tok} {fI1 cda1 cc1 : Addr} {xoc1 xdc1 xpm1 xct1 xcl1 ycl1 : Value} {xod1 xan1 xdd1 ydd1 : Option Addr} {xsl1 xcs1 ycs1 : Array (Option Value)} {xvs1 : Array Value} {xfile1 : Str} {xtf1 : Tok} {fI3 cda3 cc3 : Addr} {xoc3 xdc3 xpm3 xct3 xcl3 ycl3 : Value} {xod3 xan3 xdd3 ydd3 : Option Addr} {xsl3 xcs3 ycs3 : Array (Option Value)} {xvs3 : Array Value} {xfile3 : Str} {xtf3 : Tok}
    (aC4 : PySem.W.nsIn K mainGlobals "Row" = some (some (.ref C4)))
    (tc4 : PySem.W.typeIn K (.ref C4) = some mc4)
    (rr4 : PySem.W.readsIn K C4 mc4 = true)
    (ga4 : PySem.W.specialIn K (.ref C4) "__getattribute__" = some (some (.builtin "type.__getattribute__")))
    (a0 : PySem.W.nsIn K mainGlobals "is_whole" = some (some (.ref f0)))
    (l0 : K.lookup f0 = some ⟨oc0, od0, .func (PySem.W.fnOf "is_whole" "is_whole" (defArgs s_is_whole) (defBody s_is_whole) (defScope s_is_whole) .none kV0 dc0 pm0 an0 cd0 ct0), sl0⟩)
    (c0 : PySem.W.codeIn K cd0 "is_whole" = true)
    (k0 : PySem.W.keepIn K (.ref f0) = true)
    (a1 : PySem.W.nsIn K mainGlobals "is_name" = some (some (.ref f1)))
    (l1 : K.lookup f1 = some ⟨oc1, od1, .func (PySem.W.fnOf "is_name" "is_name" (defArgs s_is_name) (defBody s_is_name) (defScope s_is_name) .none kV1 dc1 pm1 an1 cd1 ct1), sl1⟩)
    (c1 : PySem.W.codeIn K cd1 "is_name" = true)
    (k1 : PySem.W.keepIn K (.ref f1) = true)
    (a2 : PySem.W.nsIn K mainGlobals "branches" = some (some (.ref f2)))
    (l2 : K.lookup f2 = some ⟨oc2, od2, .func (PySem.W.fnOf "branches" "branches" (defArgs s_branches) (defBody s_branches) (defScope s_branches) .none kV2 dc2 pm2 an2 cd2 ct2), sl2⟩)
    (c2 : PySem.W.codeIn K cd2 "branches" = true)
    (k2 : PySem.W.keepIn K (.ref f2) = true)
    (a3 : PySem.W.nsIn K mainGlobals "is_wrong" = some (some (.ref f3)))
    (l3 : K.lookup f3 = some ⟨oc3, od3, .func (PySem.W.fnOf "is_wrong" "is_wrong" (defArgs s_is_wrong) (defBody s_is_wrong) (defScope s_is_wrong) .none kV3 dc3 pm3 an3 cd3 ct3), sl3⟩)
    (c3 : PySem.W.codeIn K cd3 "is_wrong" = true)
    (k3 : PySem.W.keepIn K (.ref f3) = true)
    (a4 : PySem.W.nsIn K mainGlobals "wrongs" = some (some (.ref f4)))
    (l4 : K.lookup f4 = some ⟨oc4, od4, .func (PySem.W.fnOf "wrongs" "wrongs" (defArgs s_wrongs) (defBody s_wrongs) (defScope s_wrongs) .none kV4 dc4 pm4 an4 cd4 ct4), sl4⟩)
    (c4 : PySem.W.codeIn K cd4 "wrongs" = true)
    (k4 : PySem.W.keepIn K (.ref f4) = true)
    (a5 : PySem.W.nsIn K mainGlobals "lock_fault" = some (some (.ref f5)))
    (l5 : K.lookup f5 = some ⟨oc5, od5, .func (PySem.W.fnOf "lock_fault" "lock_fault" (defArgs s_lock_fault) (defBody s_lock_fault) (defScope s_lock_fault) .none kV5 dc5 pm5 an5 cd5 ct5), sl5⟩)
    (c5 : PySem.W.codeIn K cd5 "lock_fault" = true)
    (k5 : PySem.W.keepIn K (.ref f5) = true)
    (a6 : PySem.W.nsIn K mainGlobals "is_step" = some (some (.ref f6)))
    (l6 : K.lookup f6 = some ⟨oc6, od6, .func (PySem.W.fnOf "is_step" "is_step" (defArgs s_is_step) (defBody s_is_step) (defScope s_is_step) .none kV6 dc6 pm6 an6 cd6 ct6), sl6⟩)
    (c6 : PySem.W.codeIn K cd6 "is_step" = true)
    (k6 : PySem.W.keepIn K (.ref f6) = true)
    (a7 : PySem.W.nsIn K mainGlobals "require_steps" = some (some (.ref f7)))
    (l7 : K.lookup f7 = some ⟨oc7, od7, .func (PySem.W.fnOf "require_steps" "require_steps" (defArgs s_require_steps) (defBody s_require_steps) (defScope s_require_steps) .none kV7 dc7 pm7 an7 cd7 ct7), sl7⟩)
    (c7 : PySem.W.codeIn K cd7 "require_steps" = true)
    (k7 : PySem.W.keepIn K (.ref f7) = true)
    (a9 : PySem.W.findIn K (.ref C4) "__init__" = some (some (.ref f9)))
    (i9 : PySem.W.isFn K (.ref f9) = true)
    (l9 : K.lookup f9 = some ⟨oc9, od9, .func (PySem.W.fnOf "__init__" "Row.__init__" (defArgs s_Row___init__) (defBody s_Row___init__) (defScope s_Row___init__) .none kV9 dc9 pm9 an9 cd9 ct9), sl9⟩)
    (c9 : PySem.W.codeIn K cd9 "Row.__init__" = true)
    (k9 : PySem.W.keepIn K (.ref f9) = true)
    (fc10 : PySem.W.findCls K (.ref C4) mc4 "shut" = some (.get (.builtin "staticmethod.__get__") (.ref pS10) .none (.ref C4)))
    (rs10 : PySem.W.recIn K pS10 "staticmethod" = some (.ref f10 :: rS10))
    (l10 : K.lookup f10 = some ⟨oc10, od10, .func (PySem.W.fnOf "shut" "Row.shut" (defArgs s_Row_shut) (defBody s_Row_shut) (defScope s_Row_shut) .none kV10 dc10 pm10 an10 cd10 ct10), sl10⟩)
    (c10 : PySem.W.codeIn K cd10 "Row.shut" = true)
    (k10 : PySem.W.keepIn K (.ref f10) = true)
    (fc11 : PySem.W.findCls K (.ref C4) mc4 "locked" = some (.get (.builtin "staticmethod.__get__") (.ref pS11) .none (.ref C4)))
    (rs11 : PySem.W.recIn K pS11 "staticmethod" = some (.ref f11 :: rS11))
    (l11 : K.lookup f11 = some ⟨oc11, od11, .func (PySem.W.fnOf "locked" "Row.locked" (defArgs s_Row_locked) (defBody s_Row_locked) (defScope s_Row_locked) .none kV11 dc11 pm11 an11 cd11 ct11), sl11⟩)
    (c11 : PySem.W.codeIn K cd11 "Row.locked" = true)
    (k11 : PySem.W.keepIn K (.ref f11) = true)
    (a12 : PySem.W.findIn K (.ref C4) "parts_of" = some (some (.ref f12)))
    (i12 : PySem.W.isFn K (.ref f12) = true)
    (l12 : K.lookup f12 = some ⟨oc12, od12, .func (PySem.W.fnOf "parts_of" "Row.parts_of" (defArgs s_Row_parts_of) (defBody s_Row_parts_of) (defScope s_Row_parts_of) .none kV12 dc12 pm12 an12 cd12 ct12), sl12⟩)
    (c12 : PySem.W.codeIn K cd12 "Row.parts_of" = true)
    (k12 : PySem.W.keepIn K (.ref f12) = true)
    (a13 : PySem.W.findIn K (.ref C4) "__add__" = some (some (.ref f13)))
    (i13 : PySem.W.isFn K (.ref f13) = true)
    (l13 : K.lookup f13 = some ⟨oc13, od13, .func (PySem.W.fnOf "__add__" "Row.__add__" (defArgs s_Row___add__) (defBody s_Row___add__) (defScope s_Row___add__) .none kV13 dc13 pm13 an13 cd13 ct13), sl13⟩)
    (c13 : PySem.W.codeIn K cd13 "Row.__add__" = true)
    (k13 : PySem.W.keepIn K (.ref f13) = true)
    (a14 : PySem.W.findIn K (.ref C4) "__radd__" = some (some (.ref f14)))
    (i14 : PySem.W.isFn K (.ref f14) = true)
    (l14 : K.lookup f14 = some ⟨oc14, od14, .func (PySem.W.fnOf "__radd__" "Row.__radd__" (defArgs s_Row___radd__) (defBody s_Row___radd__) (defScope s_Row___radd__) .none kV14 dc14 pm14 an14 cd14 ct14), sl14⟩)
    (c14 : PySem.W.codeIn K cd14 "Row.__radd__" = true)
    (k14 : PySem.W.keepIn K (.ref f14) = true)
    (a15 : PySem.W.findIn K (.ref C4) "__contains__" = some (some (.ref f15)))
    (i15 : PySem.W.isFn K (.ref f15) = true)
    (l15 : K.lookup f15 = some ⟨oc15, od15, .func (PySem.W.fnOf "__contains__" "Row.__contains__" (defArgs s_Row___contains__) (defBody s_Row___contains__) (defScope s_Row___contains__) .none kV15 dc15 pm15 an15 cd15 ct15), sl15⟩)
    (c15 : PySem.W.codeIn K cd15 "Row.__contains__" = true)
    (k15 : PySem.W.keepIn K (.ref f15) = true)
    (a16 : PySem.W.findIn K (.ref C4) "__getitem__" = some (some (.ref f16)))
    (i16 : PySem.W.isFn K (.ref f16) = true)
    (gi16 : PySem.W.fnIn K f16 = true)
    (l16 : K.lookup f16 = some ⟨oc16, od16, .func (PySem.W.fnOf "__getitem__" "Row.__getitem__" (defArgs s_Row___getitem__) (defBody s_Row___getitem__) (defScope s_Row___getitem__) .none kV16 dc16 pm16 an16 cd16 ct16), sl16⟩)
    (c16 : PySem.W.codeIn K cd16 "Row.__getitem__" = true)
    (k16 : PySem.W.keepIn K (.ref f16) = true)
    (a18 : PySem.W.findIn K (.ref C4) "__len__" = some (some (.ref f18)))
    (i18 : PySem.W.isFn K (.ref f18) = true)
    (l18 : K.lookup f18 = some ⟨oc18, od18, .func (PySem.W.fnOf "__len__" "Row.__len__" (defArgs s_Row___len__) (defBody s_Row___len__) (defScope s_Row___len__) .none kV18 dc18 pm18 an18 cd18 ct18), sl18⟩)
    (c18 : PySem.W.codeIn K cd18 "Row.__len__" = true)
    (k18 : PySem.W.keepIn K (.ref f18) = true)
    (a19 : PySem.W.findIn K (.ref C4) "__eq__" = some (some (.ref f19)))
    (i19 : PySem.W.isFn K (.ref f19) = true)
    (l19 : K.lookup f19 = some ⟨oc19, od19, .func (PySem.W.fnOf "__eq__" "Row.__eq__" (defArgs s_Row___eq__) (defBody s_Row___eq__) (defScope s_Row___eq__) .none kV19 dc19 pm19 an19 cd19 ct19), sl19⟩)
    (c19 : PySem.W.codeIn K cd19 "Row.__eq__" = true)
    (k19 : PySem.W.keepIn K (.ref f19) = true)
    (a20 : PySem.W.findIn K (.ref C4) "steps" = some (some (.ref f20)))
    (i20 : PySem.W.isFn K (.ref f20) = true)
    (l20 : K.lookup f20 = some ⟨oc20, od20, .func (PySem.W.fnOf "steps" "Row.steps" (defArgs s_Row_steps) (defBody s_Row_steps) (defScope s_Row_steps) .none kV20 dc20 pm20 an20 cd20 ct20), sl20⟩)
    (c20 : PySem.W.codeIn K cd20 "Row.steps" = true)
    (k20 : PySem.W.keepIn K (.ref f20) = true)
    (a21 : PySem.W.findIn K (.ref C4) "begins" = some (some (.ref f21)))
    (i21 : PySem.W.isFn K (.ref f21) = true)
    (l21 : K.lookup f21 = some ⟨oc21, od21, .func (PySem.W.fnOf "begins" "Row.begins" (defArgs s_Row_begins) (defBody s_Row_begins) (defScope s_Row_begins) .none kV21 dc21 pm21 an21 cd21 ct21), sl21⟩)
    (c21 : PySem.W.codeIn K cd21 "Row.begins" = true)
    (k21 : PySem.W.keepIn K (.ref f21) = true)
    (a22 : PySem.W.findIn K (.ref C4) "without" = some (some (.ref f22)))
    (i22 : PySem.W.isFn K (.ref f22) = true)
    (l22 : K.lookup f22 = some ⟨oc22, od22, .func (PySem.W.fnOf "without" "Row.without" (defArgs s_Row_without) (defBody s_Row_without) (defScope s_Row_without) .none kV22 dc22 pm22 an22 cd22 ct22), sl22⟩)
    (c22 : PySem.W.codeIn K cd22 "Row.without" = true)
    (k22 : PySem.W.keepIn K (.ref f22) = true)
    (a23 : PySem.W.findIn K (.ref C4) "held" = some (some (.ref f23)))
    (i23 : PySem.W.isFn K (.ref f23) = true)
    (l23 : K.lookup f23 = some ⟨oc23, od23, .func (PySem.W.fnOf "held" "Row.held" (defArgs s_Row_held) (defBody s_Row_held) (defScope s_Row_held) .none kV23 dc23 pm23 an23 cd23 ct23), sl23⟩)
    (c23 : PySem.W.codeIn K cd23 "Row.held" = true)
    (k23 : PySem.W.keepIn K (.ref f23) = true)
    (a24 : PySem.W.findIn K (.ref C4) "names" = some (some (.ref f24)))
    (i24 : PySem.W.isFn K (.ref f24) = true)
    (l24 : K.lookup f24 = some ⟨oc24, od24, .func (PySem.W.fnOf "names" "Row.names" (defArgs s_Row_names) (defBody s_Row_names) (defScope s_Row_names) .none kV24 dc24 pm24 an24 cd24 ct24), sl24⟩)
    (c24 : PySem.W.codeIn K cd24 "Row.names" = true)
    (k24 : PySem.W.keepIn K (.ref f24) = true)
    (a25 : PySem.W.nsIn K mainGlobals "_law_numbers" = some (some (.ref f25)))
    (l25 : K.lookup f25 = some ⟨oc25, od25, .func (PySem.W.fnOf "_law_numbers" "_law_numbers" (defArgs s__law_numbers) (defBody s__law_numbers) (defScope s__law_numbers) .none kV25 dc25 pm25 an25 cd25 ct25), sl25⟩)
    (c25 : PySem.W.codeIn K cd25 "_law_numbers" = true)
    (k25 : PySem.W.keepIn K (.ref f25) = true)
    (a26 : PySem.W.nsIn K mainGlobals "_law_pool" = some (some (.ref f26)))
    (l26 : K.lookup f26 = some ⟨oc26, od26, .func (PySem.W.fnOf "_law_pool" "_law_pool" (defArgs s__law_pool) (defBody s__law_pool) (defScope s__law_pool) .none kV26 dc26 pm26 an26 cd26 ct26), sl26⟩)
    (c26 : PySem.W.codeIn K cd26 "_law_pool" = true)
    (k26 : PySem.W.keepIn K (.ref f26) = true)
    (a27 : PySem.W.nsIn K mainGlobals "_law_draw" = some (some (.ref f27)))
    (l27 : K.lookup f27 = some ⟨oc27, od27, .func (PySem.W.fnOf "_law_draw" "_law_draw" (defArgs s__law_draw) (defBody s__law_draw) (defScope s__law_draw) .none kV27 dc27 pm27 an27 cd27 ct27), sl27⟩)
    (c27 : PySem.W.codeIn K cd27 "_law_draw" = true)
    (k27 : PySem.W.keepIn K (.ref f27) = true)
    (a28 : PySem.W.nsIn K mainGlobals "_law_pick" = some (some (.ref f28)))
    (l28 : K.lookup f28 = some ⟨oc28, od28, .func (PySem.W.fnOf "_law_pick" "_law_pick" (defArgs s__law_pick) (defBody s__law_pick) (defScope s__law_pick) .none kV28 dc28 pm28 an28 cd28 ct28), sl28⟩)
    (c28 : PySem.W.codeIn K cd28 "_law_pick" = true)
    (k28 : PySem.W.keepIn K (.ref f28) = true)
    (a29 : PySem.W.nsIn K mainGlobals "_law_truth" = some (some (.ref f29)))
    (l29 : K.lookup f29 = some ⟨oc29, od29, .func (PySem.W.fnOf "_law_truth" "_law_truth" (defArgs s__law_truth) (defBody s__law_truth) (defScope s__law_truth) .none kV29 dc29 pm29 an29 cd29 ct29), sl29⟩)
    (c29 : PySem.W.codeIn K cd29 "_law_truth" = true)
    (k29 : PySem.W.keepIn K (.ref f29) = true)
    (a32 : PySem.W.nsIn K mainGlobals "_law_kind" = some (some (.ref f32)))
    (l32 : K.lookup f32 = some ⟨oc32, od32, .func (PySem.W.fnOf "_law_kind" "_law_kind" (defArgs s__law_kind) (defBody s__law_kind) (defScope s__law_kind) .none kV32 dc32 pm32 an32 cd32 ct32), sl32⟩)
    (c32 : PySem.W.codeIn K cd32 "_law_kind" = true)
    (k32 : PySem.W.keepIn K (.ref f32) = true)
    (a33 : PySem.W.nsIn K mainGlobals "_law_chosen" = some (some (.ref f33)))
    (l33 : K.lookup f33 = some ⟨oc33, od33, .func (PySem.W.fnOf "_law_chosen" "_law_chosen" (defArgs s__law_chosen) (defBody s__law_chosen) (defScope s__law_chosen) .none kV33 dc33 pm33 an33 cd33 ct33), sl33⟩)
    (c33 : PySem.W.codeIn K cd33 "_law_chosen" = true)
    (k33 : PySem.W.keepIn K (.ref f33) = true)
    (a34 : PySem.W.nsIn K mainGlobals "_law_kept" = some (some (.ref f34)))
    (l34 : K.lookup f34 = some ⟨oc34, od34, .func (PySem.W.fnOf "_law_kept" "_law_kept" (defArgs s__law_kept) (defBody s__law_kept) (defScope s__law_kept) .none kV34 dc34 pm34 an34 cd34 ct34), sl34⟩)
    (c34 : PySem.W.codeIn K cd34 "_law_kept" = true)
    (k34 : PySem.W.keepIn K (.ref f34) = true)
    (a31 : PySem.W.nsIn K mainGlobals "_law_fault" = some (some (.ref f31)))
    (l31 : K.lookup f31 = some ⟨oc31, od31, .func (PySem.W.fnOf "_law_fault" "_law_fault" (defArgs s__law_fault) (defBody s__law_fault) (defScope s__law_fault) .none kV31 dc31 pm31 an31 cd31 ct31), sl31⟩)
    (c31 : PySem.W.codeIn K cd31 "_law_fault" = true)
    (k31 : PySem.W.keepIn K (.ref f31) = true)
    (a35 : PySem.W.nsIn K mainGlobals "_law_asked" = some (some (.ref f35)))
    (l35 : K.lookup f35 = some ⟨oc35, od35, .func (PySem.W.fnOf "_law_asked" "_law_asked" (defArgs s__law_asked) (defBody s__law_asked) (defScope s__law_asked) .none kV35 dc35 pm35 an35 cd35 ct35), sl35⟩)
    (c35 : PySem.W.codeIn K cd35 "_law_asked" = true)
    (k35 : PySem.W.keepIn K (.ref f35) = true)
    (a36 : PySem.W.nsIn K mainGlobals "_law_tells" = some (some (.ref f36)))
    (l36 : K.lookup f36 = some ⟨oc36, od36, .func (PySem.W.fnOf "_law_tells" "_law_tells" (defArgs s__law_tells) (defBody s__law_tells) (defScope s__law_tells) .none kV36 dc36 pm36 an36 cd36 ct36), sl36⟩)
    (c36 : PySem.W.codeIn K cd36 "_law_tells" = true)
    (k36 : PySem.W.keepIn K (.ref f36) = true)
    (a37 : PySem.W.nsIn K mainGlobals "_law_heldrows" = some (some (.ref f37)))
    (l37 : K.lookup f37 = some ⟨oc37, od37, .func (PySem.W.fnOf "_law_heldrows" "_law_heldrows" (defArgs s__law_heldrows) (defBody s__law_heldrows) (defScope s__law_heldrows) .none kV37 dc37 pm37 an37 cd37 ct37), sl37⟩)
    (c37 : PySem.W.codeIn K cd37 "_law_heldrows" = true)
    (k37 : PySem.W.keepIn K (.ref f37) = true)
    (a38 : PySem.W.nsIn K mainGlobals "_law_among" = some (some (.ref f38)))
    (l38 : K.lookup f38 = some ⟨oc38, od38, .func (PySem.W.fnOf "_law_among" "_law_among" (defArgs s__law_among) (defBody s__law_among) (defScope s__law_among) .none kV38 dc38 pm38 an38 cd38 ct38), sl38⟩)
    (c38 : PySem.W.codeIn K cd38 "_law_among" = true)
    (k38 : PySem.W.keepIn K (.ref f38) = true)
    (a39 : PySem.W.nsIn K mainGlobals "_law_added" = some (some (.ref f39)))
    (l39 : K.lookup f39 = some ⟨oc39, od39, .func (PySem.W.fnOf "_law_added" "_law_added" (defArgs s__law_added) (defBody s__law_added) (defScope s__law_added) .none kV39 dc39 pm39 an39 cd39 ct39), sl39⟩)
    (c39 : PySem.W.codeIn K cd39 "_law_added" = true)
    (k39 : PySem.W.keepIn K (.ref f39) = true)
    (a30 : PySem.W.nsIn K mainGlobals "law" = some (some (.ref f30)))
    (l30 : K.lookup f30 = some ⟨oc30, od30, .func (PySem.W.fnOf "law" "law" (defArgs s_law) (defBody s_law) (defScope s_law) .none kV30 dc30 pm30 an30 cd30 ct30), sl30⟩)
    (c30 : PySem.W.codeIn K cd30 "law" = true)
    (k30 : PySem.W.keepIn K (.ref f30) = true)
    (pg4 : PySem.W.plainGet K C4 Str.empty = true)
    (hd4 : PySem.W.hasDictIn K C4 = true)
    (po4 : PySem.W.plainOver K C4 = true)
    (sa4 : PySem.W.findIn K (.ref C4) "__setattr__" = some (some (.builtin "object.__setattr__")))
    (mk4 : PySem.W.makesIn K C4 = true)
    (kc4 : PySem.W.keepIn K (.ref C4) = true)
    (cc4 : PySem.W.findIn K (.ref C4) "__class__" = some (some (.builtin "object.__class__")))
    (mr4 : PySem.W.mroIn K C4 (.type "object") = some true)
    (sf4 : PySem.W.selfFirst K C4 = true)
    (nf4_0 : PySem.W.findIn K (.ref C4) "own_steps" = some none)
    (su4_NoneType : PySem.W.subIn K (.type "NoneType") (.ref C4) = some false)
    (kd4_NoneType : PySem.W.kitOne K (.type "NoneType") (.ref C4) = some false)
    (su4_bool : PySem.W.subIn K (.type "bool") (.ref C4) = some false)
    (kd4_bool : PySem.W.kitOne K (.type "bool") (.ref C4) = some false)
    (kt4_bool : PySem.W.kitOne K (.ref C4) (.type "bool") = some false)
    (su4_int : PySem.W.subIn K (.type "int") (.ref C4) = some false)
    (kd4_int : PySem.W.kitOne K (.type "int") (.ref C4) = some false)
    (kt4_int : PySem.W.kitOne K (.ref C4) (.type "int") = some false)
    (su4_str : PySem.W.subIn K (.type "str") (.ref C4) = some false)
    (kd4_str : PySem.W.kitOne K (.type "str") (.ref C4) = some false)
    (kt4_str : PySem.W.kitOne K (.ref C4) (.type "str") = some false)
    (su4_tuple : PySem.W.subIn K (.type "tuple") (.ref C4) = some false)
    (kd4_tuple : PySem.W.kitOne K (.type "tuple") (.ref C4) = some false)
    (kt4_tuple : PySem.W.kitOne K (.ref C4) (.type "tuple") = some false)
    (su4_list : PySem.W.subIn K (.type "list") (.ref C4) = some false)
    (kd4_list : PySem.W.kitOne K (.type "list") (.ref C4) = some false)
    (kt4_list : PySem.W.kitOne K (.ref C4) (.type "list") = some false)
    (su4_dict : PySem.W.subIn K (.type "dict") (.ref C4) = some false)
    (kd4_dict : PySem.W.kitOne K (.type "dict") (.ref C4) = some false)
    (kt4_dict : PySem.W.kitOne K (.ref C4) (.type "dict") = some false)
    (kk4 : PySem.W.kitOne K (.ref C4) (.ref C4) = some true)
    (oget : PySem.W.specialIn K (.builtin "object.__class__") "__get__" = some (some (.builtin "getset_descriptor.__get__")))
    (otk : PySem.W.takesIn K (.builtin "object.__class__") = some true)
    (fa_NoneType : PySem.W.findIn K (.type "NoneType") "__add__" = some xa_NoneType)
    (fr_NoneType : PySem.W.findIn K (.type "NoneType") "__radd__" = some xr_NoneType)
    (fa_bool : PySem.W.findIn K (.type "bool") "__add__" = some xa_bool)
    (fr_bool : PySem.W.findIn K (.type "bool") "__radd__" = some xr_bool)
    (fa_int : PySem.W.findIn K (.type "int") "__add__" = some xa_int)
    (fr_int : PySem.W.findIn K (.type "int") "__radd__" = some xr_int)
    (fa_str : PySem.W.findIn K (.type "str") "__add__" = some xa_str)
    (fr_str : PySem.W.findIn K (.type "str") "__radd__" = some xr_str)
    (fa_tuple : PySem.W.findIn K (.type "tuple") "__add__" = some xa_tuple)
    (fr_tuple : PySem.W.findIn K (.type "tuple") "__radd__" = some xr_tuple)
    (fa_list : PySem.W.findIn K (.type "list") "__add__" = some xa_list)
    (fr_list : PySem.W.findIn K (.type "list") "__radd__" = some xr_list)
    (fa_dict : PySem.W.findIn K (.type "dict") "__add__" = some xa_dict)
    (fr_dict : PySem.W.findIn K (.type "dict") "__radd__" = some xr_dict)
    (fno : ((xa_tuple.isSome && !isSeqSlot xa_tuple) || (xr_tuple.isSome && !isSeqSlot xr_tuple)) = false)
    (kb_NoneType_bool : PySem.W.kitOne K (.type "NoneType") (.type "bool") = some false)
    (kb_NoneType_int : PySem.W.kitOne K (.type "NoneType") (.type "int") = some false)
    (kb_NoneType_str : PySem.W.kitOne K (.type "NoneType") (.type "str") = some false)
    (kb_NoneType_tuple : PySem.W.kitOne K (.type "NoneType") (.type "tuple") = some false)
    (kb_NoneType_list : PySem.W.kitOne K (.type "NoneType") (.type "list") = some false)
    (kb_NoneType_dict : PySem.W.kitOne K (.type "NoneType") (.type "dict") = some false)
    (kb_bool_bool : PySem.W.kitOne K (.type "bool") (.type "bool") = some true)
    (kb_bool_int : PySem.W.kitOne K (.type "bool") (.type "int") = some true)
    (kb_bool_str : PySem.W.kitOne K (.type "bool") (.type "str") = some false)
    (kb_bool_tuple : PySem.W.kitOne K (.type "bool") (.type "tuple") = some false)
    (kb_bool_list : PySem.W.kitOne K (.type "bool") (.type "list") = some false)
    (kb_bool_dict : PySem.W.kitOne K (.type "bool") (.type "dict") = some false)
    (kb_int_bool : PySem.W.kitOne K (.type "int") (.type "bool") = some false)
    (kb_int_int : PySem.W.kitOne K (.type "int") (.type "int") = some true)
    (kb_int_str : PySem.W.kitOne K (.type "int") (.type "str") = some false)
    (kb_int_tuple : PySem.W.kitOne K (.type "int") (.type "tuple") = some false)
    (kb_int_list : PySem.W.kitOne K (.type "int") (.type "list") = some false)
    (kb_int_dict : PySem.W.kitOne K (.type "int") (.type "dict") = some false)
    (kb_str_bool : PySem.W.kitOne K (.type "str") (.type "bool") = some false)
    (kb_str_int : PySem.W.kitOne K (.type "str") (.type "int") = some false)
    (kb_str_str : PySem.W.kitOne K (.type "str") (.type "str") = some true)
    (kb_str_tuple : PySem.W.kitOne K (.type "str") (.type "tuple") = some false)
    (kb_str_list : PySem.W.kitOne K (.type "str") (.type "list") = some false)
    (kb_str_dict : PySem.W.kitOne K (.type "str") (.type "dict") = some false)
    (kb_tuple_bool : PySem.W.kitOne K (.type "tuple") (.type "bool") = some false)
    (kb_tuple_int : PySem.W.kitOne K (.type "tuple") (.type "int") = some false)
    (kb_tuple_str : PySem.W.kitOne K (.type "tuple") (.type "str") = some false)
    (kb_tuple_tuple : PySem.W.kitOne K (.type "tuple") (.type "tuple") = some true)
    (kb_tuple_list : PySem.W.kitOne K (.type "tuple") (.type "list") = some false)
    (kb_tuple_dict : PySem.W.kitOne K (.type "tuple") (.type "dict") = some false)
    (kb_list_bool : PySem.W.kitOne K (.type "list") (.type "bool") = some false)
    (kb_list_int : PySem.W.kitOne K (.type "list") (.type "int") = some false)
    (kb_list_str : PySem.W.kitOne K (.type "list") (.type "str") = some false)
    (kb_list_tuple : PySem.W.kitOne K (.type "list") (.type "tuple") = some false)
    (kb_list_list : PySem.W.kitOne K (.type "list") (.type "list") = some true)
    (kb_list_dict : PySem.W.kitOne K (.type "list") (.type "dict") = some false)
    (kb_dict_bool : PySem.W.kitOne K (.type "dict") (.type "bool") = some false)
    (kb_dict_int : PySem.W.kitOne K (.type "dict") (.type "int") = some false)
    (kb_dict_str : PySem.W.kitOne K (.type "dict") (.type "str") = some false)
    (kb_dict_tuple : PySem.W.kitOne K (.type "dict") (.type "tuple") = some false)
    (kb_dict_list : PySem.W.kitOne K (.type "dict") (.type "list") = some false)
    (kb_dict_dict : PySem.W.kitOne K (.type "dict") (.type "dict") = some true)
    (z_all : PySem.W.nsIn K mainGlobals "all" = some none)
    (z_bool : PySem.W.nsIn K mainGlobals "bool" = some none)
    (z_enumerate : PySem.W.nsIn K mainGlobals "enumerate" = some none)
    (z_int : PySem.W.nsIn K mainGlobals "int" = some none)
    (z_isinstance : PySem.W.nsIn K mainGlobals "isinstance" = some none)
    (z_len : PySem.W.nsIn K mainGlobals "len" = some none)
    (z_list : PySem.W.nsIn K mainGlobals "list" = some none)
    (z_max : PySem.W.nsIn K mainGlobals "max" = some none)
    (z_range : PySem.W.nsIn K mainGlobals "range" = some none)
    (z_repr : PySem.W.nsIn K mainGlobals "repr" = some none)
    (z_set : PySem.W.nsIn K mainGlobals "set" = some none)
    (z_sorted : PySem.W.nsIn K mainGlobals "sorted" = some none)
    (z_str : PySem.W.nsIn K mainGlobals "str" = some none)
    (z_super : PySem.W.nsIn K mainGlobals "super" = some none)
    (z_tuple : PySem.W.nsIn K mainGlobals "tuple" = some none)
    (q_BAR : PySem.W.nsIn K mainGlobals "BAR" = some (some (.str "bar" t_BAR)))
    (q_CHOOSE : PySem.W.nsIn K mainGlobals "CHOOSE" = some (some (.str "choose" t_CHOOSE)))
    (q_GIVE : PySem.W.nsIn K mainGlobals "GIVE" = some (some (.str "give" t_GIVE)))
    (q_HALT : PySem.W.nsIn K mainGlobals "HALT" = some (some (.str "halt" t_HALT)))
    (q_LETTERS : PySem.W.nsIn K mainGlobals "LETTERS" = some (some (.str "abcdefghijklmnopqrstuvwxyz" t_LETTERS)))
    (q_MOST_SIGNS : PySem.W.nsIn K mainGlobals "MOST_SIGNS" = some (some (.int 8 t_MOST_SIGNS)))
    (q_MOST_STEPS : PySem.W.nsIn K mainGlobals "MOST_STEPS" = some (some (.int 8 t_MOST_STEPS)))
    (q_PIECE : PySem.W.nsIn K mainGlobals "PIECE" = some (some (.str "piece" t_PIECE)))
    (q_STEPS : PySem.W.nsIn K mainGlobals "STEPS" = some (some (.ref A_STEPS)))
    (ql_STEPS : K.lookup A_STEPS = some ⟨.type "tuple", dd_STEPS, .seq #[.str "cancel" t_STEPS_0, .str "bar" t_STEPS_1, .str "halt" t_STEPS_2, .str "settle" t_STEPS_3, .str "close" t_STEPS_4, .str "drain" t_STEPS_5, .str "set" t_STEPS_6, .str "clear" t_STEPS_7, .str "take" t_STEPS_8, .str "give" t_STEPS_9] n_STEPS, sl_STEPS⟩)
    (q_TAKE : PySem.W.nsIn K mainGlobals "TAKE" = some (some (.str "take" t_TAKE)))
    (q_TEST : PySem.W.nsIn K mainGlobals "TEST" = some (some (.str "test" t_TEST)))
    (q_KINDS : PySem.W.nsIn K mainGlobals "KINDS" = some (some (.ref A_KINDS)))
    (ql_KINDS : K.lookup A_KINDS = some ⟨.type "dict", none, .dict #[⟨h_KINDS_0, .str "works" u_KINDS_0, .ref A_KINDS_0⟩, ⟨h_KINDS_1, .str "gates" u_KINDS_1, .ref A_KINDS_1⟩, ⟨h_KINDS_2, .str "flags" u_KINDS_2, .ref A_KINDS_2⟩, ⟨h_KINDS_3, .str "locks" u_KINDS_3, .ref A_KINDS_3⟩] n_KINDS, #[]⟩)
    (qs_KINDS : (A_KINDS == sysModules) = false)
    (qh_KINDS_0 : h_KINDS_0 = PyData.keyHash w.params "works")
    (qv_KINDS_0 : K.lookup A_KINDS_0 = some ⟨.type "tuple", dd_KINDS_0, .seq #[.str "cancel" t_KINDS_0_0, .str "bar" t_KINDS_0_1, .str "halt" t_KINDS_0_2, .str "settle" t_KINDS_0_3] n_KINDS_0, sl_KINDS_0⟩)
    (qh_KINDS_1 : h_KINDS_1 = PyData.keyHash w.params "gates")
    (qv_KINDS_1 : K.lookup A_KINDS_1 = some ⟨.type "tuple", dd_KINDS_1, .seq #[.str "close" t_KINDS_1_0, .str "drain" t_KINDS_1_1] n_KINDS_1, sl_KINDS_1⟩)
    (qh_KINDS_2 : h_KINDS_2 = PyData.keyHash w.params "flags")
    (qv_KINDS_2 : K.lookup A_KINDS_2 = some ⟨.type "tuple", dd_KINDS_2, .seq #[.str "set" t_KINDS_2_0, .str "clear" t_KINDS_2_1] n_KINDS_2, sl_KINDS_2⟩)
    (qh_KINDS_3 : h_KINDS_3 = PyData.keyHash w.params "locks")
    (qv_KINDS_3 : K.lookup A_KINDS_3 = some ⟨.type "tuple", dd_KINDS_3, .seq #[.str "take" t_KINDS_3_0, .str "give" t_KINDS_3_1] n_KINDS_3, sl_KINDS_3⟩)
    (aC2 : PySem.W.nsIn K mainGlobals "InvalidNumber" = some (some (.ref C2)))
    (xi2 : PySem.W.excInitIn K C2 [.type "ValueError", .type "Exception", .type "BaseException", .type "object"] "ValueError.__new__" = true)
    (xo2 : PySem.W.excOver K C2 [.type "ValueError", .type "Exception", .type "BaseException", .type "object"] = true)
    (xsa2 : PySem.W.findIn K (.ref C2) "__setattr__" = some (some (.builtin "object.__setattr__")))
    (xii2 : PySem.W.findIn K (.ref C2) "__init__" = some (some (.ref fI2)))
    (xti2 : PySem.W.typeIn K (.ref fI2) = some (.type "function"))
    (xkp2 : PySem.W.keepIn K (.ref C2) = true)
    (xex2 : PySem.W.subIn K (.ref C2) (.type "BaseException") = some true)
    (xty2 : PySem.W.typeIn K (.ref C2) = some (.type "type"))
    (xhd2 : PySem.W.hasDictIn K C2 = true)
    (xnf2_0 : PySem.W.findIn K (.ref C2) "value" = some none)
    (xB2 : PySem.W.subIn K (.ref C2) (.type "ValueError") = some true)
    (xsp2 : PySem.W.ks_superIn K C2 C2 "__init__" = some (some (.builtin "ValueError.__init__")))
    (xsu2 : PySem.W.mroIn K C2 (.ref C2) = some true)
    (xl2 : K.lookup fI2 = some ⟨xoc2, xod2, .func (PySem.W.ksFn "__init__" "InvalidNumber.__init__" (defArgs x_InvalidNumber) (defBody x_InvalidNumber) (defScope x_InvalidNumber) .none .none xdc2 xpm2 xan2 (.ref cda2) xct2 cc2), xsl2⟩)
    (xc2 : PySem.W.codeIn K (.ref cda2) "InvalidNumber.__init__" = true)
    (xcl2_ : K.lookup cda2 = some ⟨xcl2, xdd2, .fields xvs2, xcs2⟩)
    (xv2 : xvs2[2]? = some (.str xfile2 xtf2))
    (xf2 : ((PySem.Challenge.pw_takendown_k10_whole_rows.main.file : Str) == xfile2) = true)
    (xce2 : K.lookup cc2 = some ⟨ycl2, ydd2, .cell (some (.ref C2)), ycs2⟩)
    (xga2 : PySem.W.findIn K (.ref C2) "__getattribute__" = some (some (.builtin "BaseException.__getattribute__")))
    (xgg2 : PySem.W.findIn K (.ref C2) "__getattr__" = some none)
    (xhi2 : PySem.W.hasDictIn K C2 = true)
    (aC1 : PySem.W.nsIn K mainGlobals "InvalidStep" = some (some (.ref C1)))
    (xi1 : PySem.W.excInitIn K C1 [.type "Exception", .type "BaseException", .type "object"] "Exception.__new__" = true)
    (xo1 : PySem.W.excOver K C1 [.type "Exception", .type "BaseException", .type "object"] = true)
    (xsa1 : PySem.W.findIn K (.ref C1) "__setattr__" = some (some (.builtin "object.__setattr__")))
    (xii1 : PySem.W.findIn K (.ref C1) "__init__" = some (some (.ref fI1)))
    (xti1 : PySem.W.typeIn K (.ref fI1) = some (.type "function"))
    (xkp1 : PySem.W.keepIn K (.ref C1) = true)
    (xex1 : PySem.W.subIn K (.ref C1) (.type "BaseException") = some true)
    (xty1 : PySem.W.typeIn K (.ref C1) = some (.type "type"))
    (xhd1 : PySem.W.hasDictIn K C1 = true)
    (xnf1_0 : PySem.W.findIn K (.ref C1) "index" = some none)
    (xB1 : PySem.W.subIn K (.ref C1) (.type "Exception") = some true)
    (xsp1 : PySem.W.ks_superIn K C1 C1 "__init__" = some (some (.builtin "Exception.__init__")))
    (xsu1 : PySem.W.mroIn K C1 (.ref C1) = some true)
    (xl1 : K.lookup fI1 = some ⟨xoc1, xod1, .func (PySem.W.ksFn "__init__" "InvalidStep.__init__" (defArgs x_InvalidStep) (defBody x_InvalidStep) (defScope x_InvalidStep) .none .none xdc1 xpm1 xan1 (.ref cda1) xct1 cc1), xsl1⟩)
    (xc1 : PySem.W.codeIn K (.ref cda1) "InvalidStep.__init__" = true)
    (xcl1_ : K.lookup cda1 = some ⟨xcl1, xdd1, .fields xvs1, xcs1⟩)
    (xv1 : xvs1[2]? = some (.str xfile1 xtf1))
    (xf1 : ((PySem.Challenge.pw_takendown_k10_whole_rows.main.file : Str) == xfile1) = true)
    (xce1 : K.lookup cc1 = some ⟨ycl1, ydd1, .cell (some (.ref C1)), ycs1⟩)
    (xga1 : PySem.W.findIn K (.ref C1) "__getattribute__" = some (some (.builtin "BaseException.__getattribute__")))
    (xgg1 : PySem.W.findIn K (.ref C1) "__getattr__" = some none)
    (xhi1 : PySem.W.hasDictIn K C1 = true)
    (aC3 : PySem.W.nsIn K mainGlobals "UnknownName" = some (some (.ref C3)))
    (xi3 : PySem.W.excInitIn K C3 [.type "LookupError", .type "Exception", .type "BaseException", .type "object"] "LookupError.__new__" = true)
    (xo3 : PySem.W.excOver K C3 [.type "LookupError", .type "Exception", .type "BaseException", .type "object"] = true)
    (xsa3 : PySem.W.findIn K (.ref C3) "__setattr__" = some (some (.builtin "object.__setattr__")))
    (xii3 : PySem.W.findIn K (.ref C3) "__init__" = some (some (.ref fI3)))
    (xti3 : PySem.W.typeIn K (.ref fI3) = some (.type "function"))
    (xkp3 : PySem.W.keepIn K (.ref C3) = true)
    (xex3 : PySem.W.subIn K (.ref C3) (.type "BaseException") = some true)
    (xty3 : PySem.W.typeIn K (.ref C3) = some (.type "type"))
    (xhd3 : PySem.W.hasDictIn K C3 = true)
    (xnf3_0 : PySem.W.findIn K (.ref C3) "name" = some none)
    (xB3 : PySem.W.subIn K (.ref C3) (.type "LookupError") = some true)
    (xsp3 : PySem.W.ks_superIn K C3 C3 "__init__" = some (some (.builtin "LookupError.__init__")))
    (xsu3 : PySem.W.mroIn K C3 (.ref C3) = some true)
    (xl3 : K.lookup fI3 = some ⟨xoc3, xod3, .func (PySem.W.ksFn "__init__" "UnknownName.__init__" (defArgs x_UnknownName) (defBody x_UnknownName) (defScope x_UnknownName) .none .none xdc3 xpm3 xan3 (.ref cda3) xct3 cc3), xsl3⟩)
    (xc3 : PySem.W.codeIn K (.ref cda3) "UnknownName.__init__" = true)
    (xcl3_ : K.lookup cda3 = some ⟨xcl3, xdd3, .fields xvs3, xcs3⟩)
    (xv3 : xvs3[2]? = some (.str xfile3 xtf3))
    (xf3 : ((PySem.Challenge.pw_takendown_k10_whole_rows.main.file : Str) == xfile3) = true)
    (xce3 : K.lookup cc3 = some ⟨ycl3, ydd3, .cell (some (.ref C3)), ycs3⟩)
    (xga3 : PySem.W.findIn K (.ref C3) "__getattribute__" = some (some (.builtin "BaseException.__getattribute__")))
    (xgg3 : PySem.W.findIn K (.ref C3) "__getattr__" = some none)
    (xhi3 : PySem.W.hasDictIn K C3 = true)
    (opq : PySem.W.nsIn K cStatics "thirdparty.any" = some none)
    (xm2_2 : PySem.W.exmOne K (.ref C2) (.ref C2) = some true)
    (xm1_2 : PySem.W.exmOne K (.ref C1) (.ref C2) = some false)
    (xm3_2 : PySem.W.exmOne K (.ref C3) (.ref C2) = some false)
    (xm2_1 : PySem.W.exmOne K (.ref C2) (.ref C1) = some false)
    (xm1_1 : PySem.W.exmOne K (.ref C1) (.ref C1) = some true)
    (xm3_1 : PySem.W.exmOne K (.ref C3) (.ref C1) = some false)
    (xm2_3 : PySem.W.exmOne K (.ref C2) (.ref C3) = some false)
    (xm1_3 : PySem.W.exmOne K (.ref C1) (.ref C3) = some false)
    (xm3_3 : PySem.W.exmOne K (.ref C3) (.ref C3) = some true) :
    ∃ G : GG, G.fa 30 = fa ∧ ∀ base : Heap, K.In base → base.Ns mainGlobals mg → FnG PySem.Challenge.pw_takendown_k10_whole_rows w K mg base 60 (G.fa 30) (spF G prg 60 30) := by
  have e : f30 = fa := by
    have e := hfa.symm.trans (PySem.W.mg_of X Gn a30)
    injection e with e
    injection e with e
    exact e.symm
  have T : Txt PySem.Challenge.pw_takendown_k10_whole_rows w K mg (⟨K, fun i => [0, C1, C2, C3, C4].getD i 0, fun i => [f0, f1, f2, f3, f4, f5, f6, f7, 0, f9, f10, f11, f12, f13, f14, f15, f16, 0, f18, f19, f20, f21, f22, f23, f24, f25, f26, f27, f28, f29, f30, f31, f32, f33, f34, f35, f36, f37, f38, f39].getD i 0⟩ : GG) :=
    { k := rfl
      fld := fun c f hcf => by
        simp only [fldT, Bool.or_eq_true, Bool.and_eq_true, decide_eq_true_eq] at hcf
        obtain ⟨rfl, rfl⟩ := hcf
        exact ⟨⟨pg4, hd4, po4, sa4⟩, nf4_0⟩
      met := fun c m f hm => by
        have hm := met_mem hm
        simp only [metL, List.mem_cons, List.not_mem_nil, or_false, Prod.mk.injEq] at hm
        rcases hm with ⟨rfl, rfl, rfl⟩ | ⟨rfl, rfl, rfl⟩ | ⟨rfl, rfl, rfl⟩ | ⟨rfl, rfl, rfl⟩ | ⟨rfl, rfl, rfl⟩ | ⟨rfl, rfl, rfl⟩ | ⟨rfl, rfl, rfl⟩ | ⟨rfl, rfl, rfl⟩ | ⟨rfl, rfl, rfl⟩ | ⟨rfl, rfl, rfl⟩ | ⟨rfl, rfl, rfl⟩ | ⟨rfl, rfl, rfl⟩ | ⟨rfl, rfl, rfl⟩
        · exact ⟨⟨pg4, hd4, po4, sa4⟩, ⟨a9, i9, k9⟩⟩
        · exact ⟨⟨pg4, hd4, po4, sa4⟩, ⟨a12, i12, k12⟩⟩
        · exact ⟨⟨pg4, hd4, po4, sa4⟩, ⟨a13, i13, k13⟩⟩
        · exact ⟨⟨pg4, hd4, po4, sa4⟩, ⟨a14, i14, k14⟩⟩
        · exact ⟨⟨pg4, hd4, po4, sa4⟩, ⟨a15, i15, k15⟩⟩
        · exact ⟨⟨pg4, hd4, po4, sa4⟩, ⟨a16, i16, k16⟩⟩
        · exact ⟨⟨pg4, hd4, po4, sa4⟩, ⟨a18, i18, k18⟩⟩
        · exact ⟨⟨pg4, hd4, po4, sa4⟩, ⟨a19, i19, k19⟩⟩
        · exact ⟨⟨pg4, hd4, po4, sa4⟩, ⟨a20, i20, k20⟩⟩
        · exact ⟨⟨pg4, hd4, po4, sa4⟩, ⟨a21, i21, k21⟩⟩
        · exact ⟨⟨pg4, hd4, po4, sa4⟩, ⟨a22, i22, k22⟩⟩
        · exact ⟨⟨pg4, hd4, po4, sa4⟩, ⟨a23, i23, k23⟩⟩
        · exact ⟨⟨pg4, hd4, po4, sa4⟩, ⟨a24, i24, k24⟩⟩
      cls := fun c C hC => by
        unfold cdT at hC
        split at hC
        · cases hC
          exact ⟨mk4, a9, i9, kc4⟩
        · cases hC
      c_BAR := ⟨.str "bar", _, PySem.W.mg_of X Gn q_BAR, ⟨_, rfl⟩, fun _ => .str _⟩
      c_CHOOSE := ⟨.str "choose", _, PySem.W.mg_of X Gn q_CHOOSE, ⟨_, rfl⟩, fun _ => .str _⟩
      c_GIVE := ⟨.str "give", _, PySem.W.mg_of X Gn q_GIVE, ⟨_, rfl⟩, fun _ => .str _⟩
      c_HALT := ⟨.str "halt", _, PySem.W.mg_of X Gn q_HALT, ⟨_, rfl⟩, fun _ => .str _⟩
      c_LETTERS := ⟨.str "abcdefghijklmnopqrstuvwxyz", _, PySem.W.mg_of X Gn q_LETTERS, ⟨_, rfl⟩, fun _ => .str _⟩
      c_MOST_SIGNS := ⟨.int 8, _, PySem.W.mg_of X Gn q_MOST_SIGNS, ⟨_, rfl⟩, fun _ => .int _⟩
      c_MOST_STEPS := ⟨.int 8, _, PySem.W.mg_of X Gn q_MOST_STEPS, ⟨_, rfl⟩, fun _ => .int _⟩
      c_PIECE := ⟨.str "piece", _, PySem.W.mg_of X Gn q_PIECE, ⟨_, rfl⟩, fun _ => .str _⟩
      c_STEPS := ⟨.ref A_STEPS, _, PySem.W.mg_of X Gn q_STEPS, rfl, fun _ => .tup (vs := [.str "cancel", .str "bar", .str "halt", .str "settle", .str "close", .str "drain", .str "set", .str "clear", .str "take", .str "give"]) (.inr ⟨_, _, _, ql_STEPS, rfl, rfl, (by show 10 ≤ sizeLine; decide), (.cons ⟨_, rfl⟩ (.cons ⟨_, rfl⟩ (.cons ⟨_, rfl⟩ (.cons ⟨_, rfl⟩ (.cons ⟨_, rfl⟩ (.cons ⟨_, rfl⟩ (.cons ⟨_, rfl⟩ (.cons ⟨_, rfl⟩ (.cons ⟨_, rfl⟩ (.cons ⟨_, rfl⟩ .nil))))))))))⟩) (.cons (.str _) (.cons (.str _) (.cons (.str _) (.cons (.str _) (.cons (.str _) (.cons (.str _) (.cons (.str _) (.cons (.str _) (.cons (.str _) (.cons (.str _) .nil))))))))))⟩
      c_TAKE := ⟨.str "take", _, PySem.W.mg_of X Gn q_TAKE, ⟨_, rfl⟩, fun _ => .str _⟩
      c_TEST := ⟨.str "test", _, PySem.W.mg_of X Gn q_TEST, ⟨_, rfl⟩, fun _ => .str _⟩
      m_all := PySem.W.mg_none_of X Gn z_all
      m_bool := PySem.W.mg_none_of X Gn z_bool
      m_enumerate := PySem.W.mg_none_of X Gn z_enumerate
      m_int := PySem.W.mg_none_of X Gn z_int
      m_isinstance := PySem.W.mg_none_of X Gn z_isinstance
      m_len := PySem.W.mg_none_of X Gn z_len
      m_list := PySem.W.mg_none_of X Gn z_list
      m_max := PySem.W.mg_none_of X Gn z_max
      m_range := PySem.W.mg_none_of X Gn z_range
      m_repr := PySem.W.mg_none_of X Gn z_repr
      m_set := PySem.W.mg_none_of X Gn z_set
      m_sorted := PySem.W.mg_none_of X Gn z_sorted
      m_str := PySem.W.mg_none_of X Gn z_str
      m_super := PySem.W.mg_none_of X Gn z_super
      m_tuple := PySem.W.mg_none_of X Gn z_tuple
      kd_KINDS := by
        refine ⟨A_KINDS, _, _, ⟨ql_KINDS, ⟨⟨_, _, rfl, qh_KINDS_0⟩, ⟨⟨_, _, rfl, qh_KINDS_1⟩, ⟨⟨_, _, rfl, qh_KINDS_2⟩, ⟨⟨_, _, rfl, qh_KINDS_3⟩, trivial⟩⟩⟩⟩, qs_KINDS⟩, PySem.W.mg_of X Gn q_KINDS, fun z => ?_⟩
        have ens := ns_of [⟨"works", .ref A_KINDS_0, h_KINDS_0, u_KINDS_0⟩, ⟨"gates", .ref A_KINDS_1, h_KINDS_1, u_KINDS_1⟩, ⟨"flags", .ref A_KINDS_2, h_KINDS_2, u_KINDS_2⟩, ⟨"locks", .ref A_KINDS_3, h_KINDS_3, u_KINDS_3⟩] ql_KINDS z
        simp only [List.find?_cons, List.find?_nil, List.lookup_cons, List.lookup_nil, strb_comm z] at ens ⊢
        cases c0 : (("works" : Str) == z) with
        | true =>
          simp only [c0] at ens ⊢
          exact ⟨fun hl => (by cases hl), fun dd hl => ⟨_, .ref A_KINDS_0, ens, rfl, fun _ => by
            cases hl
            exact .tup (vs := [.str "cancel", .str "bar", .str "halt", .str "settle"]) (.inr ⟨_, _, _, qv_KINDS_0, rfl, rfl, (by show 4 ≤ sizeLine; decide), (.cons ⟨_, rfl⟩ (.cons ⟨_, rfl⟩ (.cons ⟨_, rfl⟩ (.cons ⟨_, rfl⟩ .nil))))⟩) (.cons (.str _) (.cons (.str _) (.cons (.str _) (.cons (.str _) .nil))))⟩⟩
        | false =>
          cases c1 : (("gates" : Str) == z) with
          | true =>
            simp only [c0, c1] at ens ⊢
            exact ⟨fun hl => (by cases hl), fun dd hl => ⟨_, .ref A_KINDS_1, ens, rfl, fun _ => by
              cases hl
              exact .tup (vs := [.str "close", .str "drain"]) (.inr ⟨_, _, _, qv_KINDS_1, rfl, rfl, (by show 2 ≤ sizeLine; decide), (.cons ⟨_, rfl⟩ (.cons ⟨_, rfl⟩ .nil))⟩) (.cons (.str _) (.cons (.str _) .nil))⟩⟩
          | false =>
            cases c2 : (("flags" : Str) == z) with
            | true =>
              simp only [c0, c1, c2] at ens ⊢
              exact ⟨fun hl => (by cases hl), fun dd hl => ⟨_, .ref A_KINDS_2, ens, rfl, fun _ => by
                cases hl
                exact .tup (vs := [.str "set", .str "clear"]) (.inr ⟨_, _, _, qv_KINDS_2, rfl, rfl, (by show 2 ≤ sizeLine; decide), (.cons ⟨_, rfl⟩ (.cons ⟨_, rfl⟩ .nil))⟩) (.cons (.str _) (.cons (.str _) .nil))⟩⟩
            | false =>
              cases c3 : (("locks" : Str) == z) with
              | true =>
                simp only [c0, c1, c2, c3] at ens ⊢
                exact ⟨fun hl => (by cases hl), fun dd hl => ⟨_, .ref A_KINDS_3, ens, rfl, fun _ => by
                  cases hl
                  exact .tup (vs := [.str "take", .str "give"]) (.inr ⟨_, _, _, qv_KINDS_3, rfl, rfl, (by show 2 ≤ sizeLine; decide), (.cons ⟨_, rfl⟩ (.cons ⟨_, rfl⟩ .nil))⟩) (.cons (.str _) (.cons (.str _) .nil))⟩⟩
              | false =>
                simp only [c0, c1, c2, c3] at ens ⊢
                exact ⟨fun _ => ens, fun dd hl => (by cases hl)⟩
      s_Row_locked := ⟨⟨mc4, pS11, rS11, rr4, fc11, rs11⟩, ga4⟩
      k_Row_locked := k11
      s_Row_shut := ⟨⟨mc4, pS10, rS10, rr4, fc10, rs10⟩, ga4⟩
      k_Row_shut := k10
      g_InvalidNumber := PySem.W.mg_of X Gn aC2
      g_InvalidStep := PySem.W.mg_of X Gn aC1
      g_Row := PySem.W.mg_of X Gn aC4
      g_UnknownName := PySem.W.mg_of X Gn aC3
      g__law_added := PySem.W.mg_of X Gn a39
      k__law_added := k39
      g__law_among := PySem.W.mg_of X Gn a38
      k__law_among := k38
      g__law_asked := PySem.W.mg_of X Gn a35
      k__law_asked := k35
      g__law_chosen := PySem.W.mg_of X Gn a33
      k__law_chosen := k33
      g__law_draw := PySem.W.mg_of X Gn a27
      k__law_draw := k27
      g__law_fault := PySem.W.mg_of X Gn a31
      k__law_fault := k31
      g__law_heldrows := PySem.W.mg_of X Gn a37
      k__law_heldrows := k37
      g__law_kept := PySem.W.mg_of X Gn a34
      k__law_kept := k34
      g__law_kind := PySem.W.mg_of X Gn a32
      k__law_kind := k32
      g__law_numbers := PySem.W.mg_of X Gn a25
      k__law_numbers := k25
      g__law_pick := PySem.W.mg_of X Gn a28
      k__law_pick := k28
      g__law_pool := PySem.W.mg_of X Gn a26
      k__law_pool := k26
      g__law_tells := PySem.W.mg_of X Gn a36
      k__law_tells := k36
      g__law_truth := PySem.W.mg_of X Gn a29
      k__law_truth := k29
      g_branches := PySem.W.mg_of X Gn a2
      k_branches := k2
      g_is_name := PySem.W.mg_of X Gn a1
      k_is_name := k1
      g_is_step := PySem.W.mg_of X Gn a6
      k_is_step := k6
      g_is_whole := PySem.W.mg_of X Gn a0
      k_is_whole := k0
      g_is_wrong := PySem.W.mg_of X Gn a3
      k_is_wrong := k3
      g_lock_fault := PySem.W.mg_of X Gn a5
      k_lock_fault := k5
      g_require_steps := PySem.W.mg_of X Gn a7
      k_require_steps := k7
      g_wrongs := PySem.W.mg_of X Gn a4
      k_wrongs := k4
      isiO := fun c a dx fs H hH hc => by
        unfold isbT at hc
        split at hc
        · exact .base (.ins hH ⟨pg4, hd4, po4, sa4⟩ cc4 oget otk mr4)
        · cases hc
      isiK := fun t d h1 h2 => by
        cases t with
        | int =>
          cases d with
          | non => exact kb_NoneType_int
          | bl b => exact kb_bool_int
          | int i => exact kb_int_int
          | str x => exact kb_str_int
          | tup xs => exact kb_tuple_int
          | lst xs => exact kb_list_int
          | dic kvs => exact kb_dict_int
          | obj c fs =>
            have hc := h1 c fs rfl
            unfold isbT at hc
            split at hc
            · exact kt4_int
            · cases hc
        | bool =>
          cases d with
          | non => exact kb_NoneType_bool
          | bl b => exact kb_bool_bool
          | int i => exact kb_int_bool
          | str x => exact kb_str_bool
          | tup xs => exact kb_tuple_bool
          | lst xs => exact kb_list_bool
          | dic kvs => exact kb_dict_bool
          | obj c fs =>
            have hc := h1 c fs rfl
            unfold isbT at hc
            split at hc
            · exact kt4_bool
            · cases hc
        | str =>
          cases d with
          | non => exact kb_NoneType_str
          | bl b => exact kb_bool_str
          | int i => exact kb_int_str
          | str x => exact kb_str_str
          | tup xs => exact kb_tuple_str
          | lst xs => exact kb_list_str
          | dic kvs => exact kb_dict_str
          | obj c fs =>
            have hc := h1 c fs rfl
            unfold isbT at hc
            split at hc
            · exact kt4_str
            · cases hc
        | tuple =>
          cases d with
          | non => exact kb_NoneType_tuple
          | bl b => exact kb_bool_tuple
          | int i => exact kb_int_tuple
          | str x => exact kb_str_tuple
          | tup xs => exact kb_tuple_tuple
          | lst xs => exact kb_list_tuple
          | dic kvs => exact kb_dict_tuple
          | obj c fs =>
            have hc := h1 c fs rfl
            unfold isbT at hc
            split at hc
            · exact kt4_tuple
            · cases hc
        | list =>
          cases d with
          | non => exact kb_NoneType_list
          | bl b => exact kb_bool_list
          | int i => exact kb_int_list
          | str x => exact kb_str_list
          | tup xs => exact kb_tuple_list
          | lst xs => exact kb_list_list
          | dic kvs => exact kb_dict_list
          | obj c fs =>
            have hc := h1 c fs rfl
            unfold isbT at hc
            split at hc
            · exact kt4_list
            · cases hc
        | dict =>
          cases d with
          | non => exact kb_NoneType_dict
          | bl b => exact kb_bool_dict
          | int i => exact kb_int_dict
          | str x => exact kb_str_dict
          | tup xs => exact kb_tuple_dict
          | lst xs => exact kb_list_dict
          | dic kvs => exact kb_dict_dict
          | obj c fs =>
            have hc := h1 c fs rfl
            unfold isbT at hc
            split at hc
            · exact kt4_dict
            · cases hc
        | cls c2 =>
          have hc2 := h2 c2 rfl
          unfold isbT at hc2
          split at hc2
          · cases d with
            | non => exact kd4_NoneType
            | bl b => exact kd4_bool
            | int i => exact kd4_int
            | str x => exact kd4_str
            | tup xs => exact kd4_tuple
            | lst xs => exact kd4_list
            | dic kvs => exact kd4_dict
            | obj c fs =>
              have hc := h1 c fs rfl
              unfold isbT at hc
              split at hc
              · exact kk4
              · cases hc
          · cases hc2
      eqN := fun c f hm => by
        have hm := met_mem hm
        simp only [metL, List.mem_cons, List.not_mem_nil, or_false, Prod.mk.injEq] at hm
        rcases hm with ⟨rfl, e, rfl⟩ | ⟨rfl, e, rfl⟩ | ⟨rfl, e, rfl⟩ | ⟨rfl, e, rfl⟩ | ⟨rfl, e, rfl⟩ | ⟨rfl, e, rfl⟩ | ⟨rfl, e, rfl⟩ | ⟨rfl, e, rfl⟩ | ⟨rfl, e, rfl⟩ | ⟨rfl, e, rfl⟩ | ⟨rfl, e, rfl⟩ | ⟨rfl, e, rfl⟩ | ⟨rfl, e, rfl⟩
        · exact absurd e (by decide)
        · exact absurd e (by decide)
        · exact absurd e (by decide)
        · exact absurd e (by decide)
        · exact absurd e (by decide)
        · exact absurd e (by decide)
        · exact absurd e (by decide)
        · intro d hd
          cases d with
          | non => exact show PySem.W.notFirst K C4 (.type "NoneType") = true by simp [PySem.W.notFirst, su4_NoneType]
          | bl b => exact show PySem.W.notFirst K C4 (.type "bool") = true by simp [PySem.W.notFirst, su4_bool]
          | int i => exact show PySem.W.notFirst K C4 (.type "int") = true by simp [PySem.W.notFirst, su4_int]
          | str x => exact show PySem.W.notFirst K C4 (.type "str") = true by simp [PySem.W.notFirst, su4_str]
          | tup xs => exact show PySem.W.notFirst K C4 (.type "tuple") = true by simp [PySem.W.notFirst, su4_tuple]
          | lst xs => exact show PySem.W.notFirst K C4 (.type "list") = true by simp [PySem.W.notFirst, su4_list]
          | dic kvs => exact show PySem.W.notFirst K C4 (.type "dict") = true by simp [PySem.W.notFirst, su4_dict]
          | obj c fs => exact (hd c fs rfl).elim
        · exact absurd e (by decide)
        · exact absurd e (by decide)
        · exact absurd e (by decide)
        · exact absurd e (by decide)
        · exact absurd e (by decide)
      giN := fun c f hm => by
        have hm := met_mem hm
        simp only [metL, List.mem_cons, List.not_mem_nil, or_false, Prod.mk.injEq] at hm
        rcases hm with ⟨rfl, e, rfl⟩ | ⟨rfl, e, rfl⟩ | ⟨rfl, e, rfl⟩ | ⟨rfl, e, rfl⟩ | ⟨rfl, e, rfl⟩ | ⟨rfl, e, rfl⟩ | ⟨rfl, e, rfl⟩ | ⟨rfl, e, rfl⟩ | ⟨rfl, e, rfl⟩ | ⟨rfl, e, rfl⟩ | ⟨rfl, e, rfl⟩ | ⟨rfl, e, rfl⟩ | ⟨rfl, e, rfl⟩
        · exact absurd e (by decide)
        · exact absurd e (by decide)
        · exact absurd e (by decide)
        · exact absurd e (by decide)
        · exact absurd e (by decide)
        · exact gi16
        · exact absurd e (by decide)
        · exact absurd e (by decide)
        · exact absurd e (by decide)
        · exact absurd e (by decide)
        · exact absurd e (by decide)
        · exact absurd e (by decide)
        · exact absurd e (by decide)
      addL := fun c f hm => by
        have hm := met_mem hm
        simp only [metL, List.mem_cons, List.not_mem_nil, or_false, Prod.mk.injEq] at hm
        rcases hm with ⟨rfl, e, rfl⟩ | ⟨rfl, e, rfl⟩ | ⟨rfl, e, rfl⟩ | ⟨rfl, e, rfl⟩ | ⟨rfl, e, rfl⟩ | ⟨rfl, e, rfl⟩ | ⟨rfl, e, rfl⟩ | ⟨rfl, e, rfl⟩ | ⟨rfl, e, rfl⟩ | ⟨rfl, e, rfl⟩ | ⟨rfl, e, rfl⟩ | ⟨rfl, e, rfl⟩ | ⟨rfl, e, rfl⟩
        · exact absurd e (by decide)
        · exact absurd e (by decide)
        · exact ⟨sf4, ⟨_, a14, .inr ⟨_, rfl⟩⟩, fun d hd => by
            cases d with
            | non => exact ⟨"NoneType", _, _, rfl, fa_NoneType, fr_NoneType, su4_NoneType⟩
            | bl b => exact ⟨"bool", _, _, rfl, fa_bool, fr_bool, su4_bool⟩
            | int i => exact ⟨"int", _, _, rfl, fa_int, fr_int, su4_int⟩
            | str x => exact ⟨"str", _, _, rfl, fa_str, fr_str, su4_str⟩
            | tup xs => exact ⟨"tuple", _, _, rfl, fa_tuple, fr_tuple, su4_tuple⟩
            | lst xs => exact ⟨"list", _, _, rfl, fa_list, fr_list, su4_list⟩
            | dic kvs => exact ⟨"dict", _, _, rfl, fa_dict, fr_dict, su4_dict⟩
            | obj c fs => exact (hd c fs rfl).elim⟩
        · exact absurd e (by decide)
        · exact absurd e (by decide)
        · exact absurd e (by decide)
        · exact absurd e (by decide)
        · exact absurd e (by decide)
        · exact absurd e (by decide)
        · exact absurd e (by decide)
        · exact absurd e (by decide)
        · exact absurd e (by decide)
        · exact absurd e (by decide)
      addR := fun c f hm => by
        have hm := met_mem hm
        simp only [metL, List.mem_cons, List.not_mem_nil, or_false, Prod.mk.injEq] at hm
        rcases hm with ⟨rfl, e, rfl⟩ | ⟨rfl, e, rfl⟩ | ⟨rfl, e, rfl⟩ | ⟨rfl, e, rfl⟩ | ⟨rfl, e, rfl⟩ | ⟨rfl, e, rfl⟩ | ⟨rfl, e, rfl⟩ | ⟨rfl, e, rfl⟩ | ⟨rfl, e, rfl⟩ | ⟨rfl, e, rfl⟩ | ⟨rfl, e, rfl⟩ | ⟨rfl, e, rfl⟩ | ⟨rfl, e, rfl⟩
        · exact absurd e (by decide)
        · exact absurd e (by decide)
        · exact absurd e (by decide)
        · exact ⟨sf4, ⟨_, a13⟩, _, _, fa_tuple, fr_tuple, fno⟩
        · exact absurd e (by decide)
        · exact absurd e (by decide)
        · exact absurd e (by decide)
        · exact absurd e (by decide)
        · exact absurd e (by decide)
        · exact absurd e (by decide)
        · exact absurd e (by decide)
        · exact absurd e (by decide)
        · exact absurd e (by decide)
      x_InvalidNumber := ⟨fI2, { FB := PySem.F.excBase_ValueError, KF := PySem.W.kxs_ValueError, SF := PySem.F.store_ValueError, ini := xi2, over := xo2, sa := xsa2, iC := xii2, tI := xti2, kp := xkp2, exC := xex2, tyC := xty2, hd := xhd2, noF := (by intro f hf; simp only [List.mem_cons, List.not_mem_nil, or_false] at hf; subst hf; exact xnf2_0), hB := xB2, sup := xsp2, opq := opq, sub := xsu2, ne := by decide, few := by decide, top := by decide +kernel, fn := ⟨_, _, _, _, _, _, _, _, _, _, _, _, _, _, _, _, _, _, _, _, _, _, _, _, _, _, _, _, _, _, _, xl2, xc2, xcl2_, xv2, xf2, by rfl, xce2, (.cons .nil), rfl, by decide +kernel, rfl, rfl, rfl, by rfl, by rfl, by decide +kernel, fun s u us hl => match us, hl with | [_], _ => .of_eq rfl⟩ }⟩
      e_InvalidNumber := fun j hj => by
        unfold xtT at hj
        split at hj
        · exact xm2_2
        · exact xm1_2
        · exact xm3_2
        · cases hj
      x_InvalidStep := ⟨fI1, { FB := PySem.F.excBase_Exception, KF := PySem.W.kxs_Exception, SF := PySem.F.store_Exception, ini := xi1, over := xo1, sa := xsa1, iC := xii1, tI := xti1, kp := xkp1, exC := xex1, tyC := xty1, hd := xhd1, noF := (by intro f hf; simp only [List.mem_cons, List.not_mem_nil, or_false] at hf; subst hf; exact xnf1_0), hB := xB1, sup := xsp1, opq := opq, sub := xsu1, ne := by decide, few := by decide, top := by decide +kernel, fn := ⟨_, _, _, _, _, _, _, _, _, _, _, _, _, _, _, _, _, _, _, _, _, _, _, _, _, _, _, _, _, _, _, xl1, xc1, xcl1_, xv1, xf1, by rfl, xce1, (.cons .nil), rfl, by decide +kernel, rfl, rfl, rfl, by rfl, by rfl, by decide +kernel, fun s u us hl => match us, hl with | [_], _ => .of_eq rfl⟩ }⟩
      e_InvalidStep := fun j hj => by
        unfold xtT at hj
        split at hj
        · exact xm2_1
        · exact xm1_1
        · exact xm3_1
        · cases hj
      x_UnknownName := ⟨fI3, { FB := PySem.F.excBase_LookupError, KF := PySem.W.kxs_LookupError, SF := PySem.F.store_LookupError, ini := xi3, over := xo3, sa := xsa3, iC := xii3, tI := xti3, kp := xkp3, exC := xex3, tyC := xty3, hd := xhd3, noF := (by intro f hf; simp only [List.mem_cons, List.not_mem_nil, or_false] at hf; subst hf; exact xnf3_0), hB := xB3, sup := xsp3, opq := opq, sub := xsu3, ne := by decide, few := by decide, top := by decide +kernel, fn := ⟨_, _, _, _, _, _, _, _, _, _, _, _, _, _, _, _, _, _, _, _, _, _, _, _, _, _, _, _, _, _, _, xl3, xc3, xcl3_, xv3, xf3, by rfl, xce3, (.cons .nil), rfl, by decide +kernel, rfl, rfl, rfl, by rfl, by rfl, by decide +kernel, fun s u us hl => match us, hl with | [_], _ => .of_eq rfl⟩ }⟩
      e_UnknownName := fun j hj => by
        unfold xtT at hj
        split at hj
        · exact xm2_3
        · exact xm1_3
        · exact xm3_3
        · cases hj
      xf := fun c f hcf => by
        simp only [xflT, Bool.or_eq_true, Bool.and_eq_true, decide_eq_true_eq] at hcf
        rcases hcf with ((⟨rfl, rfl⟩ | ⟨rfl, rfl⟩) | ⟨rfl, rfl⟩)
        · exact ⟨⟨xga2, xgg2, xex2, xhi2⟩, xnf2_0⟩
        · exact ⟨⟨xga1, xgg1, xex1, xhi1⟩, xnf1_0⟩
        · exact ⟨⟨xga3, xgg3, xex3, xhi3⟩, xnf3_0⟩ }
  have L : ∀ base, Law0 PySem.Challenge.pw_takendown_k10_whole_rows w K mg base (⟨K, fun i => [0, C1, C2, C3, C4].getD i 0, fun i => [f0, f1, f2, f3, f4, f5, f6, f7, 0, f9, f10, f11, f12, f13, f14, f15, f16, 0, f18, f19, f20, f21, f22, f23, f24, f25, f26, f27, f28, f29, f30, f31, f32, f33, f34, f35, f36, f37, f38, f39].getD i 0⟩ : GG) prg := fun base => ⟨T.k, T.fld, T.met, T.cls⟩
  refine ⟨(⟨K, fun i => [0, C1, C2, C3, C4].getD i 0, fun i => [f0, f1, f2, f3, f4, f5, f6, f7, 0, f9, f10, f11, f12, f13, f14, f15, f16, 0, f18, f19, f20, f21, f22, f23, f24, f25, f26, f27, f28, f29, f30, f31, f32, f33, f34, f35, f36, f37, f38, f39].getD i 0⟩ : GG), e, fun base hK hN => fnG_all (fun k ih f hf => ?_) 60 30⟩
  match f, hf with
  | 0, _ => exact fnG_plain (ps := ["value", "least", "most"]) (L base) rfl l0 c0 sc_is_whole (fun us hl => match us, hl with | [_, _, _], _ => rfl) rfl rfl rfl ih (d_is_whole T)
  | 1, _ => exact fnG_plain (ps := ["value"]) (L base) rfl l1 c1 sc_is_name (fun us hl => match us, hl with | [_], _ => rfl) rfl rfl rfl ih (d_is_name T)
  | 2, _ => exact fnG_plain (ps := ["item"]) (L base) rfl l2 c2 sc_branches (fun us hl => match us, hl with | [_], _ => rfl) rfl rfl rfl ih (d_branches T)
  | 3, _ => exact fnG_plain (ps := ["item", "held", "own", "behind"]) (L base) rfl l3 c3 sc_is_wrong (fun us hl => match us, hl with | [_, _, _, _], _ => rfl) rfl rfl rfl ih (d_is_wrong T)
  | 4, _ => exact fnG_plain (ps := ["items", "held"]) (L base) rfl l4 c4 sc_wrongs (fun us hl => match us, hl with | [_, _], _ => rfl) rfl rfl rfl ih (d_wrongs T)
  | 5, _ => exact fnG_plain (ps := ["items"]) (L base) rfl l5 c5 sc_lock_fault (fun us hl => match us, hl with | [_], _ => rfl) rfl rfl rfl ih (d_lock_fault T)
  | 6, _ => exact fnG_plain (ps := ["value"]) (L base) rfl l6 c6 sc_is_step (fun us hl => match us, hl with | [_], _ => rfl) rfl rfl rfl ih (d_is_step T)
  | 7, _ => exact fnG_plain (ps := ["steps"]) (L base) rfl l7 c7 sc_require_steps (fun us hl => match us, hl with | [_], _ => rfl) rfl rfl rfl ih (d_require_steps T)
  | 9, _ => exact fnG_star (ps := ["self"]) (pv := "steps") (L base) rfl l9 c9 sc_Row___init__ (StX.bind_star1 (B := fun lx => bindArgs (PySem.W.fnOf "__init__" "Row.__init__" (defArgs s_Row___init__) (defBody s_Row___init__) (defScope s_Row___init__) .none kV9 dc9 pm9 an9 cd9 ct9) { pos := lx }) (fun _ => rfl) (fun _ _ _ => rfl)) rfl rfl rfl ih (d_Row___init__ T)
  | 10, _ => exact fnG_plain (ps := ["work"]) (L base) rfl l10 c10 sc_Row_shut (fun us hl => match us, hl with | [_], _ => rfl) rfl rfl rfl ih (d_Row_shut T)
  | 11, _ => exact fnG_star (ps := ["lock"]) (pv := "steps") (L base) rfl l11 c11 sc_Row_locked (StX.bind_star1 (B := fun lx => bindArgs (PySem.W.fnOf "locked" "Row.locked" (defArgs s_Row_locked) (defBody s_Row_locked) (defScope s_Row_locked) .none kV11 dc11 pm11 an11 cd11 ct11) { pos := lx }) (fun _ => rfl) (fun _ _ _ => rfl)) rfl rfl rfl ih (d_Row_locked T)
  | 12, _ => exact fnG_plain (ps := ["self", "other"]) (L base) rfl l12 c12 sc_Row_parts_of (fun us hl => match us, hl with | [_, _], _ => rfl) rfl rfl rfl ih (d_Row_parts_of T)
  | 13, _ => exact fnG_plain (ps := ["self", "other"]) (L base) rfl l13 c13 sc_Row___add__ (fun us hl => match us, hl with | [_, _], _ => rfl) rfl rfl rfl ih (d_Row___add__ T)
  | 14, _ => exact fnG_plain (ps := ["self", "other"]) (L base) rfl l14 c14 sc_Row___radd__ (fun us hl => match us, hl with | [_, _], _ => rfl) rfl rfl rfl ih (d_Row___radd__ T)
  | 15, _ => exact fnG_plain (ps := ["self", "step"]) (L base) rfl l15 c15 sc_Row___contains__ (fun us hl => match us, hl with | [_, _], _ => rfl) rfl rfl rfl ih (d_Row___contains__ T)
  | 16, _ => exact fnG_plain (ps := ["self", "index"]) (L base) rfl l16 c16 sc_Row___getitem__ (fun us hl => match us, hl with | [_, _], _ => rfl) rfl rfl rfl ih (d_Row___getitem__ T)
  | 18, _ => exact fnG_plain (ps := ["self"]) (L base) rfl l18 c18 sc_Row___len__ (fun us hl => match us, hl with | [_], _ => rfl) rfl rfl rfl ih (d_Row___len__ T)
  | 19, _ => exact fnG_plain (ps := ["self", "other"]) (L base) rfl l19 c19 sc_Row___eq__ (fun us hl => match us, hl with | [_, _], _ => rfl) rfl rfl rfl ih (d_Row___eq__ T)
  | 20, _ => exact fnG_plain (ps := ["self"]) (L base) rfl l20 c20 sc_Row_steps (fun us hl => match us, hl with | [_], _ => rfl) rfl rfl rfl ih (d_Row_steps T)
  | 21, _ => exact fnG_plain (ps := ["self", "other"]) (L base) rfl l21 c21 sc_Row_begins (fun us hl => match us, hl with | [_, _], _ => rfl) rfl rfl rfl ih (d_Row_begins T)
  | 22, _ => exact fnG_plain (ps := ["self", "index"]) (L base) rfl l22 c22 sc_Row_without (fun us hl => match us, hl with | [_, _], _ => rfl) rfl rfl rfl ih (d_Row_without T)
  | 23, _ => exact fnG_plain (ps := ["self", "done"]) (L base) rfl l23 c23 sc_Row_held (fun us hl => match us, hl with | [_, _], _ => rfl) rfl rfl rfl ih (d_Row_held T)
  | 24, _ => exact fnG_plain (ps := ["self", "kind"]) (L base) rfl l24 c24 sc_Row_names (fun us hl => match us, hl with | [_, _], _ => rfl) rfl rfl rfl ih (d_Row_names T)
  | 25, _ => exact fnG_plain (ps := ["_law_cell", "_law_salt", "_law_sizes"]) (L base) rfl l25 c25 sc__law_numbers (fun us hl => match us, hl with | [_, _, _], _ => rfl) rfl rfl rfl ih (d__law_numbers T)
  | 26, _ => exact fnG_plain (ps := ["_law_cell", "_law_salt", "_law_many"]) (L base) rfl l26 c26 sc__law_pool (fun us hl => match us, hl with | [_, _, _], _ => rfl) rfl rfl rfl ih (d__law_pool T)
  | 27, _ => exact fnG_plain (ps := ["_law_pool_here", "_law_many"]) (L base) rfl l27 c27 sc__law_draw (fun us hl => match us, hl with | [_, _], _ => rfl) rfl rfl rfl ih (d__law_draw T)
  | 28, _ => exact fnG_plain (ps := ["_law_pool_here", "_law_some"]) (L base) rfl l28 c28 sc__law_pick (fun us hl => match us, hl with | [_, _], _ => rfl) rfl rfl rfl ih (d__law_pick T)
  | 29, _ => exact fnG_plain (ps := ["_law_found", "_law_due"]) (L base) rfl l29 c29 sc__law_truth (fun us hl => match us, hl with | [_, _], _ => rfl) rfl rfl rfl ih (d__law_truth T)
  | 32, _ => exact fnG_plain (ps := ["_law_word"]) (L base) rfl l32 c32 sc__law_kind (fun us hl => match us, hl with | [_], _ => rfl) rfl rfl rfl ih (d__law_kind T)
  | 33, _ => exact fnG_plain (ps := ["_law_pool_here", "_law_names", "_law_most"]) (L base) rfl l33 c33 sc__law_chosen (fun us hl => match us, hl with | [_, _, _], _ => rfl) rfl rfl rfl ih (d__law_chosen T)
  | 34, _ => exact fnG_plain (ps := ["_law_steps"]) (L base) rfl l34 c34 sc__law_kept (fun us hl => match us, hl with | [_], _ => rfl) rfl rfl rfl ih (d__law_kept T)
  | 31, _ => exact fnG_plain (ps := ["_law_steps"]) (L base) rfl l31 c31 sc__law_fault (fun us hl => match us, hl with | [_], _ => rfl) rfl rfl rfl ih (d__law_fault T)
  | 35, _ => exact fnG_plain (ps := ["_law_row", "_law_way", "_law_thing"]) (L base) rfl l35 c35 sc__law_asked (fun us hl => match us, hl with | [_, _, _], _ => rfl) rfl rfl rfl ih (d__law_asked T)
  | 36, _ => exact fnG_plain (ps := ["_law_row", "_law_steps"]) (L base) rfl l36 c36 sc__law_tells (fun us hl => match us, hl with | [_, _], _ => rfl) rfl rfl rfl ih (d__law_tells T)
  | 37, _ => exact fnG_plain (ps := ["_law_steps"]) (L base) rfl l37 c37 sc__law_heldrows (fun us hl => match us, hl with | [_], _ => rfl) rfl rfl rfl ih (d__law_heldrows T)
  | 38, _ => exact fnG_plain (ps := ["_law_row", "_law_steps", "_law_pool_here", "_law_names"]) (L base) rfl l38 c38 sc__law_among (fun us hl => match us, hl with | [_, _, _, _], _ => rfl) rfl rfl rfl ih (d__law_among T)
  | 39, _ => exact fnG_plain (ps := ["_law_row", "_law_other", "_law_both"]) (L base) rfl l39 c39 sc__law_added (fun us hl => match us, hl with | [_, _, _], _ => rfl) rfl rfl rfl ih (d__law_added T)
  | 30, _ => exact fnG_plain (ps := ["_law_script"]) (L base) rfl l30 c30 sc_law (fun us hl => match us, hl with | [_], _ => rfl) rfl rfl rfl ih (d_law T)
  | 8, hf => exact (hf rfl).elim
  | 17, hf => exact (hf rfl).elim
  | m + 40, hf => exact (hf rfl).elim
end LW
set_option Elab.async false
set_option linter.all false
set_option maxRecDepth 100000
set_option maxHeartbeats 2000000
/-! TD, part R: running code by rewriting. -/
namespace TD
open PySem L2
section
variable {α β γ : Type}
def bR (r : Option (Res α × Mem)) (k : α → Mem → Option (Res β × Mem)) : Option (Res β × Mem) :=
  match r with
  | none => none
  | some (.ok a, M) => k a M
  | some (.ex x, M) => some (.ex x, M)
def sR (e : Env) (r : Option (Res α × Mem)) (k : α → Mem → Option (Flw × Mem)) : Option (Flw × Mem) :=
  match r with
  | none => none
  | some (.ok a, M) => k a M
  | some (.ex x, M) => some (.ex x e, M)
def tR (r : Option (Flw × Mem)) (k : Env → Mem → Option (Flw × Mem)) : Option (Flw × Mem) :=
  match r with
  | none => none
  | some (.next e, M) => k e M
  | some (f, M) => some (f, M)
variable {k : α → Mem → Option (Res β × Mem)} {ks : α → Mem → Option (Flw × Mem)} {kt : Env → Mem → Option (Flw × Mem)} {e : Env} {M : Mem} {a : α} {x : Xc} {v : Vl}
@[scoped simp] theorem bR_ok : bR (some (.ok a, M)) k = k a M := rfl
@[scoped simp] theorem bR_ex : bR (some (.ex x, M)) k = some (.ex x, M) := rfl
@[scoped simp] theorem bR_none : bR none k = none := rfl
theorem bR_congr {r r' : Option (Res α × Mem)} (h : r = r') : bR r k = bR r' k := by rw [h]
@[scoped simp] theorem sR_ok : sR e (some (.ok a, M)) ks = ks a M := rfl
@[scoped simp] theorem sR_ex : sR e (some (.ex x, M)) ks = some (.ex x e, M) := rfl
@[scoped simp] theorem sR_none : sR e none ks = none := rfl
theorem sR_congr {r r' : Option (Res α × Mem)} (h : r = r') : sR e r ks = sR e r' ks := by rw [h]
@[scoped simp] theorem tR_next : tR (some (.next e, M)) kt = kt e M := rfl
@[scoped simp] theorem tR_ret : tR (some (.ret v, M)) kt = some (.ret v, M) := rfl
@[scoped simp] theorem tR_brk : tR (some (.brk e, M)) kt = some (.brk e, M) := rfl
@[scoped simp] theorem tR_cnt : tR (some (.cnt e, M)) kt = some (.cnt e, M) := rfl
@[scoped simp] theorem tR_ex : tR (some (.ex x e, M)) kt = some (.ex x e, M) := rfl
@[scoped simp] theorem tR_none : tR none kt = none := rfl
theorem tR_congr {r r' : Option (Flw × Mem)} (h : r = r') : tR r kt = tR r' kt := by rw [h]
@[scoped simp] theorem bR_ite {c : Prop} [Decidable c] {r r' : Option (Res α × Mem)} : bR (if c then r else r') k = if c then bR r k else bR r' k := by split <;> rfl
@[scoped simp] theorem sR_ite {c : Prop} [Decidable c] {r r' : Option (Res α × Mem)} : sR e (if c then r else r') ks = if c then sR e r ks else sR e r' ks := by split <;> rfl
@[scoped simp] theorem tR_ite {c : Prop} [Decidable c] {r r' : Option (Flw × Mem)} : tR (if c then r else r') kt = if c then tR r kt else tR r' kt := by split <;> rfl
theorem bind_at {m : EM α} {k : α → EM β} : EM.bind m k M = bR (m M) k := rfl
theorem seqE_at {m : EM α} {k : α → SM} : seqE e m k M = sR e (m M) k := rfl
theorem then_at {m : SM} {k : Env → SM} : SM.then m k M = tR (m M) k := rfl
@[scoped simp] theorem ite_at {c : Prop} [Decidable c] {m m' : EM α} : (if c then m else m') M = if c then m M else m' M := by split <;> rfl
@[scoped simp] theorem ite_atS {c : Prop} [Decidable c] {m m' : SM} : (if c then m else m') M = if c then m M else m' M := by split <;> rfl
@[scoped simp] theorem pure_at : EM.pure a M = some (.ok a, M) := rfl
@[scoped simp] theorem spure_at {f : Flw} : SM.pure f M = some (f, M) := rfl
@[scoped simp] theorem fail_at : (EM.fail : EM α) M = none := rfl
@[scoped simp] theorem o_some : EM.o (some a) M = some (.ok a, M) := rfl
@[scoped simp] theorem o_none : EM.o (none : Option α) M = none := rfl
@[scoped simp] theorem o_ite {c : Prop} [Decidable c] {r r' : Option α} : EM.o (if c then r else r') M = if c then EM.o r M else EM.o r' M := by split <;> rfl
end
section
variable {T : Tab} {rp : D → Option Str} {cl : Cl} {e : Env} {M : Mem} {a b c : CE} {i j : Nat} {d : D} {es : CL} {x y : Vl} {dx dy : D}
@[scoped simp] theorem getV_at {s : List (Option Vl)} {xx : Option Xc} {v : Vl} (h : s[i]? = some (some v)) : getV ⟨s, xx⟩ i M = some (.ok v, M) := by
  unfold getV; simp only [h]
@[scoped simp] theorem runE_var : runE T rp cl (.var i) e M = getV e i M := rfl
@[scoped simp] theorem runE_con : runE T rp cl (.con d) e M = some (.ok (.d d), M) := rfl
@[scoped simp] theorem runE_glb : runE T rp cl (.glb d) e M = some (.ok (.d d), M) := rfl
@[scoped simp] theorem runE_tup : runE T rp cl (.tup es) e M = bR (runL T rp cl es e M) fun vs M => bR (toDs vs M) fun ds M => mkTup ds M := rfl
@[scoped simp] theorem runE_lst : runE T rp cl (.lst es) e M = bR (runL T rp cl es e M) fun vs M => bR (toDs vs M) fun ds M => mkLst ds M := rfl
@[scoped simp] theorem runE_new : runE T rp cl (.new es) e M = bR (runL T rp cl es e M) fun vs M => bR (toDs vs M) fun ds M => mkNew ds M := rfl
@[scoped simp] theorem runE_bin {op : Operator} : runE T rp cl (.bin op a b) e M = bR (runE T rp cl a e M) fun x M => bR (runE T rp cl b e M) fun y M => opB op x y M := rfl
@[scoped simp] theorem runE_neg : runE T rp cl (.neg a) e M = bR (runE T rp cl a e M) fun x M => opN x M := rfl
@[scoped simp] theorem runE_cmp {op : CmpOp} : runE T rp cl (.cmp op a b) e M = bR (runE T rp cl a e M) fun x M => bR (runE T rp cl b e M) fun y M => opC op x y M := rfl
@[scoped simp] theorem runE_chn {op op' : CmpOp} : runE T rp cl (.chn op op' a b c) e M = bR (runE T rp cl a e M) fun x M => bR (runE T rp cl b e M) fun y M => bR (opC op x y M) fun r M => bR (boolOf r M) fun k M =>
      if k = true then bR (runE T rp cl c e M) fun z M => opC op' y z M else some (.ok (.d (.bl false)), M) := by
  show EM.bind _ _ M = _
  simp only [bind_at]
  congr 1; funext x M; congr 1; funext y M; congr 1; funext r M; congr 1; funext k M
  cases k <;> rfl
@[scoped simp] theorem runE_and : runE T rp cl (.and a b) e M = bR (runE T rp cl a e M) fun x M => bR (boolOf x M) fun k M => if k = true then runE T rp cl b e M else some (.ok (.d (.bl false)), M) := by
  show EM.bind _ _ M = _
  simp only [bind_at]
  congr 1; funext x M; congr 1; funext k M
  cases k <;> rfl
@[scoped simp] theorem runE_or : runE T rp cl (.or a b) e M = bR (runE T rp cl a e M) fun x M => bR (boolOf x M) fun k M => if k = true then some (.ok (.d (.bl true)), M) else runE T rp cl b e M := by
  show EM.bind _ _ M = _
  simp only [bind_at]
  congr 1; funext x M; congr 1; funext k M
  cases k <;> rfl
@[scoped simp] theorem runE_not : runE T rp cl (.not a) e M = bR (runE T rp cl a e M) fun x M => bR (boolOf x M) fun k M => some (.ok (.d (.bl (!k))), M) := rfl
@[scoped simp] theorem runE_ite {t : CT} : runE T rp cl (.ite t a b) e M = bR (runT T rp cl t e M) fun k M => if k = true then runE T rp cl a e M else runE T rp cl b e M := by
  show EM.bind _ _ M = _
  simp only [bind_at]
  congr 1; funext k M
  cases k <;> rfl
@[scoped simp] theorem runE_call {f : Fi} : runE T rp cl (.call f es) e M = bR (runL T rp cl es e M) fun vs M => cl f vs M := rfl
@[scoped simp] theorem runE_blt {f : BI} : runE T rp cl (.blt f es) e M = bR (runL T rp cl es e M) fun vs M => bltV rp f vs M := rfl
@[scoped simp] theorem runE_isi {t : Ty} : runE T rp cl (.isi a t) e M = bR (runE T rp cl a e M) fun x M => isiV T t x M := rfl
@[scoped simp] theorem runE_met {m : Str} : runE T rp cl (.met m a es) e M = bR (runE T rp cl a e M) fun x M => bR (metE T m x M) fun f M => bR (runL T rp cl es e M) fun vs M => cl (.fn f) (x :: vs) M := rfl
@[scoped simp] theorem runE_smet {f : Nat} : runE T rp cl (.smet f es) e M = bR (runL T rp cl es e M) fun vs M => cl (.fn f) vs M := rfl
@[scoped simp] theorem runE_fld {f : Str} : runE T rp cl (.fld a f) e M = bR (runE T rp cl a e M) fun x M => fieldOf T f x M := rfl
@[scoped simp] theorem runE_ix : runE T rp cl (.ix a b) e M = bR (runE T rp cl a e M) fun x M => bR (runE T rp cl b e M) fun y M => opI x y M := rfl
@[scoped simp] theorem runE_sl {lo hi : CO} : runE T rp cl (.sl a lo hi) e M = bR (runE T rp cl a e M) fun x M => bR (runO T rp cl lo e M) fun l M => bR (runO T rp cl hi e M) fun h M => bR (peekW x M) fun dx M => EM.o ((slD dx l h).map .d) M := rfl
def lcF (T : Tab) (rp : D → Option Str) (cl : Cl) (g : CG) (t : CTs) (c : CE) (own : List Nat) (e : Env) (x : D) : EM (Option D) := match asg g x (e.wipe own) with
      | none => EM.fail
      | some e' => EM.bind (runTs T rp cl t e') fun k => if k then EM.bind (runE T rp cl c e') fun v => EM.bind (toD v) fun d => EM.pure (some d) else EM.pure none
@[scoped simp] theorem runE_lc {g : CG} {it : CI} {t : CTs} {own : List Nat} : runE T rp cl (.lc g it t c own) e M = bR (runI T rp cl it e M) fun xs M => bR (lcGo (lcF T rp cl g t c own e) xs M) fun ds M => mkLst ds M := rfl
theorem lcF_at {g : CG} {t : CTs} {own : List Nat} {x : D} {e' : Env} (h : asg g x (e.wipe own) = some e') : lcF T rp cl g t c own e x M = bR (runTs T rp cl t e' M) fun k M => if k = true then bR (runE T rp cl c e' M) fun v M => bR (toD v M) fun d M => some (.ok (some d), M) else some (.ok none, M) := by
  unfold lcF
  simp only [h, bind_at]
  congr 1; funext k M
  cases k <;> rfl
@[scoped simp] theorem runE_obin : runE T rp cl (.obin a b) e M = bR (runE T rp cl a e M) fun x M => bR (runE T rp cl b e M) fun y M => obinV T cl x y M := rfl
@[scoped simp] theorem runE_rev : runE T rp cl (.rev a) e M = bR (runE T rp cl a e M) fun x M => bR (peek x M) fun d M => EM.o ((revD d).map .d) M := rfl
@[scoped simp] theorem runE_xf {f : Str} : runE T rp cl (.xf f) e M = EM.o ((e.x.bind fun x => if T.xfl x.cls f then x.fs.lookup f else none).map .d) M := rfl
@[scoped simp] theorem runE_kin {neg : Bool} {n : Nat} {kvs : List (Str × D)} : runE T rp cl (.kin neg a n kvs) e M = bR (runE T rp cl a e M) fun x M => bR (peek x M) fun dx M => EM.o ((kget kvs dx).map fun o => .d (.bl (if neg then !o.isSome else o.isSome))) M := rfl
@[scoped simp] theorem runE_kix {n : Nat} {kvs : List (Str × D)} : runE T rp cl (.kix n kvs a) e M = bR (runE T rp cl a e M) fun x M => bR (peek x M) fun dx M => EM.o (((kget kvs dx).bind id).map .d) M := rfl
@[scoped simp] theorem runL_nil : runL T rp cl .nil e M = some (.ok [], M) := rfl
@[scoped simp] theorem runL_cons : runL T rp cl (.cons a es) e M = bR (runE T rp cl a e M) fun v M => bR (runL T rp cl es e M) fun vs M => some (.ok (v :: vs), M) := rfl
@[scoped simp] theorem runL_star : runL T rp cl (.star a es) e M = bR (runE T rp cl a e M) fun v M => bR (peek v M) fun d M => bR (EM.o (items d) M) fun xs M => bR (runL T rp cl es e M) fun vs M => some (.ok (xs.map .d ++ vs), M) := rfl
@[scoped simp] theorem runO_none : runO T rp cl .none e M = some (.ok none, M) := rfl
@[scoped simp] theorem runO_some : runO T rp cl (.some a) e M = bR (runE T rp cl a e M) fun v M => bR (intOf v M) fun i M => some (.ok (some i), M) := rfl
@[scoped simp] theorem runT_val : runT T rp cl (.val a) e M = bR (runE T rp cl a e M) fun v M => bR (peek v M) fun d M => EM.o (truD d) M := rfl
@[scoped simp] theorem runT_tst : runT T rp cl (.tst a) e M = bR (runE T rp cl a e M) fun v M => boolOf v M := rfl
@[scoped simp] theorem runT_and {t u : CT} : runT T rp cl (.and t u) e M = bR (runT T rp cl t e M) fun k M => if k = true then runT T rp cl u e M else some (.ok false, M) := by
  show EM.bind _ _ M = _
  simp only [bind_at]
  congr 1; funext k M
  cases k <;> rfl
@[scoped simp] theorem runT_or {t u : CT} : runT T rp cl (.or t u) e M = bR (runT T rp cl t e M) fun k M => if k = true then some (.ok true, M) else runT T rp cl u e M := by
  show EM.bind _ _ M = _
  simp only [bind_at]
  congr 1; funext k M
  cases k <;> rfl
@[scoped simp] theorem runT_not {t : CT} : runT T rp cl (.not t) e M = bR (runT T rp cl t e M) fun k M => some (.ok (!k), M) := rfl
@[scoped simp] theorem runTs_nil : runTs T rp cl .nil e M = some (.ok true, M) := rfl
@[scoped simp] theorem runTs_one {t : CT} : runTs T rp cl (.one t) e M = runT T rp cl t e M := rfl
@[scoped simp] theorem runI_seq : runI T rp cl (.seq a) e M = bR (runE T rp cl a e M) fun v M => bR (toD v M) fun d M => EM.o ((items d).bind fun xs => if szOk xs.length then some xs else none) M := rfl
@[scoped simp] theorem runI_rng : runI T rp cl (.rng a) e M = bR (runE T rp cl a e M) fun v M => bR (intOf v M) fun i M => EM.o (if decide (-(2 ^ 62) ≤ i) && decide (i ≤ 16777216) then some (rngGo i.toNat 0) else none) M := rfl
@[scoped simp] theorem runI_enm : runI T rp cl (.enm a) e M = bR (runE T rp cl a e M) fun v M => bR (toD v M) fun d M => EM.o ((items d).bind fun xs => if szOk xs.length then some (zipEnum 0 xs) else none) M := rfl
def charsV (v : Vl) : EM (List D) := match v with
      | .d (.str x) => EM.o (if szOk x.length then some (x.cps.toList.map fun c => .str ⟨#[c]⟩) else none)
      | _ => EM.fail
@[scoped simp] theorem runI_chars : runI T rp cl (.chars a) e M = bR (runE T rp cl a e M) fun v M => charsV v M := rfl
@[scoped simp] theorem charsV_str {x : Str} : charsV (.d (.str x)) M = EM.o (if szOk x.length then some (x.cps.toList.map fun c => .str ⟨#[c]⟩) else none) M := rfl
@[scoped simp] theorem toDs_nil : toDs [] M = some (.ok [], M) := rfl
@[scoped simp] theorem toDs_cons {vs : List Vl} : toDs (x :: vs) M = bR (toD x M) fun d M => bR (toDs vs M) fun ds M => some (.ok (d :: ds), M) := rfl
@[scoped simp] theorem toD_d : toD (.d d) M = some (.ok d, M) := rfl
@[scoped simp] theorem toD_loc {n : Nat} : toD (.loc n) M = freeze n M := rfl
@[scoped simp] theorem peek_d : peek (.d d) M = some (.ok d, M) := rfl
@[scoped simp] theorem peekW_d : peekW (.d d) M = some (.ok d, M) := rfl
theorem toDs_map : ∀ (xs : List D) (M : Mem), toDs (xs.map .d) M = some (.ok xs, M)
  | [], _ => rfl
  | x :: xs, M => by simp [toDs_map xs M]
@[scoped simp] theorem mkTup_at {ds : List D} : mkTup ds M = if szOk ds.length then some (.ok (.d (.tup ds)), M) else none := by unfold mkTup; cases szOk ds.length <;> rfl
@[scoped simp] theorem mkLst_at {ds : List D} : mkLst ds M = if szOk ds.length then some (.ok (.d (.lst ds)), M) else none := by unfold mkLst; cases szOk ds.length <;> rfl
@[scoped simp] theorem mkNew_at {ds : List D} : mkNew ds M = if szOk ds.length then some (.ok (.loc M.length), M ++ [.lst ds]) else none := by unfold mkNew; cases szOk ds.length <;> rfl
@[scoped simp] theorem opB_d {op : Operator} : opB op (.d dx) (.d dy) M = EM.o ((binD op dx dy).map .d) M := rfl
@[scoped simp] theorem opC_d {op : CmpOp} : opC op (.d dx) (.d dy) M = EM.o ((cmpD op dx dy).map fun b => .d (.bl b)) M := rfl
@[scoped simp] theorem opI_d : opI (.d dx) (.d dy) M = EM.o ((ixD dx dy).map .d) M := rfl
@[scoped simp] theorem opN_d : opN (.d dx) M = EM.o ((negD dx).map .d) M := rfl
@[scoped simp] theorem boolOf_d {k : Bool} : boolOf (.d (.bl k)) M = some (.ok k, M) := rfl
@[scoped simp] theorem intOf_d {k : Int} : intOf (.d (.int k)) M = some (.ok k, M) := rfl
@[scoped simp] theorem isiV_d {t : Ty} : isiV T t (.d dx) M = EM.o ((isiO T t dx).map fun b => .d (.bl b)) M := by
  unfold isiV shape
  simp only [Option.bind_some]
  cases isiO T t dx <;> rfl
@[scoped simp] theorem bltV_at {f : BI} {vs : List Vl} : bltV rp f vs M = bR (peeks vs M) fun ds M => EM.o ((bltD rp f ds).map .d) M := rfl
@[scoped simp] theorem peeks_nil : peeks [] M = some (.ok [], M) := rfl
@[scoped simp] theorem peeks_cons {vs : List Vl} : peeks (x :: vs) M = bR (peekW x M) fun d M => bR (peeks vs M) fun ds M => some (.ok (d :: ds), M) := rfl
theorem szOk_of {n : Nat} (h : n ≤ 16777216) : szOk n = true := by simp [szOk, h]
end
/-! ### statements -/
section
variable {T : Tab} {rp : D → Option Str} {XT : XTab} {cl : Cl} {e : Env} {M : Mem} {c : CE} {es : CL} {g : CG}
@[scoped simp] theorem runSs_nil : runSs T rp XT cl .nil e M = some (.next e, M) := rfl
@[scoped simp] theorem runSs_cons {s : CS} {r : CSs} : runSs T rp XT cl (.cons s r) e M = tR (runS T rp XT cl s e M) fun e M => runSs T rp XT cl r e M := rfl
@[scoped simp] theorem runS_pass : runS T rp XT cl .pass e M = some (.next e, M) := rfl
@[scoped simp] theorem runS_expr : runS T rp XT cl (.expr c) e M = sR e (runE T rp cl c e M) fun _ M => some (.next e, M) := rfl
@[scoped simp] theorem runS_ret : runS T rp XT cl (.ret c) e M = sR e (runE T rp cl c e M) fun v M => some (.ret v, M) := rfl
@[scoped simp] theorem runS_retN : runS T rp XT cl .retN e M = some (.ret (.d .non), M) := rfl
@[scoped simp] theorem runS_set : runS T rp XT cl (.set g c) e M = sR e (bR (runE T rp cl c e M) fun v M => asgV g v e M) fun e' M => some (.next e', M) := rfl
@[scoped simp] theorem runS_par {is : List Nat} : runS T rp XT cl (.par is es) e M = sR e (bR (runL T rp cl es e M) fun vs M => EM.o (parS is vs e) M) fun e' M => some (.next e', M) := rfl
@[scoped simp] theorem runS_fld {o : CE} {f : Str} : runS T rp XT cl (.fld o f c) e M = sR e (bR (runE T rp cl c e M) fun v M => bR (runE T rp cl o e M) fun x M => setField T f v x M) fun _ M => some (.next e, M) := rfl
@[scoped simp] theorem runS_sub {o i : CE} : runS T rp XT cl (.sub o i c) e M = sR e (bR (runE T rp cl c e M) fun v M => bR (runE T rp cl o e M) fun x M => bR (runE T rp cl i e M) fun y M => subV x y v M) fun _ M => some (.next e, M) := rfl
@[scoped simp] theorem runS_mut {m : BM} {o : CE} : runS T rp XT cl (.mut m o es) e M = sR e (bR (runE T rp cl o e M) fun x M => bR (lstE x M) fun _ M => bR (runL T rp cl es e M) fun vs M => mutV m x vs M) fun _ M => some (.next e, M) := rfl
@[scoped simp] theorem runS_ife {t : CT} {a b : CSs} : runS T rp XT cl (.ife t a b) e M = sR e (runT T rp cl t e M) fun k M => if k = true then runSs T rp XT cl a e M else runSs T rp XT cl b e M := by
  show seqE e _ _ M = _
  simp only [seqE_at]
  congr 1; funext k M
  cases k <;> rfl
def forR (T : Tab) (rp : D → Option Str) (XT : XTab) (cl : Cl) (g : CG) (b : CSs) (xs : List D) (e : Env) : SM := forGo g (fun e' => runSs T rp XT cl b e') xs e
@[scoped simp] theorem runS_fors {it : CI} {b : CSs} : runS T rp XT cl (.fors g it b) e M = sR e (runI T rp cl it e M) fun xs M => forR T rp XT cl g b xs e M := rfl
@[scoped simp] theorem runS_raise {k : Nat} : runS T rp XT cl (.raise k es) e M = sR e (bR (runL T rp cl es e M) fun vs M => bR (toDs vs M) fun ds M => EM.o (mkX XT k ds) M) fun x M => some (.ex x e, M) := rfl
def hR (r : Option (Flw × Mem)) (k : Xc → Env → Mem → Option (Flw × Mem)) : Option (Flw × Mem) :=
  match r with
  | some (.ex x e1, M1) => k x e1 M1
  | r => r
section
variable {k : Xc → Env → Mem → Option (Flw × Mem)} {v : Vl} {x : Xc}
@[scoped simp] theorem hR_ex : hR (some (.ex x e, M)) k = k x e M := rfl
@[scoped simp] theorem hR_next : hR (some (.next e, M)) k = some (.next e, M) := rfl
@[scoped simp] theorem hR_ret : hR (some (.ret v, M)) k = some (.ret v, M) := rfl
@[scoped simp] theorem hR_brk : hR (some (.brk e, M)) k = some (.brk e, M) := rfl
@[scoped simp] theorem hR_cnt : hR (some (.cnt e, M)) k = some (.cnt e, M) := rfl
@[scoped simp] theorem hR_none : hR none k = none := rfl
theorem hR_congr {r r' : Option (Flw × Mem)} (h : r = r') : hR r k = hR r' k := by rw [h]
@[scoped simp] theorem hR_ite {c : Prop} [Decidable c] {r r' : Option (Flw × Mem)} : hR (if c then r else r') k = if c then hR r k else hR r' k := by split <;> rfl
end
@[scoped simp] theorem runS_tryx {b : CSs} {hs : CHs} : runS T rp XT cl (.tryx b hs) e M = hR (runSs T rp XT cl b e M) fun x e M => runH T rp XT cl hs x e M := by
  show (match runSs T rp XT cl b e M with
    | some (.ex x e1, M1) => runH T rp XT cl hs x e1 M1
    | r => r) = _
  rfl
@[scoped simp] theorem runS_brk : runS T rp XT cl .brk e M = some (.brk e, M) := rfl
@[scoped simp] theorem runS_cnt : runS T rp XT cl .cnt e M = some (.cnt e, M) := rfl
@[scoped simp] theorem asgV_name {i : Nat} {v : Vl} : asgV (.name i) v e M = some (.ok (e.set i v), M) := rfl
@[scoped simp] theorem asgV_tup {gs : CGs} {v : Vl} : asgV (.tup gs) v e M = bR (toD v M) fun d M => EM.o (asg (.tup gs) d e) M := rfl
@[scoped simp] theorem asg_name {i : Nat} {d : D} : asg (.name i) d e = some (e.set i (.d d)) := rfl
@[scoped simp] theorem asg_tup {gs : CGs} {xs : List D} : asg (.tup gs) (.tup xs) e = asgs gs xs e := rfl
@[scoped simp] theorem asg_lst {gs : CGs} {xs : List D} : asg (.tup gs) (.lst xs) e = asgs gs xs e := rfl
@[scoped simp] theorem asgs_nil : asgs .nil [] e = some e := rfl
@[scoped simp] theorem asgs_cons {gs : CGs} {x : D} {xs : List D} : asgs (.cons g gs) (x :: xs) e = (asg g x e).bind fun e' => asgs gs xs e' := rfl
@[scoped simp] theorem set_at {s : List (Option Vl)} {xx : Option Xc} {i : Nat} {v : Vl} : Env.set ⟨s, xx⟩ i v = ⟨s.set i (some v), none⟩ := rfl
@[scoped simp] theorem parS_nil : parS [] [] e = some e := rfl
@[scoped simp] theorem parS_cons {i : Nat} {is : List Nat} {v : Vl} {vs : List Vl} : parS (i :: is) (v :: vs) e = parS is vs (e.set i v) := rfl
@[scoped simp] theorem wipe_at {s : List (Option Vl)} {xx : Option Xc} {vs : List Nat} : Env.wipe ⟨s, xx⟩ vs = ⟨wipeS s vs, none⟩ := rfl
@[scoped simp] theorem wipeS_nil {s : List (Option Vl)} : wipeS s [] = s := rfl
@[scoped simp] theorem wipeS_cons {s : List (Option Vl)} {v : Nat} {vs : List Nat} : wipeS s (v :: vs) = (wipeS s vs).set v none := rfl
end
/-! ### a loop by its invariant -/
def WS (r : Option (Flw × Mem)) (Q : Flw → Mem → Prop) : Prop := ∃ f M, r = some (f, M) ∧ Q f M
theorem for_inv {T : Tab} {rp : D → Option Str} {XT : XTab} {cl : Cl} {g : CG} {b : CSs} {Q : Flw → Mem → Prop} (I : List D → Env → Mem → Prop)
    (step : ∀ x xs e M, I (x :: xs) e M → ∃ e1, asg g x e = some e1 ∧ ∃ f M', runSs T rp XT cl b e1 M = some (f, M') ∧ match f with
      | .next e2 => I xs e2 M'
      | .cnt e2 => I xs e2 M'
      | .brk e2 => Q (.next e2) M'
      | .ret v => Q (.ret v) M'
      | .ex x e2 => Q (.ex x e2) M')
    (done : ∀ e M, I [] e M → Q (.next e) M) : ∀ (xs : List D) (e : Env) (M : Mem), I xs e M → ∃ f M', forR T rp XT cl g b xs e M = some (f, M') ∧ Q f M'
  | [], e, M, h => ⟨_, _, rfl, done e M h⟩
  | x :: xs, e, M, h => by
    obtain ⟨e1, h1, f, M', h2, h3⟩ := step x xs e M h
    have key : forR T rp XT cl g b (x :: xs) e M = (match asg g x e with
      | none => none
      | some e1 => match runSs T rp XT cl b e1 M with
        | none => none
        | some (.next e2, M2) => forR T rp XT cl g b xs e2 M2
        | some (.cnt e2, M2) => forR T rp XT cl g b xs e2 M2
        | some (.brk e2, M2) => some (.next e2, M2)
        | some (.ret v, M2) => some (.ret v, M2)
        | some (.ex x e2, M2) => some (.ex x e2, M2)) := rfl
    rw [key, h1]
    simp only [h2]
    cases f with
    | next e2 => exact for_inv I step done xs e2 M' h3
    | cnt e2 => exact for_inv I step done xs e2 M' h3
    | brk e2 => exact ⟨_, _, rfl, h3⟩
    | ret v => exact ⟨_, _, rfl, h3⟩
    | ex x e2 => exact ⟨_, _, rfl, h3⟩
/-- a comprehension without state -/
theorem lc_go {f : D → EM (Option D)} {p : D → Option D} {M : Mem} : ∀ (xs : List D), (∀ x ∈ xs, f x M = some (.ok (p x), M)) → lcGo f xs M = some (.ok (xs.filterMap p), M)
  | [], _ => rfl
  | x :: xs, h => by
    show EM.bind (noEx (f x)) (fun o => EM.bind (lcGo f xs) fun ys => EM.pure (match o with | some y => y :: ys | none => ys)) M = _
    rw [bind_at]
    have : noEx (f x) M = some (.ok (p x), M) := by unfold noEx; rw [h x (List.mem_cons_self ..)]
    rw [this, bR_ok, bind_at, lc_go xs fun y hy => h y (List.mem_cons_of_mem _ hy), bR_ok, List.filterMap_cons]
    cases p x <;> rfl
end TD
set_option Elab.async false
set_option linter.all false
set_option maxRecDepth 100000
set_option maxHeartbeats 2000000
/-! TD, part S: data by rewriting (printed by genS.py). -/
namespace TD
open PySem L2
@[scoped simp] theorem ofString_inj {a b : String} : Str.ofString a = Str.ofString b ↔ a = b := by
  constructor
  · intro h
    rw [Str.ofString_eq_toList, Str.ofString_eq_toList] at h
    injection h with h
    have h2 : a.toList.map Char.toNat = b.toList.map Char.toNat := by simpa using congrArg Array.toList h
    have inj : ∀ (l m : List Char), l.map Char.toNat = m.map Char.toNat → l = m := by
      intro l
      induction l with
      | nil => intro m h; cases m with
        | nil => rfl
        | cons _ _ => cases h
      | cons c l ih => intro m h; cases m with
        | nil => cases h
        | cons d m =>
          rw [List.map_cons, List.map_cons] at h
          injection h with h1 h2
          rw [ih m h2, Char.toNat_inj.mp h1]
    exact String.toList_inj.mp (inj _ _ h2)
  · intro h
    rw [h]
section
variable {f : Nat → Nat → Bool} {T : Tab} {rp : D → Option Str} {M : Mem} {b c : Bool} {i j : Int} {x y : Str} {xs ys : List D} {kv kw : List (D × D)} {cn cm : Nat} {fs gs : List (Str × D)} {d d' : D} {n : Nat}
@[scoped simp] theorem isiD_int_non : isiD f .int .non = false := rfl
@[scoped simp] theorem isiD_int_bl : isiD f .int (.bl b) = true := rfl
@[scoped simp] theorem isiD_int_int : isiD f .int (.int i) = true := rfl
@[scoped simp] theorem isiD_int_str : isiD f .int (.str x) = false := rfl
@[scoped simp] theorem isiD_int_tup : isiD f .int (.tup xs) = false := rfl
@[scoped simp] theorem isiD_int_lst : isiD f .int (.lst xs) = false := rfl
@[scoped simp] theorem isiD_int_dic : isiD f .int (.dic kv) = false := rfl
@[scoped simp] theorem isiD_int_obj : isiD f .int (.obj cn fs) = false := rfl
@[scoped simp] theorem isiD_bool_non : isiD f .bool .non = false := rfl
@[scoped simp] theorem isiD_bool_bl : isiD f .bool (.bl b) = true := rfl
@[scoped simp] theorem isiD_bool_int : isiD f .bool (.int i) = false := rfl
@[scoped simp] theorem isiD_bool_str : isiD f .bool (.str x) = false := rfl
@[scoped simp] theorem isiD_bool_tup : isiD f .bool (.tup xs) = false := rfl
@[scoped simp] theorem isiD_bool_lst : isiD f .bool (.lst xs) = false := rfl
@[scoped simp] theorem isiD_bool_dic : isiD f .bool (.dic kv) = false := rfl
@[scoped simp] theorem isiD_bool_obj : isiD f .bool (.obj cn fs) = false := rfl
@[scoped simp] theorem isiD_str_non : isiD f .str .non = false := rfl
@[scoped simp] theorem isiD_str_bl : isiD f .str (.bl b) = false := rfl
@[scoped simp] theorem isiD_str_int : isiD f .str (.int i) = false := rfl
@[scoped simp] theorem isiD_str_str : isiD f .str (.str x) = true := rfl
@[scoped simp] theorem isiD_str_tup : isiD f .str (.tup xs) = false := rfl
@[scoped simp] theorem isiD_str_lst : isiD f .str (.lst xs) = false := rfl
@[scoped simp] theorem isiD_str_dic : isiD f .str (.dic kv) = false := rfl
@[scoped simp] theorem isiD_str_obj : isiD f .str (.obj cn fs) = false := rfl
@[scoped simp] theorem isiD_tuple_non : isiD f .tuple .non = false := rfl
@[scoped simp] theorem isiD_tuple_bl : isiD f .tuple (.bl b) = false := rfl
@[scoped simp] theorem isiD_tuple_int : isiD f .tuple (.int i) = false := rfl
@[scoped simp] theorem isiD_tuple_str : isiD f .tuple (.str x) = false := rfl
@[scoped simp] theorem isiD_tuple_tup : isiD f .tuple (.tup xs) = true := rfl
@[scoped simp] theorem isiD_tuple_lst : isiD f .tuple (.lst xs) = false := rfl
@[scoped simp] theorem isiD_tuple_dic : isiD f .tuple (.dic kv) = false := rfl
@[scoped simp] theorem isiD_tuple_obj : isiD f .tuple (.obj cn fs) = false := rfl
@[scoped simp] theorem isiD_list_non : isiD f .list .non = false := rfl
@[scoped simp] theorem isiD_list_bl : isiD f .list (.bl b) = false := rfl
@[scoped simp] theorem isiD_list_int : isiD f .list (.int i) = false := rfl
@[scoped simp] theorem isiD_list_str : isiD f .list (.str x) = false := rfl
@[scoped simp] theorem isiD_list_tup : isiD f .list (.tup xs) = false := rfl
@[scoped simp] theorem isiD_list_lst : isiD f .list (.lst xs) = true := rfl
@[scoped simp] theorem isiD_list_dic : isiD f .list (.dic kv) = false := rfl
@[scoped simp] theorem isiD_list_obj : isiD f .list (.obj cn fs) = false := rfl
@[scoped simp] theorem isiD_dict_non : isiD f .dict .non = false := rfl
@[scoped simp] theorem isiD_dict_bl : isiD f .dict (.bl b) = false := rfl
@[scoped simp] theorem isiD_dict_int : isiD f .dict (.int i) = false := rfl
@[scoped simp] theorem isiD_dict_str : isiD f .dict (.str x) = false := rfl
@[scoped simp] theorem isiD_dict_tup : isiD f .dict (.tup xs) = false := rfl
@[scoped simp] theorem isiD_dict_lst : isiD f .dict (.lst xs) = false := rfl
@[scoped simp] theorem isiD_dict_dic : isiD f .dict (.dic kv) = true := rfl
@[scoped simp] theorem isiD_dict_obj : isiD f .dict (.obj cn fs) = false := rfl
@[scoped simp] theorem isiD_cls_non : isiD f (.cls n) .non = false := rfl
@[scoped simp] theorem isiD_cls_bl : isiD f (.cls n) (.bl b) = false := rfl
@[scoped simp] theorem isiD_cls_int : isiD f (.cls n) (.int i) = false := rfl
@[scoped simp] theorem isiD_cls_str : isiD f (.cls n) (.str x) = false := rfl
@[scoped simp] theorem isiD_cls_tup : isiD f (.cls n) (.tup xs) = false := rfl
@[scoped simp] theorem isiD_cls_lst : isiD f (.cls n) (.lst xs) = false := rfl
@[scoped simp] theorem isiD_cls_dic : isiD f (.cls n) (.dic kv) = false := rfl
@[scoped simp] theorem isiD_cls_obj : isiD f (.cls n) (.obj cn fs) = f cn n := rfl
@[scoped simp] theorem isiO_non {t : Ty} : isiO T t .non = some (isiD T.isb t .non) := rfl
@[scoped simp] theorem isiO_bl {t : Ty} : isiO T t (.bl b) = some (isiD T.isb t (.bl b)) := rfl
@[scoped simp] theorem isiO_int {t : Ty} : isiO T t (.int i) = some (isiD T.isb t (.int i)) := rfl
@[scoped simp] theorem isiO_str {t : Ty} : isiO T t (.str x) = some (isiD T.isb t (.str x)) := rfl
@[scoped simp] theorem isiO_tup {t : Ty} : isiO T t (.tup xs) = some (isiD T.isb t (.tup xs)) := rfl
@[scoped simp] theorem isiO_lst {t : Ty} : isiO T t (.lst xs) = some (isiD T.isb t (.lst xs)) := rfl
@[scoped simp] theorem isiO_dic {t : Ty} : isiO T t (.dic kv) = some (isiD T.isb t (.dic kv)) := rfl
@[scoped simp] theorem isiO_obj {t : Ty} : isiO T t (.obj cn fs) = if T.isb cn cn then some (isiD T.isb t (.obj cn fs)) else none := rfl
@[scoped simp] theorem truD_non : truD .non = some false := rfl
@[scoped simp] theorem truD_bl : truD (.bl b) = some b := rfl
@[scoped simp] theorem truD_int : truD (.int i) = some (i != 0) := rfl
@[scoped simp] theorem truD_str : truD (.str x) = if szOk x.length then some ((x.length : Int) != 0) else none := rfl
@[scoped simp] theorem truD_tup : truD (.tup xs) = some (!xs.isEmpty) := rfl
@[scoped simp] theorem truD_lst : truD (.lst xs) = some (!xs.isEmpty) := rfl
@[scoped simp] theorem bltD_len {ds : List D} : bltD rp .len ds = lenD ds := rfl
@[scoped simp] theorem bltD_max2 {ds : List D} : bltD rp .max2 ds = maxD ds := rfl
@[scoped simp] theorem bltD_min2 {ds : List D} : bltD rp .min2 ds = minD ds := rfl
@[scoped simp] theorem bltD_int {ds : List D} : bltD rp .int ds = intD ds := rfl
@[scoped simp] theorem bltD_tuple {ds : List D} : bltD rp .tuple ds = tupleD ds := rfl
@[scoped simp] theorem bltD_list {ds : List D} : bltD rp .list ds = listD ds := rfl
@[scoped simp] theorem bltD_all {ds : List D} : bltD rp .all ds = allD ds := rfl
@[scoped simp] theorem bltD_sum {ds : List D} : bltD rp .sum ds = sumD ds := rfl
@[scoped simp] theorem bltD_repr {ds : List D} : bltD rp .repr ds = reprD rp ds := rfl
@[scoped simp] theorem szOk_def : szOk n = decide (n ≤ 16777216) := rfl
@[scoped simp] theorem reprD_1 : reprD rp [d] = (rp d).map .str := rfl
@[scoped simp] theorem lenD_str : lenD [.str x] = if szOk x.length then some (.int x.length) else none := rfl
@[scoped simp] theorem lenD_tup : lenD [.tup xs] = some (.int xs.length) := rfl
@[scoped simp] theorem lenD_lst : lenD [.lst xs] = some (.int xs.length) := rfl
@[scoped simp] theorem lenD_dic : lenD [.dic kv] = some (.int kv.length) := rfl
@[scoped simp] theorem maxD_2 : maxD [.int i, .int j] = some (.int (if j > i then j else i)) := rfl
@[scoped simp] theorem minD_2 : minD [.int i, .int j] = some (.int (if j < i then j else i)) := rfl
@[scoped simp] theorem intD_int : intD [.int i] = some (.int i) := rfl
@[scoped simp] theorem intD_bl : intD [.bl b] = some (.int (if b then 1 else 0)) := rfl
@[scoped simp] theorem tupleD_lst : tupleD [.lst xs] = some (.tup xs) := rfl
@[scoped simp] theorem tupleD_tup : tupleD [.tup xs] = some (.tup xs) := rfl
@[scoped simp] theorem listD_lst : listD [.lst xs] = some (.lst xs) := rfl
@[scoped simp] theorem listD_tup : listD [.tup xs] = some (.lst xs) := rfl
@[scoped simp] theorem allD_lst : allD [.lst xs] = (allBl xs).map .bl := rfl
@[scoped simp] theorem sumD_lst : sumD [.lst xs] = (sumI xs).map .int := rfl
@[scoped simp] theorem items_tup : items (.tup xs) = some xs := rfl
@[scoped simp] theorem items_lst : items (.lst xs) = some xs := rfl
@[scoped simp] theorem revD_lst : revD (.lst xs) = some (.lst xs.reverse) := rfl
@[scoped simp] theorem negD_int : negD (.int i) = some (.int (-i)) := rfl
@[scoped simp] theorem flat_non : flat n .non = true := by cases n <;> rfl
@[scoped simp] theorem flat_bl : flat n (.bl b) = true := by cases n <;> rfl
@[scoped simp] theorem flat_int : flat n (.int i) = true := by cases n <;> rfl
@[scoped simp] theorem flat_str : flat n (.str x) = true := by cases n <;> rfl
@[scoped simp] theorem flat_tup : flat (n + 1) (.tup xs) = flats n xs := rfl
@[scoped simp] theorem flat_lst : flat (n + 1) (.lst xs) = flats n xs := rfl
@[scoped simp] theorem flats_nil : flats n [] = true := by cases n <;> rfl
@[scoped simp] theorem flats_cons : flats n (d :: xs) = (flat n d && flats n xs) := by cases n <;> rfl
@[scoped simp] theorem allOk_nil : allOk [] = true := rfl
@[scoped simp] theorem allOk_cons : allOk (d :: xs) = (okEq d && allOk xs) := rfl
@[scoped simp] theorem anyEq_nil : anyEq d [] = false := rfl
@[scoped simp] theorem anyEq_cons : anyEq d (d' :: xs) = (eqD d' d || anyEq d xs) := rfl
@[scoped simp] theorem eqDs_nil : eqDs [] [] = true := rfl
@[scoped simp] theorem eqDs_cons : eqDs (d :: xs) (d' :: ys) = (eqD d d' && eqDs xs ys) := rfl
@[scoped simp] theorem eqDs_nc : eqDs [] (d' :: ys) = false := rfl
@[scoped simp] theorem eqDs_cn : eqDs (d :: xs) [] = false := rfl
@[scoped simp] theorem binD_add : binD .Add (.int i) (.int j) = some (.int (i + j)) := rfl
@[scoped simp] theorem binD_sub : binD .Sub (.int i) (.int j) = some (.int (i - j)) := rfl
@[scoped simp] theorem binD_addS : binD .Add (.str x) (.str y) = if szOk (x.length + y.length) then some (.str (x ++ y)) else none := rfl
@[scoped simp] theorem binD_addT : binD .Add (.tup xs) (.tup ys) = if szOk (xs.length + ys.length) then some (.tup (xs ++ ys)) else none := rfl
@[scoped simp] theorem binD_addL : binD .Add (.lst xs) (.lst ys) = if szOk (xs.length + ys.length) then some (.lst (xs ++ ys)) else none := rfl
@[scoped simp] theorem binD_mul : binD .Mult (.int i) (.int j) = if mulOk i j then some (.int (i * j)) else none := rfl
@[scoped simp] theorem binD_mulL : binD .Mult (.lst xs) (.int j) = if decide (-(2 ^ 62) ≤ j) && decide (j < 2 ^ 62) && szOk (xs.length * j.toNat) then some (.lst (List.replicate j.toNat xs).flatten) else none := rfl
@[scoped simp] theorem binD_mulS : binD .Mult (.str x) (.int j) = if decide (0 ≤ j) && decide (j < 1000) && decide (x.length ≤ 1000) then some (.str ⟨(List.replicate j.toNat x.cps.toList).flatten.toArray⟩) else none := rfl
@[scoped simp] theorem binD_div : binD .FloorDiv (.int i) (.int j) = if decide (0 < j) && decide (j < 2 ^ 1000) then some (.int (i / j)) else none := rfl
@[scoped simp] theorem binD_mod : binD .Mod (.int i) (.int j) = if decide (0 < j) then some (.int (i % j)) else none := rfl
@[scoped simp] theorem binD_pow : binD .Pow (.int i) (.int j) = if decide (0 ≤ j) && decide (j ≤ 64) && decide (-(2 ^ 64) < i) && decide (i < 2 ^ 64) then some (.int (i ^ j.toNat)) else none := rfl
@[scoped simp] theorem inD_tup : inD d (.tup ys) = if okEq d && allOk ys then some (anyEq d ys) else none := rfl
@[scoped simp] theorem inD_lst : inD d (.lst ys) = if okEq d && allOk ys then some (anyEq d ys) else none := rfl
@[scoped simp] theorem inD_chr {k : Nat} : inD (.str ⟨#[k]⟩) (.str y) = some (decide (k ∈ y.cps.toList)) := rfl
@[scoped simp] theorem cmpD_eq : cmpD .Eq d d' = if okEq d && okEq d' then some (eqD d d') else none := by cases d <;> cases d' <;> rfl
@[scoped simp] theorem cmpD_ne : cmpD .NotEq d d' = if okEq d && okEq d' then some (!eqD d d') else none := by cases d <;> cases d' <;> rfl
@[scoped simp] theorem cmpD_lt : cmpD .Lt (.int i) (.int j) = some (decide (i < j)) := rfl
@[scoped simp] theorem cmpD_le : cmpD .LtE (.int i) (.int j) = some (decide (i ≤ j)) := rfl
@[scoped simp] theorem cmpD_gt : cmpD .Gt (.int i) (.int j) = some (decide (j < i)) := rfl
@[scoped simp] theorem cmpD_ge : cmpD .GtE (.int i) (.int j) = some (decide (j ≤ i)) := rfl
@[scoped simp] theorem cmpD_in : cmpD .In d d' = inD d d' := by cases d <;> cases d' <;> rfl
@[scoped simp] theorem cmpD_nin : cmpD .NotIn d d' = (inD d d').map (! ·) := by cases d <;> cases d' <;> rfl
def isNonB : D → Bool
  | .non => true
  | _ => false
@[scoped simp] theorem cmpD_is : cmpD .Is d .non = some (isNonB d) := by cases d <;> rfl
@[scoped simp] theorem cmpD_isn : cmpD .IsNot d .non = some (!isNonB d) := by cases d <;> rfl
@[scoped simp] theorem isNonB_non : isNonB .non = true := rfl
@[scoped simp] theorem isNonB_bl : isNonB (.bl b) = false := rfl
@[scoped simp] theorem isNonB_int : isNonB (.int i) = false := rfl
@[scoped simp] theorem isNonB_str : isNonB (.str x) = false := rfl
@[scoped simp] theorem isNonB_tup : isNonB (.tup xs) = false := rfl
@[scoped simp] theorem isNonB_lst : isNonB (.lst xs) = false := rfl
@[scoped simp] theorem isNonB_obj : isNonB (.obj cn fs) = false := rfl
@[scoped simp] theorem ixD_tup : ixD (.tup xs) (.int i) = atI xs i := rfl
@[scoped simp] theorem ixD_lst : ixD (.lst xs) (.int i) = atI xs i := rfl
@[scoped simp] theorem ixD_str : ixD (.str x) (.int i) = if szOk x.length then (atI x.cps.toList i).map fun c => .str ⟨#[c]⟩ else none := rfl
theorem atI_nat {α : Type} {l : List α} {k : Nat} : atI l (k : Int) = l[k]? := by
  unfold atI ixN
  by_cases h : k < l.length
  · simp [h]
  · simp [h]
@[scoped simp] theorem atI_lit {α : Type} {l : List α} {k : Nat} : atI l (no_index (OfNat.ofNat k : Int)) = l[k]? := atI_nat (k := k)
@[scoped simp] theorem atI_0 {α : Type} {l : List α} : atI l 0 = l[0]? := atI_nat (k := 0)
@[scoped simp] theorem atI_1 {α : Type} {l : List α} : atI l 1 = l[1]? := atI_nat (k := 1)
@[scoped simp] theorem atI_2 {α : Type} {l : List α} : atI l 2 = l[2]? := atI_nat (k := 2)
@[scoped simp] theorem atI_3 {α : Type} {l : List α} : atI l 3 = l[3]? := atI_nat (k := 3)
@[scoped simp] theorem atI_m1 {α : Type} {l : List α} : atI l (-1) = l.getLast? := by
  unfold atI ixN
  cases l with
  | nil => rfl
  | cons a l =>
    have : (-1 + ((a :: l).length : Int)).toNat = l.length := by simp; omega
    rw [if_neg (by omega), if_pos (by simp; omega), Option.bind_some, this, List.getLast?_eq_getElem?]
    rfl
@[scoped simp] theorem sIx_none' {k : Nat} : HT.sIx n k none = k := rfl
@[scoped simp] theorem sIx_natS {k l : Nat} : HT.sIx n k (some ((l : Int) + 1)) = min (l + 1) n := HT.sIx_nat n k (l + 1)
@[scoped simp] theorem sIx_natC {k l : Nat} : HT.sIx n k (some (l : Int)) = min l n := HT.sIx_nat n k l
@[scoped simp] theorem sIx_lit {k l : Nat} : HT.sIx n k (some (no_index (OfNat.ofNat l : Int))) = min l n := HT.sIx_nat n k l
@[scoped simp] theorem sIx_0 {k : Nat} : HT.sIx n k (some 0) = 0 := by have := HT.sIx_nat n k 0; simpa using this
@[scoped simp] theorem sIx_1 {k : Nat} : HT.sIx n k (some 1) = min 1 n := HT.sIx_nat n k 1
@[scoped simp] theorem sIx_m1 {k : Nat} : HT.sIx n k (some (-1)) = n - 1 := by
  unfold HT.sIx
  simp
  omega
@[scoped simp] theorem drop_min {α : Type} {l : List α} {k : Nat} : l.drop (min k l.length) = l.drop k := by
  by_cases h : k ≤ l.length
  · rw [Nat.min_eq_left h]
  · rw [Nat.min_eq_right (by omega), List.drop_length, List.drop_eq_nil_of_le (by omega)]
@[scoped simp] theorem take_min {α : Type} {l : List α} {k : Nat} : l.take (min k l.length) = l.take k := by
  by_cases h : k ≤ l.length
  · rw [Nat.min_eq_left h]
  · rw [Nat.min_eq_right (by omega), List.take_length, List.take_of_length_le (by omega)]
@[scoped simp] theorem drop_all {α : Type} {l : List α} {k : Nat} : (l.drop k).take (l.length - min k l.length) = l.drop k := by
  rw [List.take_of_length_le]
  rw [List.length_drop]
  omega
theorem slD_T {lo hi : Option Int} : slD (.tup xs) lo hi = some (.tup ((xs.drop (HT.sIx xs.length 0 lo)).take (HT.sIx xs.length xs.length hi - HT.sIx xs.length 0 lo))) := rfl
@[scoped simp] theorem slD_T_fromS {k : Nat} : slD (.tup xs) (some ((k : Int) + 1)) none = some (.tup (xs.drop (k + 1))) := by simp only [slD_T, sIx_natS, sIx_none', drop_min, drop_all]
@[scoped simp] theorem slD_T_from {k : Nat} : slD (.tup xs) (some (k : Int)) none = some (.tup (xs.drop k)) := by simp only [slD_T, sIx_natC, sIx_none', drop_min, drop_all]
@[scoped simp] theorem slD_T_fromL {k : Nat} : slD (.tup xs) (some (no_index (OfNat.ofNat k : Int))) none = some (.tup (xs.drop k)) := slD_T_from
@[scoped simp] theorem slD_T_to {k : Nat} : slD (.tup xs) none (some (k : Int)) = some (.tup (xs.take k)) := by simp only [slD_T, sIx_natC, sIx_none', List.drop_zero, Nat.sub_zero, take_min]
@[scoped simp] theorem slD_T_toL {k : Nat} : slD (.tup xs) none (some (no_index (OfNat.ofNat k : Int))) = some (.tup (xs.take k)) := slD_T_to
@[scoped simp] theorem slD_T_m1 : slD (.tup xs) none (some (-1)) = some (.tup xs.dropLast) := by simp only [slD_T, sIx_m1, sIx_none', List.drop_zero, Nat.sub_zero, List.dropLast_eq_take]
theorem slD_L {lo hi : Option Int} : slD (.lst xs) lo hi = some (.lst ((xs.drop (HT.sIx xs.length 0 lo)).take (HT.sIx xs.length xs.length hi - HT.sIx xs.length 0 lo))) := rfl
@[scoped simp] theorem slD_L_fromS {k : Nat} : slD (.lst xs) (some ((k : Int) + 1)) none = some (.lst (xs.drop (k + 1))) := by simp only [slD_L, sIx_natS, sIx_none', drop_min, drop_all]
@[scoped simp] theorem slD_L_from {k : Nat} : slD (.lst xs) (some (k : Int)) none = some (.lst (xs.drop k)) := by simp only [slD_L, sIx_natC, sIx_none', drop_min, drop_all]
@[scoped simp] theorem slD_L_fromL {k : Nat} : slD (.lst xs) (some (no_index (OfNat.ofNat k : Int))) none = some (.lst (xs.drop k)) := slD_L_from
@[scoped simp] theorem slD_L_to {k : Nat} : slD (.lst xs) none (some (k : Int)) = some (.lst (xs.take k)) := by simp only [slD_L, sIx_natC, sIx_none', List.drop_zero, Nat.sub_zero, take_min]
@[scoped simp] theorem slD_L_toL {k : Nat} : slD (.lst xs) none (some (no_index (OfNat.ofNat k : Int))) = some (.lst (xs.take k)) := slD_L_to
@[scoped simp] theorem slD_L_m1 : slD (.lst xs) none (some (-1)) = some (.lst xs.dropLast) := by simp only [slD_L, sIx_m1, sIx_none', List.drop_zero, Nat.sub_zero, List.dropLast_eq_take]
@[scoped simp] theorem charsEq {k : Nat} : Str.length ⟨#[k]⟩ = 1 := rfl
@[scoped simp] theorem eqD_non_non : eqD .non .non = true := rfl
@[scoped simp] theorem eqD_non_bl : eqD .non (.bl c) = false := rfl
@[scoped simp] theorem eqD_non_int : eqD .non (.int j) = false := rfl
@[scoped simp] theorem eqD_non_str : eqD .non (.str y) = false := rfl
@[scoped simp] theorem eqD_non_tup : eqD .non (.tup ys) = false := rfl
@[scoped simp] theorem eqD_non_lst : eqD .non (.lst ys) = false := rfl
@[scoped simp] theorem eqD_non_dic : eqD .non (.dic kw) = false := rfl
@[scoped simp] theorem eqD_non_obj : eqD .non (.obj cm gs) = false := rfl
@[scoped simp] theorem eqD_bl_non : eqD (.bl b) .non = false := rfl
@[scoped simp] theorem eqD_bl_bl : eqD (.bl b) (.bl c) = (b == c) := rfl
@[scoped simp] theorem eqD_bl_int : eqD (.bl b) (.int j) = ((if b then 1 else 0) == j) := rfl
@[scoped simp] theorem eqD_bl_str : eqD (.bl b) (.str y) = false := rfl
@[scoped simp] theorem eqD_bl_tup : eqD (.bl b) (.tup ys) = false := rfl
@[scoped simp] theorem eqD_bl_lst : eqD (.bl b) (.lst ys) = false := rfl
@[scoped simp] theorem eqD_bl_dic : eqD (.bl b) (.dic kw) = false := rfl
@[scoped simp] theorem eqD_bl_obj : eqD (.bl b) (.obj cm gs) = false := rfl
@[scoped simp] theorem eqD_int_non : eqD (.int i) .non = false := rfl
@[scoped simp] theorem eqD_int_bl : eqD (.int i) (.bl c) = (i == (if c then 1 else 0)) := rfl
@[scoped simp] theorem eqD_int_int : eqD (.int i) (.int j) = (i == j) := rfl
@[scoped simp] theorem eqD_int_str : eqD (.int i) (.str y) = false := rfl
@[scoped simp] theorem eqD_int_tup : eqD (.int i) (.tup ys) = false := rfl
@[scoped simp] theorem eqD_int_lst : eqD (.int i) (.lst ys) = false := rfl
@[scoped simp] theorem eqD_int_dic : eqD (.int i) (.dic kw) = false := rfl
@[scoped simp] theorem eqD_int_obj : eqD (.int i) (.obj cm gs) = false := rfl
@[scoped simp] theorem eqD_str_non : eqD (.str x) .non = false := rfl
@[scoped simp] theorem eqD_str_bl : eqD (.str x) (.bl c) = false := rfl
@[scoped simp] theorem eqD_str_int : eqD (.str x) (.int j) = false := rfl
@[scoped simp] theorem eqD_str_str : eqD (.str x) (.str y) = decide (x = y) := rfl
@[scoped simp] theorem eqD_str_tup : eqD (.str x) (.tup ys) = false := rfl
@[scoped simp] theorem eqD_str_lst : eqD (.str x) (.lst ys) = false := rfl
@[scoped simp] theorem eqD_str_dic : eqD (.str x) (.dic kw) = false := rfl
@[scoped simp] theorem eqD_str_obj : eqD (.str x) (.obj cm gs) = false := rfl
@[scoped simp] theorem eqD_tup_non : eqD (.tup xs) .non = false := rfl
@[scoped simp] theorem eqD_tup_bl : eqD (.tup xs) (.bl c) = false := rfl
@[scoped simp] theorem eqD_tup_int : eqD (.tup xs) (.int j) = false := rfl
@[scoped simp] theorem eqD_tup_str : eqD (.tup xs) (.str y) = false := rfl
@[scoped simp] theorem eqD_tup_tup : eqD (.tup xs) (.tup ys) = eqDs xs ys := rfl
@[scoped simp] theorem eqD_tup_lst : eqD (.tup xs) (.lst ys) = false := rfl
@[scoped simp] theorem eqD_tup_dic : eqD (.tup xs) (.dic kw) = false := rfl
@[scoped simp] theorem eqD_tup_obj : eqD (.tup xs) (.obj cm gs) = false := rfl
@[scoped simp] theorem eqD_lst_non : eqD (.lst xs) .non = false := rfl
@[scoped simp] theorem eqD_lst_bl : eqD (.lst xs) (.bl c) = false := rfl
@[scoped simp] theorem eqD_lst_int : eqD (.lst xs) (.int j) = false := rfl
@[scoped simp] theorem eqD_lst_str : eqD (.lst xs) (.str y) = false := rfl
@[scoped simp] theorem eqD_lst_tup : eqD (.lst xs) (.tup ys) = false := rfl
@[scoped simp] theorem eqD_lst_lst : eqD (.lst xs) (.lst ys) = eqDs xs ys := rfl
@[scoped simp] theorem eqD_lst_dic : eqD (.lst xs) (.dic kw) = false := rfl
@[scoped simp] theorem eqD_lst_obj : eqD (.lst xs) (.obj cm gs) = false := rfl
@[scoped simp] theorem eqD_dic_non : eqD (.dic kv) .non = false := rfl
@[scoped simp] theorem eqD_dic_bl : eqD (.dic kv) (.bl c) = false := rfl
@[scoped simp] theorem eqD_dic_int : eqD (.dic kv) (.int j) = false := rfl
@[scoped simp] theorem eqD_dic_str : eqD (.dic kv) (.str y) = false := rfl
@[scoped simp] theorem eqD_dic_tup : eqD (.dic kv) (.tup ys) = false := rfl
@[scoped simp] theorem eqD_dic_lst : eqD (.dic kv) (.lst ys) = false := rfl
@[scoped simp] theorem eqD_dic_dic : eqD (.dic kv) (.dic kw) = false := rfl
@[scoped simp] theorem eqD_dic_obj : eqD (.dic kv) (.obj cm gs) = false := rfl
@[scoped simp] theorem eqD_obj_non : eqD (.obj cn fs) .non = false := rfl
@[scoped simp] theorem eqD_obj_bl : eqD (.obj cn fs) (.bl c) = false := rfl
@[scoped simp] theorem eqD_obj_int : eqD (.obj cn fs) (.int j) = false := rfl
@[scoped simp] theorem eqD_obj_str : eqD (.obj cn fs) (.str y) = false := rfl
@[scoped simp] theorem eqD_obj_tup : eqD (.obj cn fs) (.tup ys) = false := rfl
@[scoped simp] theorem eqD_obj_lst : eqD (.obj cn fs) (.lst ys) = false := rfl
@[scoped simp] theorem eqD_obj_dic : eqD (.obj cn fs) (.dic kw) = false := rfl
@[scoped simp] theorem eqD_obj_obj : eqD (.obj cn fs) (.obj cm gs) = false := rfl
end
end TD
set_option Elab.async false
set_option linter.all false
set_option maxRecDepth 100000
set_option maxHeartbeats 2000000
/-! what the common defs compute: frames, draws -/
namespace LW
open PySem L2 TD
theorem okCut_mono {b b' : Nat} (h : b ≤ b') : ∀ {M : Mem}, okCut b M = true → okCut b' M = true
  | [], _ => rfl
  | .ins c fs :: r, q => by
    unfold okCut at q ⊢
    rw [Bool.and_eq_true] at q ⊢
    refine ⟨?_, okCut_mono h q.2⟩
    rw [List.all_eq_true] at q ⊢
    intro f hf
    have := q.1 f hf
    cases e : f.2 with
    | d x => rfl
    | loc n =>
      rw [e] at this
      simp [noLoc] at this ⊢
      omega
  | .lst _ :: r, q => okCut_mono h (M := r) q
  | .dic _ :: r, q => okCut_mono h (M := r) q
  | .frz _ :: r, q => okCut_mono h (M := r) q
  | .scr _ :: r, q => okCut_mono h (M := r) q
theorem okCut_app {b : Nat} : ∀ {M N : Mem}, okCut b M = true → okCut b N = true → okCut b (M ++ N) = true
  | [], _, _, q => q
  | .ins c fs :: r, N, q, q2 => by
    show okCut b (.ins c fs :: (r ++ N)) = true
    unfold okCut at q ⊢
    rw [Bool.and_eq_true] at q ⊢
    exact ⟨q.1, okCut_app q.2 q2⟩
  | .lst _ :: r, N, q, q2 => okCut_app (M := r) q q2
  | .dic _ :: r, N, q, q2 => okCut_app (M := r) q q2
  | .frz _ :: r, N, q, q2 => okCut_app (M := r) q q2
  | .scr _ :: r, N, q, q2 => okCut_app (M := r) q q2
def MOk (M : Mem) : Prop := okCut M.length M = true
theorem MOk.app {M N : Mem} (h : MOk M) (h2 : okCut (M ++ N).length N = true) : MOk (M ++ N) :=
  okCut_app (okCut_mono (by simp) h) h2
theorem MOk.lst {M : Mem} {xs : List D} (h : MOk M) : MOk (M ++ [.lst xs]) := h.app rfl
theorem MOk.ins {M : Mem} {c : Nat} (h : MOk M) : MOk (M ++ [.ins c []]) := h.app rfl
theorem okCut_set {b : Nat} {mo : MO} (hm : okCut b [mo] = true) : ∀ {M : Mem} {p : Nat}, okCut b M = true → okCut b (M.set p mo) = true
  | [], _, h => h
  | x :: M, 0, h => by
    have h2 : okCut b M = true := by
      cases x with
      | ins c fs => unfold okCut at h; rw [Bool.and_eq_true] at h; exact h.2
      | _ => exact h
    exact okCut_app (M := [mo]) hm h2
  | x :: M, p + 1, h => by
    show okCut b (x :: M.set p mo) = true
    cases x with
    | ins c fs =>
      unfold okCut at h ⊢
      rw [Bool.and_eq_true] at h ⊢
      exact ⟨h.1, okCut_set hm h.2⟩
    | _ => exact okCut_set hm (M := M) h
theorem MOk.set {M : Mem} {p : Nat} {xs : List D} (h : MOk M) : MOk (M.set p (.lst xs)) := by
  unfold MOk at *
  rw [List.length_set]
  exact okCut_set rfl h
theorem call_fn {P : Prg} {n f : Nat} {F : Fn} {vs : List Vl} {M : Mem} (hF : P.fn f = some F) (hs : F.star = false) (hl : vs.length = F.np) :
    callN P (n + 1) (.fn f) vs M = endF M.length F.mode (runSs P.T P.rp P.XT (callN P n) F.body ⟨vs.map some ++ List.replicate F.ns none, none⟩ M) := by
  show (match P.fn f with
    | none => none
    | some F => match bindF F vs M with
      | some (.ok ws, M0) => endF M.length F.mode (runSs P.T P.rp P.XT (callN P n) F.body ⟨ws.map some ++ List.replicate F.ns none, none⟩ M0)
      | _ => none) = _
  rw [hF]
  simp only [bindF, hs, hl, if_true, Bool.false_eq_true, if_false]
  rfl
theorem call_star {P : Prg} {n f : Nat} {F : Fn} {vs : List Vl} {xs : List D} {M : Mem} (hF : P.fn f = some F) (hs : F.star = true) (hl : vs.length = F.np) (hx : xs.length ≤ 16777216) :
    callN P (n + 1) (.fn f) (vs ++ xs.map Vl.d) M = endF M.length F.mode (runSs P.T P.rp P.XT (callN P n) F.body ⟨(vs ++ [Vl.d (.tup xs)]).map some ++ List.replicate F.ns none, none⟩ M) := by
  show (match P.fn f with
    | none => none
    | some F => match bindF F (vs ++ xs.map Vl.d) M with
      | some (.ok ws, M0) => endF M.length F.mode (runSs P.T P.rp P.XT (callN P n) F.body ⟨ws.map some ++ List.replicate F.ns none, none⟩ M0)
      | _ => none) = _
  rw [hF]
  have : bindF F (vs ++ xs.map Vl.d) M = some (.ok (vs ++ [Vl.d (.tup xs)]), M) := by
    unfold bindF
    rw [if_pos hs, if_pos (by simp; omega), ← hl, List.drop_left, List.take_left]
    show EM.bind (toDs (xs.map Vl.d)) _ M = _
    rw [bind_at, toDs_map, bR_ok, if_pos (by simp [szOk, hx])]
    rfl
  simp only [this]
def mkEnd (b : Nat) (fz : Bool) (r : Option (Res Vl × Mem)) : Option (Res Vl × Mem) :=
  match r with
  | some (.ok (.d .non), M1) => if fz then match freeze b M1 with
      | some (.ok d, M2) => if okCut b (M2.take b) then some (.ok (.d d), M2.take b) else none
      | _ => none
    else some (.ok (.loc b), M1)
  | some (.ex x, M1) => if okCut b (M1.take b) then some (.ex x, M1.take b) else none
  | _ => none
theorem call_mk {P : Prg} {n c : Nat} {C : Cd} {vs : List Vl} {M : Mem} (hC : P.cd c = some C) : callN P (n + 1) (.mk c) vs M = mkEnd M.length C.frz (callN P n (.fn C.init) (.loc M.length :: vs) (M ++ [.ins c []])) := by
  conv => lhs; unfold callN
  simp only [hC]
  generalize callN P n (.fn C.init) (.loc M.length :: vs) (M ++ [.ins c []]) = r
  rcases r with _ | ⟨r, M1⟩
  · rfl
  · rcases r with v | x
    · rcases v with d | l
      · cases d with
        | non =>
          unfold mkEnd
          cases C.frz
          · rfl
          · first
            | rfl
            | (simp only [if_true]
               generalize freeze M.length M1 = q
               rcases q with _ | ⟨q, M2⟩
               · rfl
               · cases q <;> rfl)
        | _ => rfl
      · rfl
    · rfl
theorem end_d {M E : Mem} {d : D} (h : MOk M) : endF M.length 0 (some (.ret (.d d), M ++ E)) = some (.ok (.d d), M) := by
  simp [endF, fin, MOk] at *
  simp [h]
theorem end_d0 {M : Mem} {d : D} (h : MOk M) : endF M.length 0 (some (.ret (.d d), M)) = some (.ok (.d d), M) := by
  have := end_d (E := []) (d := d) h
  simpa using this
theorem end_n0 {M : Mem} {e : TD.Env} (h : MOk M) : endF M.length 0 (some (.next e, M)) = some (.ok (.d .non), M) := by
  simp [endF, fin, MOk] at *
  simp [h]
theorem end_x {M E : Mem} {x : Xc} {e : TD.Env} {m : Nat} (h : MOk M) : endF M.length m (some (.ex x e, M ++ E)) = some (.ex x, M) := by
  simp [endF, MOk] at *
  simp [h]
theorem end_x0 {M : Mem} {x : Xc} {e : TD.Env} {m : Nat} (h : MOk M) : endF M.length m (some (.ex x e, M)) = some (.ex x, M) := by
  simp [endF, MOk] at *
  simp [h]
/-- the frame's memory has the same length, what lay there may have changed -/
theorem end_dM {b : Nat} {M : Mem} {d : D} (h : MOk M) (hb : M.length = b) : endF b 0 (some (.ret (.d d), M)) = some (.ok (.d d), M) := by
  subst hb
  exact end_d0 h
theorem end_loc {M E : Mem} {xs : List D} (h : MOk M) : endF M.length 0 (some (.ret (.loc M.length), M ++ .lst xs :: E)) = some (.ok (.d (.lst xs)), M) := by
  simp [endF, fin, MOk] at *
  simp [h, freeze]
theorem lc_map {α : Type} {f : D → EM (Option D)} {g : α → D} {h : α → D} {M : Mem} : ∀ (l : List α), (∀ c ∈ l, f (g c) M = some (.ok (some (h c)), M)) → lcGo f (l.map g) M = some (.ok (l.map h), M)
  | [], _ => rfl
  | x :: xs, q => by
    show EM.bind (noEx (f (g x))) (fun o => EM.bind (lcGo f (xs.map g)) fun ys => EM.pure (match o with | some y => y :: ys | none => ys)) M = _
    have : noEx (f (g x)) M = some (.ok (some (h x)), M) := by unfold noEx; rw [q x (List.mem_cons_self ..)]
    rw [bind_at, this, bR_ok, bind_at, lc_map xs fun y hy => q y (List.mem_cons_of_mem _ hy), bR_ok]
    rfl
theorem lc_filt {α : Type} {f : D → EM (Option D)} {g : α → D} {h : α → D} {q : α → Bool} {M : Mem} : ∀ (l : List α), (∀ c ∈ l, f (g c) M = some (.ok (if q c then some (h c) else none), M)) → lcGo f (l.map g) M = some (.ok ((l.filter q).map h), M)
  | [], _ => rfl
  | x :: xs, w => by
    show EM.bind (noEx (f (g x))) (fun o => EM.bind (lcGo f (xs.map g)) fun ys => EM.pure (match o with | some y => y :: ys | none => ys)) M = _
    have : noEx (f (g x)) M = some (.ok (if q x then some (h x) else none), M) := by unfold noEx; rw [w x (List.mem_cons_self ..)]
    rw [bind_at, this, bR_ok, bind_at, lc_filt xs fun y hy => w y (List.mem_cons_of_mem _ hy), bR_ok, List.filter_cons]
    cases q x <;> rfl
def consO (o : Option D) (ys : List D) : List D := match o with | some y => y :: ys | none => ys
/-- a comprehension with state -/
theorem lc_st {f : D → EM (Option D)} (I : Mem → Prop) (R : D → Prop) (st : ∀ x M, I M → ∃ o M', f x M = some (.ok o, M') ∧ I M' ∧ ∀ y, o = some y → R y) :
    ∀ (xs : List D) (M : Mem), I M → ∃ ys M', lcGo f xs M = some (.ok ys, M') ∧ I M' ∧ ys.length ≤ xs.length ∧ ∀ y ∈ ys, R y
  | [], M, h => ⟨[], M, rfl, h, Nat.le_refl _, fun y hy => by simp at hy⟩
  | x :: xs, M, h => by
    obtain ⟨o, M1, h1, h2, h3⟩ := st x M h
    obtain ⟨ys, M2, h4, h5, h6, h7⟩ := lc_st I R st xs M1 h2
    have : noEx (f x) M = some (.ok o, M1) := by unfold noEx; rw [h1]
    refine ⟨consO o ys, M2, ?_, h5, ?_, ?_⟩
    · show EM.bind (noEx (f x)) (fun o => EM.bind (lcGo f xs) fun ys => EM.pure (match o with | some y => y :: ys | none => ys)) M = _
      rw [bind_at, this, bR_ok, bind_at, h4, bR_ok]
      rfl
    · cases o with
      | none => simp [consO]; omega
      | some y => simp [consO]; omega
    · cases o with
      | none => exact h7
      | some y =>
        intro z hz
        rcases List.mem_cons.mp hz with e | e
        · rw [e]; exact h3 y rfl
        · exact h7 z e
theorem allBl_map {α : Type} {p : α → Bool} : ∀ (l : List α), allBl (l.map fun c => D.bl (p c)) = some (l.all p)
  | [] => rfl
  | c :: l => by
    show (allBl (l.map fun c => D.bl (p c))).map (p c && ·) = _
    rw [allBl_map l]
    rfl
mutual
/-- small data -/
def sm : Nat → D → Bool
  | _, .non => true
  | _, .bl _ => true
  | _, .int _ => true
  | _, .str x => decide (x.length ≤ 1000)
  | n + 1, .tup xs => decide (xs.length ≤ 1000) && sms n xs
  | n + 1, .lst xs => decide (xs.length ≤ 1000) && sms n xs
  | _, _ => false
def sms : Nat → List D → Bool
  | _, [] => true
  | n, x :: xs => sm n x && sms n xs
end
mutual
theorem sm_flat : ∀ {n m : Nat} {x : D}, n ≤ m → sm n x = true → flat m x = true
  | _, _, .non, _, _ => by simp
  | _, _, .bl _, _, _ => by simp
  | _, _, .int _, _, _ => by simp
  | _, _, .str _, _, _ => by simp
  | 0, _, .tup _, _, h => by simp [sm] at h
  | 0, _, .lst _, _, h => by simp [sm] at h
  | n + 1, m + 1, .tup xs, l, h => by
    simp [sm] at h
    simp
    exact sms_flats (by omega) h.2
  | n + 1, m + 1, .lst xs, l, h => by
    simp [sm] at h
    simp
    exact sms_flats (by omega) h.2
  | n, _, .dic _, _, h => by cases n <;> simp [sm] at h
  | n, _, .obj _ _, _, h => by cases n <;> simp [sm] at h
theorem sms_flats : ∀ {n m : Nat} {x : List D}, n ≤ m → sms n x = true → flats m x = true
  | _, _, [], _, _ => by simp
  | n, m, x :: xs, l, h => by
    simp [sms] at h
    simp
    exact ⟨sm_flat l h.1, sms_flats l h.2⟩
end
theorem sms_mem {n : Nat} : ∀ {xs : List D}, sms n xs = true ↔ ∀ x ∈ xs, sm n x = true
  | [] => by simp [sms]
  | x :: xs => by simp [sms, sms_mem (xs := xs)]
theorem allOk_of : ∀ {xs : List D}, (∀ x ∈ xs, flat 20 x = true) → allOk xs = true
  | [], _ => rfl
  | x :: xs, h => by
    simp
    exact ⟨h x (List.mem_cons_self ..), allOk_of fun y hy => h y (List.mem_cons_of_mem _ hy)⟩
theorem flats_mem {n : Nat} : ∀ {xs : List D}, flats n xs = true ↔ ∀ x ∈ xs, flat n x = true
  | [] => by simp
  | x :: xs => by simp [flats_mem (xs := xs)]
end LW
namespace LW
open PySem L2 TD
def aR {β : Type} (o : Option TD.Env) (k : TD.Env → Option β) : Option β :=
  match o with
  | none => none
  | some e => k e
def nR (r : Option (Flw × Mem)) (k : TD.Env → Mem → Option (Flw × Mem)) : Option (Flw × Mem) :=
  match r with
  | none => none
  | some (.next e, M) => k e M
  | some (.cnt e, M) => k e M
  | some (.brk e, M) => some (.next e, M)
  | some (.ret v, M) => some (.ret v, M)
  | some (.ex x e, M) => some (.ex x e, M)
section
variable {β : Type} {k : TD.Env → Option β} {kt : TD.Env → Mem → Option (Flw × Mem)} {e : TD.Env} {M : Mem} {v : Vl} {x : Xc}
@[scoped simp] theorem aR_some : aR (some e) k = k e := rfl
@[scoped simp] theorem nR_next : nR (some (.next e, M)) kt = kt e M := rfl
@[scoped simp] theorem nR_cnt : nR (some (.cnt e, M)) kt = kt e M := rfl
@[scoped simp] theorem nR_brk : nR (some (.brk e, M)) kt = some (.next e, M) := rfl
@[scoped simp] theorem nR_ret : nR (some (.ret v, M)) kt = some (.ret v, M) := rfl
@[scoped simp] theorem nR_ex : nR (some (.ex x e, M)) kt = some (.ex x e, M) := rfl
@[scoped simp] theorem nR_none : nR none kt = none := rfl
@[scoped simp] theorem nR_ite {c : Prop} [Decidable c] {r r' : Option (Flw × Mem)} : nR (if c then r else r') kt = if c then nR r kt else nR r' kt := by split <;> rfl
@[scoped simp] theorem forR_nil {T : Tab} {rp : D → Option Str} {XT : XTab} {cl : Cl} {g : CG} {b : CSs} : forR T rp XT cl g b [] e M = some (.next e, M) := rfl
@[scoped simp] theorem forR_cons {T : Tab} {rp : D → Option Str} {XT : XTab} {cl : Cl} {g : CG} {b : CSs} {y : D} {ys : List D} : forR T rp XT cl g b (y :: ys) e M = aR (asg g y e) fun e1 => nR (runSs T rp XT cl b e1 M) fun e2 M2 => forR T rp XT cl g b ys e2 M2 := rfl
end
/-! ### numbers drawn -/
theorem rngGo_eq : ∀ (n : Nat) (k : Nat), rngGo n (k : Int) = (List.range' k n).map fun i => D.int (i : Nat)
  | 0, _ => rfl
  | n + 1, k => by
    show D.int k :: rngGo n ((k : Int) + 1) = _
    have := rngGo_eq n (k + 1)
    rw [List.range'_succ, List.map_cons, ← this]
    rfl
/-- drawn numbers for sizes -/
def Drawn (vs ss : List Int) : Prop := vs.length = ss.length ∧ ∀ (i : Nat) (v s : Int), vs[i]? = some v → ss[i]? = some s → 0 ≤ v ∧ v < s
theorem mulOk_r {i j : Int} (h1 : -(2 ^ 64) < j) (h2 : j < 2 ^ 64) : mulOk i j = true := by
  simp only [mulOk, Bool.or_eq_true, Bool.and_eq_true, decide_eq_true_eq]
  exact .inr ⟨h1, h2⟩
theorem mulOk_l {i j : Int} (h1 : -(2 ^ 64) < i) (h2 : i < 2 ^ 64) : mulOk i j = true := by
  simp only [mulOk, Bool.or_eq_true, Bool.and_eq_true, decide_eq_true_eq]
  exact .inl ⟨h1, h2⟩
@[scoped simp] theorem lstE_last {M : Mem} {xs : List D} : lstE (.loc M.length) (M ++ [.lst xs]) = some (.ok (), M ++ [.lst xs]) := by
  simp [lstE, peek]
@[scoped simp] theorem mutV_app {M : Mem} {xs : List D} {v : D} : mutV .append (.loc M.length) [.d v] (M ++ [.lst xs]) = if xs.length < 16777216 then some (.ok (), M ++ [.lst (xs ++ [v])]) else none := by
  simp [mutV]
@[scoped simp] theorem mutV_ext {M : Mem} {xs ys : List D} : mutV .extend (.loc M.length) [.d (.lst ys)] (M ++ [.lst xs]) = if xs.length + ys.length ≤ 16777216 then some (.ok (), M ++ [.lst (xs ++ ys)]) else none := by
  simp [mutV]
theorem Drawn.snoc {vs ss : List Int} {k : Nat} {v s : Int} (h : Drawn vs (ss.take k)) (hk : ss[k]? = some s) (h0 : 0 ≤ v) (h1 : v < s) : Drawn (vs ++ [v]) (ss.take (k + 1)) := by
  have hk1 : k < ss.length := (List.getElem?_eq_some_iff.mp hk).1
  have hl : vs.length = k := by
    have := h.1
    rw [List.length_take] at this
    omega
  refine ⟨by simp [hl]; omega, fun i v' s' e1 e2 => ?_⟩
  by_cases hi : i < k
  · rw [List.getElem?_append_left (by omega)] at e1
    rw [List.getElem?_take_of_lt (by omega)] at e2
    exact h.2 i v' s' e1 (by rw [List.getElem?_take_of_lt hi]; exact e2)
  · have hik : i = k := by
      have := (List.getElem?_eq_some_iff.mp e1).1
      simp at this
      omega
    subst hik
    rw [List.getElem?_append_right (by omega)] at e1
    simp [hl] at e1
    rw [List.getElem?_take_of_lt (by omega), hk] at e2
    cases e2
    subst e1
    exact ⟨h0, h1⟩
theorem numbers_ok {n : Nat} {M : Mem} (hM : MOk M) (cell salt : Int) (ss : List Int) (hs0 : 0 ≤ salt) (hs1 : salt ≤ 1000000) (hl : ss.length ≤ 1000) (hp : ∀ s ∈ ss, 0 < s ∧ s < 2 ^ 1000) :
    ∃ vs : List Int, callN prg (n + 1) (.fn 25) [.d (.int cell), .d (.int salt), .d (.lst (ss.map .int))] M = some (.ok (.d (.lst (vs.map .int))), M) ∧ Drawn vs ss := by
  rw [call_fn (F := ⟨3, 5, c__law_numbers, 0, false⟩) rfl rfl rfl]
  unfold c__law_numbers
  have q1 : (ss.length : Int) ≤ 16777216 := by omega
  simp [szOk_of, q1]
  generalize hw : (if cell < -1 - cell then -1 - cell else cell) = whole
  obtain ⟨f, M', hr, hq⟩ := for_inv (T := prg.T) (rp := prg.rp) (XT := prg.XT) (cl := callN prg n) (g := .name 6) (b := l__law_numbers_1)
    (Q := fun f M' => ∃ vs : List Int, ∃ e, f = .next ⟨e, none⟩ ∧ e[5]? = some (some (.loc M.length)) ∧ M' = M ++ [.lst (vs.map .int)] ∧ Drawn vs ss)
    (fun xs e M' => ∃ (k : Nat) (vs : List Int) (left : Int) (a b : Option Vl), k ≤ ss.length ∧ xs = (List.range' k (ss.length - k)).map (fun i => D.int (i : Nat)) ∧
      e = ⟨[some (.d (.int cell)), some (.d (.int salt)), some (.d (.lst (ss.map .int))), some (.d (.int whole)), some (.d (.int left)), some (.loc M.length), a, b], none⟩ ∧ M' = M ++ [.lst (vs.map .int)] ∧ Drawn vs (ss.take k))
    (by
      rintro x xs e M' ⟨k, vs, left, a, b, hk, hxs, rfl, rfl, hd⟩
      obtain ⟨m, hm⟩ : ∃ m, ss.length - k = m + 1 := by
        cases q : ss.length - k with
        | zero => rw [q] at hxs; simp at hxs
        | succ m => exact ⟨m, rfl⟩
      rw [hm, List.range'_succ, List.map_cons] at hxs
      injection hxs with h1 h2
      subst h1
      obtain ⟨s, hs⟩ : ∃ s, ss[k]? = some s := ⟨_, List.getElem?_eq_getElem (by omega)⟩
      obtain ⟨hp1, hp2⟩ := hp s (List.mem_of_getElem? hs)
      have hvl : vs.length = k := by
        have := hd.1
        rw [List.length_take] at this
        omega
      have hat : atI (ss.map D.int) (k : Int) = some (D.int s) := by rw [TD.atI_nat, List.getElem?_map, hs]; rfl
      have hp2' : decide (s < 2 ^ 1000) = true := by simpa using hp2
      refine ⟨_, rfl, ?_⟩
      unfold l__law_numbers_1
      have hvl2 : vs.length < 16777216 := by omega
      by_cases c1 : (1000000000000000000 : Int) ≤ whole ∧ 0 < left
      · refine ⟨_, _, by simp [c1.1, c1.2, hat, hp1, hp2, hvl2]; exact ⟨rfl, rfl⟩, ?_⟩
        refine ⟨k + 1, vs ++ [left % s], left / s, some (.d (.int k)), b, by omega, ?_, rfl, by simp, hd.snoc hs (Int.emod_nonneg _ (by omega)) (Int.emod_lt_of_pos _ hp1)⟩
        rw [h2]
        congr 2
        omega
      · have c2 : ¬ (1000000000000000000 : Int) ≤ whole ∨ ¬ 0 < left := by
          by_cases z : (1000000000000000000 : Int) ≤ whole
          · exact .inr fun y => c1 ⟨z, y⟩
          · exact .inl z
        have m1 : mulOk 7919 salt = true := mulOk_l (by decide) (by decide)
        have m2 : mulOk 104729 ((k : Int) + 1) = true := mulOk_l (by decide) (by decide)
        have m3 : ∀ x, mulOk x ((k : Int) + 3) = true := fun x => mulOk_r (by omega) (by omega)
        have m4 : ∀ x, mulOk x 48271 = true := fun x => mulOk_r (by decide) (by decide)
        have a0 := Int.emod_nonneg whole (show (2147483629 : Int) ≠ 0 by decide)
        have a1 := Int.emod_lt_of_pos whole (show (0 : Int) < 2147483629 by decide)
        have b1 : -18446744073709551616 < whole % 2147483629 + 7919 * salt + 1 := by omega
        have b2 : whole % 2147483629 + 7919 * salt + 1 < 18446744073709551616 := by omega
        have b3 : ∀ x : Int, -18446744073709551616 < x % 2147483629 := fun x => by
          have := Int.emod_nonneg x (show (2147483629 : Int) ≠ 0 by decide)
          omega
        have b4 : ∀ x : Int, x % 2147483629 < 18446744073709551616 := fun x => by
          have := Int.emod_lt_of_pos x (show (0 : Int) < 2147483629 by decide)
          omega
        have b5 : decide ((16 : Int) < 2 ^ 1000) = true := by decide +kernel
        have key : ∃ v : Int, 0 ≤ v ∧ v < s ∧ ∃ z, runSs prg.T prg.rp prg.XT (callN prg n) l__law_numbers_1 ⟨[some (.d (.int cell)), some (.d (.int salt)), some (.d (.lst (ss.map .int))), some (.d (.int whole)), some (.d (.int left)), some (.loc M.length), some (.d (.int k)), b], none⟩ (M ++ [.lst (vs.map .int)]) = some (.next ⟨[some (.d (.int cell)), some (.d (.int salt)), some (.d (.lst (ss.map .int))), some (.d (.int whole)), some (.d (.int left)), some (.loc M.length), some (.d (.int k)), z], none⟩, M ++ [.lst (vs.map .int ++ [.int v])]) := by
          unfold l__law_numbers_1
          refine ⟨(((((whole % 2147483629 + 7919 * salt + 1) ^ 3 % 2147483647 + 104729 * ((k : Int) + 1)) * ((k : Int) + 3) % 2147483629) ^ 5 % 2147483647 * 48271 % 2147483629) / 16) % s, Int.emod_nonneg _ (by omega), Int.emod_lt_of_pos _ hp1, some (.d (.int ((((whole % 2147483629 + 7919 * salt + 1) ^ 3 % 2147483647 + 104729 * ((k : Int) + 1)) * ((k : Int) + 3) % 2147483629) ^ 5 % 2147483647 * 48271 % 2147483629))), ?_⟩
          have b5' : (16 : Int) < 2 ^ 1000 := of_decide_eq_true b5
          rcases c2 with c2 | c2
          · simp [c2, hat, hp1, hp2, hvl2, m1, m2, m3, m4, b1, b2, b3, b4, b5']
          · simp [c2, hat, hp1, hp2, hvl2, m1, m2, m3, m4, b1, b2, b3, b4, b5']
        obtain ⟨v, v0, v1, z, hrun⟩ := key
        refine ⟨_, _, hrun, ?_⟩
        refine ⟨k + 1, vs ++ [v], left, some (.d (.int k)), z, by omega, ?_, rfl, by simp, hd.snoc hs v0 v1⟩
        rw [h2]
        congr 2
        omega)
    (by
      rintro e M' ⟨k, vs, left, a, b, hk, hxs, rfl, rfl, hd⟩
      have : ss.length - k = 0 := by
        cases q : ss.length - k with
        | zero => rfl
        | succ m => rw [q, List.range'_succ] at hxs; simp at hxs
      have : k = ss.length := by omega
      subst this
      rw [List.take_length] at hd
      exact ⟨vs, _, rfl, rfl, rfl, hd⟩)
    (rngGo ss.length 0) _ _ ⟨0, [], whole, none, none, by omega, by rw [show (0 : Int) = ((0 : Nat) : Int) from rfl, rngGo_eq]; simp, rfl, rfl, by simp [Drawn]⟩
  simp only [List.map_nil] at hr
  rw [hr]
  obtain ⟨vs, e, rfl, he, rfl, hd⟩ := hq
  refine ⟨vs, ?_, hd⟩
  simp [he, end_loc hM]
end LW
namespace LW
open PySem L2 TD
/-- no own object in the making -/
def noIns (M : Mem) : Prop := ∀ mo ∈ M, ∀ c fs, mo ≠ .ins c fs
theorem noIns.cut {b : Nat} : ∀ {M : Mem}, noIns M → okCut b M = true
  | [], _ => rfl
  | .ins c fs :: r, h => (h _ (List.mem_cons_self ..) c fs rfl).elim
  | .lst _ :: r, h => noIns.cut (M := r) fun mo hm => h mo (List.mem_cons_of_mem _ hm)
  | .dic _ :: r, h => noIns.cut (M := r) fun mo hm => h mo (List.mem_cons_of_mem _ hm)
  | .frz _ :: r, h => noIns.cut (M := r) fun mo hm => h mo (List.mem_cons_of_mem _ hm)
  | .scr _ :: r, h => noIns.cut (M := r) fun mo hm => h mo (List.mem_cons_of_mem _ hm)
theorem noIns.ok {M : Mem} (h : noIns M) : MOk M := h.cut
theorem noIns.set {M : Mem} {p : Nat} {xs : List D} (h : noIns M) : noIns (M.set p (.lst xs)) := by
  intro mo hm c fs e
  rcases List.mem_or_eq_of_mem_set hm with h1 | h1
  · exact h mo h1 c fs e
  · rw [h1] at e; cases e
theorem noIns.lst {M : Mem} {xs : List D} (h : noIns M) : noIns (M ++ [.lst xs]) := by
  intro mo hm c fs e
  rcases List.mem_append.mp hm with h1 | h1
  · exact h mo h1 c fs e
  · rw [List.mem_singleton.mp h1] at e; cases e
theorem noIns.take {M : Mem} {b : Nat} (h : noIns M) : noIns (M.take b) := fun mo hm => h mo (List.mem_of_mem_take hm)
/-- a frame's end, whatever was made in it -/
theorem noIns.ret {M : Mem} {b : Nat} {d : D} (h : noIns M) : endF b 0 (some (.ret (.d d), M)) = some (.ok (.d d), M.take b) := by
  simp [endF, fin, h.take.cut]
def hdS : CSs → CS
  | .cons s _ => s
  | .nil => .pass
def tlS : CSs → CSs
  | .cons _ r => r
  | .nil => .nil
theorem runSs_hd {T : Tab} {rp : D → Option Str} {XT : XTab} {cl : Cl} {c : CSs} {e : TD.Env} {M : Mem} : runSs T rp XT cl c e M = tR (runS T rp XT cl (hdS c) e M) fun e M => runSs T rp XT cl (tlS c) e M := by
  cases c <;> rfl
theorem rngGo_len : ∀ (n : Nat) (i : Int), (rngGo n i).length = n
  | 0, _ => rfl
  | n + 1, i => by show (rngGo n (i + 1)).length + 1 = _; rw [rngGo_len]
end LW
set_option Elab.async false
set_option linter.all false
set_option maxRecDepth 100000
set_option maxHeartbeats 2000000
namespace LW
open PySem L2 TD
/-! ### the pool -/
def PoolAt (p : Nat) (M : Mem) : Prop := ∃ (nums : List Int) (k : Nat), M[p]? = some (.lst [.lst (nums.map .int), .int k])
theorem pool_ok {n : Nat} {M : Mem} (hM : MOk M) (cell salt many : Int) (hs0 : 0 ≤ salt) (hs1 : salt ≤ 1000000) (hm0 : 0 ≤ many) (hm1 : many ≤ 1000) :
    ∃ nums : List Int, callN prg (n + 2) (.fn 26) [.d (.int cell), .d (.int salt), .d (.int many)] M = some (.ok (.loc M.length), M ++ [.lst [.lst (nums.map .int), .int 0]]) := by
  rw [call_fn (F := ⟨3, 0, c__law_pool, 1, false⟩) rfl rfl rfl]
  unfold c__law_pool
  have h1 : -4611686018427387904 ≤ many := by omega
  have h2 : many < 4611686018427387904 := by omega
  obtain ⟨vs, hv, _⟩ := numbers_ok (n := n) hM cell salt (List.replicate many.toNat 420) hs0 hs1 (by simp; omega) (by
    intro s hs
    rw [List.eq_of_mem_replicate hs]
    exact ⟨by decide, by decide +kernel⟩)
  refine ⟨vs, ?_⟩
  have h3 : (List.replicate many.toNat [D.int 420]).flatten = (List.replicate many.toNat (420 : Int)).map D.int := by
    generalize many.toNat = k
    induction k with
    | zero => rfl
    | succ k ih => rw [List.replicate_succ, List.flatten_cons, ih, List.replicate_succ]; rfl
  have h4 : many.toNat ≤ 16777216 := by omega
  have h4' : many ≤ 16777216 := by omega
  have hM2 : okCut M.length M = true := hM
  simp [h1, h2, h3, h4, h4'] at hv ⊢
  simp [hv]
  simp [endF, fin, okCut, hM2]
theorem draw_set {n p : Nat} {M : Mem} {m : Int} (hM : MOk M) (hp : PoolAt p M) (hm : 0 < m) :
    ∃ (v : Int) (M' : Mem), callN prg (n + 1) (.fn 27) [.loc p, .d (.int m)] M = some (.ok (.d (.int v)), M') ∧ 0 ≤ v ∧ v < m ∧ MOk M' ∧ PoolAt p M' ∧ M'.length = M.length ∧ (noIns M → noIns M') ∧ ∃ xs, M' = M.set p (.lst xs) := by
  obtain ⟨nums, k, hk⟩ := hp
  rw [call_fn (F := ⟨2, 1, c__law_draw, 0, false⟩) rfl rfl rfl]
  unfold c__law_draw
  have hpl : p < M.length := (List.getElem?_eq_some_iff.mp hk).1
  have e1 : TD.opI (.loc p) (.d (.int 1)) M = some (.ok (.d (.int k)), M) := by
    simp [TD.opI, bind_at, peekW, hk]
  generalize hM1 : M.set p (.lst [.lst (nums.map .int), .int ((k : Int) + 1)]) = M1
  have l1 : M1.length = M.length := by rw [← hM1, List.length_set]
  have k1 : M1[p]? = some (.lst [.lst (nums.map .int), .int ((k : Int) + 1)]) := by rw [← hM1, List.getElem?_set_self hpl]
  have o1 : MOk M1 := by rw [← hM1]; exact hM.set
  have e2 : subV (.loc p) (.d (.int 1)) (.d (.int ((k : Int) + 1))) M = some (.ok (), M1) := by
    simp [subV, hk, ixN, hM1]
  have e3 : TD.opI (.loc p) (.d (.int 0)) M1 = some (.ok (.d (.lst (nums.map .int))), M1) := by
    simp [TD.opI, bind_at, peekW, k1]
  have ni : noIns M → noIns M1 := fun h => by rw [← hM1]; exact h.set
  have pa : PoolAt p M1 := ⟨nums, k + 1, by rw [k1]; rfl⟩
  simp [e1, e2, e3]
  by_cases c : k < nums.length
  · have a1 : atI (nums.map D.int) (k : Int) = some (D.int nums[k]) := by
      rw [TD.atI_nat, List.getElem?_map, List.getElem?_eq_getElem c]; rfl
    refine ⟨nums[k] % m, M1, ?_, Int.emod_nonneg _ (by omega), Int.emod_lt_of_pos _ hm, o1, pa, l1, ni, _, hM1.symm⟩
    simp [c, a1, hm]
    exact end_dM o1 l1
  · refine ⟨0, M1, ?_, Int.le_refl _, hm, o1, pa, l1, ni, _, hM1.symm⟩
    simp [c]
    exact end_dM o1 l1
theorem draw_ok {n p : Nat} {M : Mem} {m : Int} (hM : MOk M) (hp : PoolAt p M) (hm : 0 < m) :
    ∃ (v : Int) (M' : Mem), callN prg (n + 1) (.fn 27) [.loc p, .d (.int m)] M = some (.ok (.d (.int v)), M') ∧ 0 ≤ v ∧ v < m ∧ MOk M' ∧ PoolAt p M' ∧ M'.length = M.length ∧ (noIns M → noIns M') := by
  obtain ⟨v, M', h1, h2, h3, h4, h5, h6, h7, _⟩ := draw_set (n := n) hM hp hm
  exact ⟨v, M', h1, h2, h3, h4, h5, h6, h7⟩
theorem pick_set {n p : Nat} {M : Mem} {xs : List D} (hM : MOk M) (hp : PoolAt p M) (hm : xs ≠ []) (hl : xs.length ≤ 1000) :
    ∃ (v : D) (M' : Mem), callN prg (n + 2) (.fn 28) [.loc p, .d (.lst xs)] M = some (.ok (.d v), M') ∧ v ∈ xs ∧ MOk M' ∧ PoolAt p M' ∧ M'.length = M.length ∧ (noIns M → noIns M') ∧ ∃ xs, M' = M.set p (.lst xs) := by
  rw [call_fn (F := ⟨2, 0, c__law_pick, 0, false⟩) rfl rfl rfl]
  unfold c__law_pick
  have h0 : 0 < xs.length := List.length_pos_iff.mpr hm
  obtain ⟨v, M', h1, h2, h3, h4, h5, h6, h7, h8⟩ := draw_set (n := n) (m := xs.length) hM hp (by omega)
  obtain ⟨j, rfl⟩ : ∃ j : Nat, v = j := ⟨v.toNat, by omega⟩
  have hj : j < xs.length := by omega
  refine ⟨xs[j], M', ?_, List.getElem_mem hj, h4, h5, h6, h7, h8⟩
  have a1 : atI xs (j : Int) = some xs[j] := by rw [TD.atI_nat, List.getElem?_eq_getElem hj]
  simp [h1, a1]
  exact end_dM h4 h6
theorem pick_ok {n p : Nat} {M : Mem} {xs : List D} (hM : MOk M) (hp : PoolAt p M) (hm : xs ≠ []) (hl : xs.length ≤ 1000) :
    ∃ (v : D) (M' : Mem), callN prg (n + 2) (.fn 28) [.loc p, .d (.lst xs)] M = some (.ok (.d v), M') ∧ v ∈ xs ∧ MOk M' ∧ PoolAt p M' ∧ M'.length = M.length ∧ (noIns M → noIns M') := by
  obtain ⟨v, M', h1, h2, h4, h5, h6, h7, _⟩ := pick_set (n := n) hM hp hm hl
  exact ⟨v, M', h1, h2, h4, h5, h6, h7⟩
theorem truth_ok {n : Nat} {M : Mem} {a b : Bool} (hM : MOk M) : callN prg (n + 1) (.fn 29) [.d (.bl a), .d (.bl b)] M = some (.ok (.d (.bl (a == b))), M) := by
  rw [call_fn (F := ⟨2, 0, c__law_truth, 0, false⟩) rfl rfl rfl]
  unfold c__law_truth
  simp
  exact end_d0 hM
def StP (p len : Nat) (M : Mem) : Prop := MOk M ∧ PoolAt p M ∧ M.length = len ∧ noIns M
theorem draw_st {n p len : Nat} {M : Mem} {m : Int} (h : StP p len M) (hm : 0 < m) :
    ∃ (v : Int) (M' : Mem), callN prg (n + 1) (.fn 27) [.loc p, .d (.int m)] M = some (.ok (.d (.int v)), M') ∧ 0 ≤ v ∧ v < m ∧ StP p len M' := by
  obtain ⟨v, M', h1, h2, h3, h4, h5, h6, h7⟩ := draw_ok (n := n) h.1 h.2.1 hm
  exact ⟨v, M', h1, h2, h3, h4, h5, h6.trans h.2.2.1, h7 h.2.2.2⟩
theorem pick_st {n p len : Nat} {M : Mem} {xs : List D} (h : StP p len M) (hm : xs ≠ []) (hl : xs.length ≤ 1000) :
    ∃ (v : D) (M' : Mem), callN prg (n + 2) (.fn 28) [.loc p, .d (.lst xs)] M = some (.ok (.d v), M') ∧ v ∈ xs ∧ StP p len M' := by
  obtain ⟨v, M', h1, h2, h4, h5, h6, h7⟩ := pick_ok (n := n) h.1 h.2.1 hm hl
  exact ⟨v, M', h1, h2, h4, h5, h6.trans h.2.2.1, h7 h.2.2.2⟩
/-- what lies behind stays -/
theorem set_behind {p : Nat} {M E : Mem} {mo : MO} (h : p < M.length) : (M ++ E).set p mo = M.set p mo ++ E := by
  rw [List.set_append, if_pos h]
theorem StP.lt {p len : Nat} {M : Mem} (h : StP p len M) : p < M.length := by
  obtain ⟨_, ⟨nums, k, hk⟩, _⟩ := h
  exact (List.getElem?_eq_some_iff.mp hk).1
theorem StP.behind {p len : Nat} {M : Mem} {xs : List D} (h : StP p len M) : StP p (len + 1) (M ++ [.lst xs]) := by
  refine ⟨h.1.lst, ?_, by simp [h.2.2.1], h.2.2.2.lst⟩
  obtain ⟨nums, k, hk⟩ := h.2.1
  exact ⟨nums, k, by rw [List.getElem?_append_left h.lt]; exact hk⟩
theorem StP.front {p len : Nat} {M : Mem} {mo : MO} (h : StP p (len + 1) (M ++ [mo])) (hp : p < M.length) : StP p len M := by
  obtain ⟨_, ⟨nums, k, hk⟩, h3, h4⟩ := h
  have n1 : noIns M := fun m hm => h4 m (List.mem_append_left _ hm)
  refine ⟨n1.ok, ⟨nums, k, by rw [List.getElem?_append_left hp] at hk; exact hk⟩, by simpa using h3, n1⟩
theorem draw_bh {n p len : Nat} {M : Mem} {m : Int} {xs : List D} (h : StP p len M) (hm : 0 < m) :
    ∃ (v : Int) (M' : Mem), callN prg (n + 1) (.fn 27) [.loc p, .d (.int m)] (M ++ [.lst xs]) = some (.ok (.d (.int v)), M' ++ [.lst xs]) ∧ 0 ≤ v ∧ v < m ∧ StP p len M' := by
  have hb := h.behind (xs := xs)
  obtain ⟨v, M', h1, h2, h3, h4, h5, h6, h7, ys, rfl⟩ := draw_set (n := n) hb.1 hb.2.1 hm
  rw [set_behind h.lt] at h1 h4 h5 h6 h7
  refine ⟨v, _, h1, h2, h3, StP.front (mo := .lst xs) ⟨h4, h5, by rw [h6]; exact hb.2.2.1, h7 hb.2.2.2⟩ (by rw [List.length_set]; exact h.lt)⟩
theorem pick_bh {n p len : Nat} {M : Mem} {xs zs : List D} (h : StP p len M) (hm : zs ≠ []) (hl : zs.length ≤ 1000) :
    ∃ (v : D) (M' : Mem), callN prg (n + 2) (.fn 28) [.loc p, .d (.lst zs)] (M ++ [.lst xs]) = some (.ok (.d v), M' ++ [.lst xs]) ∧ v ∈ zs ∧ StP p len M' := by
  have hb := h.behind (xs := xs)
  obtain ⟨v, M', h1, h2, h4, h5, h6, h7, ys, rfl⟩ := pick_set (n := n) hb.1 hb.2.1 hm hl
  rw [set_behind h.lt] at h1 h4 h5 h6 h7
  refine ⟨v, _, h1, h2, StP.front (mo := .lst xs) ⟨h4, h5, by rw [h6]; exact hb.2.2.1, h7 hb.2.2.2⟩ (by rw [List.length_set]; exact h.lt)⟩
theorem end_st {p len : Nat} {M : Mem} {d : D} (h : StP p len M) : endF len 0 (some (.ret (.d d), M)) = some (.ok (.d d), M) := end_dM h.1 h.2.2.1
end LW
set_option Elab.async false
set_option linter.all false
set_option maxRecDepth 100000
set_option maxHeartbeats 2000000
/-! what the defs of items and rows compute on steps -/
namespace LW
open PySem L2 TD
def letters : List Nat := ("abcdefghijklmnopqrstuvwxyz" : Str).cps.toList
def nameB (s : Str) : Bool := decide (1 ≤ s.length ∧ s.length ≤ 8) && s.cps.toList.all fun c => decide (c ∈ letters)
def isNameD : D → Bool
  | .str s => nameB s
  | _ => false
/-- what may be asked for a name -/
def nb : D → Bool
  | .str s => decide (s.length ≤ 1000)
  | .obj _ _ => false
  | _ => true
theorem sm_nb {k : Nat} {x : D} (h : sm k x = true) : nb x = true := by
  cases x with
  | str s => cases k <;> simpa [sm, nb] using h
  | obj c fs => cases k <;> simp [sm] at h
  | _ => rfl
theorem is_name_P {n : Nat} {x : D} {M : Mem} (hM : MOk M) (hs : nb x = true) : callN prg (n + 1) (.fn 1) [.d x] M = some (.ok (.d (.bl (isNameD x))), M) := by
  rw [call_fn (F := ⟨1, 1, c_is_name, 0, false⟩) rfl rfl rfl]
  unfold c_is_name
  cases x with
  | str s =>
    have h1 : s.length ≤ 1000 := by simpa [nb] using hs
    have h2 : s.length ≤ 16777216 := by omega
    have h3 : s.cps.size ≤ 16777216 := h2
    have key : ∀ e : TD.Env, e = ⟨[some (.d (.str s)), none], none⟩ → lcGo (lcF prg.T prg.rp (callN prg n) (.name 1) .nil (.cmp .In (.var 1) (.glb (.str (Str.ofString "abcdefghijklmnopqrstuvwxyz")))) [1] e) (s.cps.toList.map fun c => D.str ⟨#[c]⟩) M = some (.ok (s.cps.toList.map fun c => D.bl (decide (c ∈ letters))), M) := by
      rintro e rfl
      refine lc_map _ fun c hc => ?_
      rw [lcF_at (e' := ⟨[some (.d (.str s)), some (.d (.str ⟨#[c]⟩))], none⟩) rfl]
      simp [letters]
    simp [h2, h3, key, allBl_map]
    by_cases c1 : 1 ≤ s.length
    · have c1' : (1 : Int) ≤ (s.length : Int) := by omega
      by_cases c2 : s.length ≤ 8
      · have c2' : ¬ (8 : Int) < (s.length : Int) := by omega
        simp [c1', c2', end_d0 hM, isNameD, nameB, c1, c2]
      · have c2' : (8 : Int) < (s.length : Int) := by omega
        simp [c1', c2', end_d0 hM, isNameD, nameB, c1, c2]
    · have c1' : ¬ (1 : Int) ≤ (s.length : Int) := by omega
      simp [c1', end_d0 hM, isNameD, nameB, c1]
  | obj c fs => cases hs
  | _ => simp [end_d0 hM, isNameD]
theorem is_name_ok {n : Nat} {x : D} {M : Mem} {k : Nat} (hM : MOk M) (hs : sm k x = true) : callN prg (n + 1) (.fn 1) [.d x] M = some (.ok (.d (.bl (isNameD x))), M) := is_name_P hM (sm_nb hs)
def words : List Str := ["cancel", "bar", "halt", "settle", "close", "drain", "set", "clear", "take", "give"]
def isStepD : D → Bool
  | .tup [w, x] => anyEq w (words.map .str) && isNameD x
  | _ => false
/-- what may be asked for a step -/
def ps : D → Bool
  | .tup [a, b] => flat 20 a && nb b
  | .obj _ _ => false
  | _ => true
theorem sm_ps {k : Nat} {x : D} (h : sm k x = true) (hk : k ≤ 20) : ps x = true := by
  cases x with
  | obj c fs => cases k <;> simp [sm] at h
  | tup xs =>
    match k, xs with
    | 0, _ => simp [sm] at h
    | k + 1, [] => rfl
    | k + 1, [a] => rfl
    | k + 1, [a, b] =>
      simp [sm, sms] at h
      simp [ps, sm_flat (m := 20) (by omega) h.1, sm_nb h.2]
    | k + 1, a :: b :: c :: r => rfl
  | _ => rfl
theorem is_step_P {n : Nat} {x : D} {M : Mem} (hM : MOk M) (hs : ps x = true) : callN prg (n + 2) (.fn 6) [.d x] M = some (.ok (.d (.bl (isStepD x))), M) := by
  rw [call_fn (F := ⟨1, 0, c_is_step, 0, false⟩) rfl rfl rfl]
  unfold c_is_step
  cases x with
  | tup xs =>
    match xs with
    | [] => simp [end_d0 hM, isStepD]
    | [a] => simp [end_d0 hM, isStepD]
    | [a, b] =>
      simp [ps] at hs
      have ha := hs.1
      have hn := is_name_P (n := n) (x := b) hM hs.2
      cases hq : anyEq a (words.map .str) with
      | false =>
        have hq' := hq
        simp only [words, List.map] at hq'
        simp [ha, -anyEq_cons, -anyEq_nil, hq', end_d0 hM, isStepD, hq]
      | true =>
        have hq' := hq
        simp only [words, List.map] at hq'
        simp [ha, -anyEq_cons, -anyEq_nil, hq', hn, end_d0 hM, isStepD, hq]
    | a :: b :: c :: r =>
      have h2 : ¬ ((r.length : Int) + 1 + 1 + 1 = 2) := by omega
      simp [end_d0 hM, isStepD, h2]
  | obj c fs => cases hs
  | _ => simp [end_d0 hM, isStepD]
theorem is_step_ok {n : Nat} {x : D} {M : Mem} {k : Nat} (hM : MOk M) (hs : sm k x = true) (hk : k ≤ 20) : callN prg (n + 2) (.fn 6) [.d x] M = some (.ok (.d (.bl (isStepD x))), M) := is_step_P hM (sm_ps hs hk)
abbrev Stp := Str × Str
def stD (s : Stp) : D := .tup [.str s.1, .str s.2]
def goodS (s : Stp) : Prop := s.1 ∈ words ∧ nameB s.2 = true
theorem anyEq_strs {x : Str} : ∀ {l : List Str}, anyEq (.str x) (l.map .str) = decide (x ∈ l)
  | [] => rfl
  | y :: l => by
    rw [Bool.eq_iff_iff]
    simp [anyEq_strs (l := l), eq_comm (a := y)]
theorem anyEq_stps {x : Stp} : ∀ {l : List Stp}, anyEq (stD x) (l.map stD) = decide (x ∈ l)
  | [] => rfl
  | y :: l => by
    obtain ⟨x1, x2⟩ := x
    obtain ⟨y1, y2⟩ := y
    rw [Bool.eq_iff_iff]
    have := anyEq_stps (x := (x1, x2)) (l := l)
    simp only [stD] at this
    simp [this, stD, eq_comm (a := y1), eq_comm (a := y2)]
theorem anyEq_str_only {x : D} : ∀ {l : List Str}, anyEq x (l.map .str) = true → ∃ y ∈ l, x = .str y
  | [], h => by cases h
  | y :: l, h => by
    simp only [List.map_cons, anyEq_cons, Bool.or_eq_true] at h
    rcases h with h | h
    · cases x <;> simp at h
      subst h
      exact ⟨_, List.mem_cons_self .., rfl⟩
    · obtain ⟨z, h1, h2⟩ := anyEq_str_only h
      exact ⟨z, List.mem_cons_of_mem _ h1, h2⟩
theorem isStepD_of {x : D} (h : isStepD x = true) : ∃ s, x = stD s ∧ goodS s := by
  unfold isStepD at h
  split at h
  · rename_i w y
    rw [Bool.and_eq_true] at h
    obtain ⟨z, h1, rfl⟩ := anyEq_str_only h.1
    cases y with
    | str n => exact ⟨(z, n), rfl, h1, h.2⟩
    | _ => cases h.2
  · cases h
theorem isStepD_st {s : Stp} (h : goodS s) : isStepD (stD s) = true := by
  show (anyEq (.str s.1) (words.map .str) && nameB s.2) = true
  rw [anyEq_strs, h.2]
  simp [h.1]
/-! takes and gives -/
def wrongB (s : Stp) (held own : List Str) (behind : List Stp) : Bool :=
  if s.1 = "take" then decide (s.2 ∈ held) || !decide ((("give" : Str), s.2) ∈ behind)
  else if s.1 = "give" then decide (own = []) || decide (own.getLast? ≠ some s.2)
  else decide (s.1 = "piece") && decide (s.2 ∈ held)
@[scoped simp] theorem allOk_strs : ∀ {l : List Str}, allOk (l.map .str) = true
  | [] => rfl
  | y :: l => by simp [allOk_strs (l := l)]
@[scoped simp] theorem allOk_stps : ∀ {l : List Stp}, allOk (l.map stD) = true
  | [] => rfl
  | y :: l => by simp [allOk_stps (l := l), stD]
@[scoped simp] theorem flats_strs {n : Nat} : ∀ {l : List Str}, flats n (l.map .str) = true
  | [] => by simp
  | y :: l => by simp [flats_strs (l := l)]
@[scoped simp] theorem flats_stps {n : Nat} : ∀ {l : List Stp}, flats (n + 1) (l.map stD) = true
  | [] => by simp
  | y :: l => by simp [flats_stps (l := l), stD]
theorem eqDs_nil_iff {l : List D} : eqDs l [] = decide (l = []) := by cases l <;> rfl
theorem is_wrong_ok {n : Nat} {s : Stp} {held own : List Str} {behind : List Stp} {M : Mem} (hM : MOk M) :
    callN prg (n + 1) (.fn 3) [.d (stD s), .d (.tup (held.map .str)), .d (.tup (own.map .str)), .d (.tup (behind.map stD))] M = some (.ok (.d (.bl (wrongB s held own behind))), M) := by
  rw [call_fn (F := ⟨4, 0, c_is_wrong, 0, false⟩) rfl rfl rfl]
  unfold c_is_wrong
  obtain ⟨w, x⟩ := s
  have g1 : anyEq (.tup [.str "give", .str x]) (behind.map stD) = decide ((("give" : Str), x) ∈ behind) := anyEq_stps (x := ("give", x))
  by_cases c1 : w = "take"
  · subst c1
    by_cases c2 : x ∈ held
    · simp [stD, anyEq_strs, c2, end_d0 hM, wrongB]
    · simp [stD, anyEq_strs, c2, end_d0 hM, wrongB, g1]
  · by_cases c2 : w = "give"
    · subst c2
      have d1 : ¬ (("give" : Str) = "take") := by decide +kernel
      cases q : own.getLast? with
      | none =>
        have : own = [] := by simpa using q
        subst this
        simp [stD, d1, end_d0 hM, wrongB]
      | some z =>
        have : own ≠ [] := by rintro rfl; simp at q
        have h2 : (own.map D.str).getLast? = some (.str z) := by rw [List.getLast?_map, q]; rfl
        simp [stD, d1, end_d0 hM, wrongB, eqDs_nil_iff, this, h2, q]
    · by_cases c3 : w = "piece"
      · subst c3
        by_cases c4 : x ∈ held
        · simp [stD, c1, c2, c4, anyEq_strs, end_d0 hM, wrongB]
        · simp [stD, c1, c2, c4, anyEq_strs, end_d0 hM, wrongB]
      · simp [stD, c1, c2, c3, anyEq_strs, end_d0 hM, wrongB]
theorem branches_ok {n : Nat} {s : Stp} {M : Mem} (hM : MOk M) (h1 : s.1 ≠ "test") (h2 : s.1 ≠ "choose") : callN prg (n + 1) (.fn 2) [.d (stD s)] M = some (.ok (.d (.tup [.tup [], .tup []])), M) := by
  rw [call_fn (F := ⟨1, 0, c_branches, 0, false⟩) rfl rfl rfl]
  unfold c_branches
  simp [stD, h1, h2, end_d0 hM]
@[scoped simp] theorem ixD_st {s : Stp} {i : Int} : ixD (stD s) (.int i) = atI [.str s.1, .str s.2] i := rfl
theorem wrongs_nil {n : Nat} {held : D} {M : Mem} (hM : MOk M) : callN prg (n + 1) (.fn 4) [.d (.tup []), .d held] M = some (.ok (.d (.lst [])), M) := by
  rw [call_fn (F := ⟨2, 5, c_wrongs, 0, false⟩) rfl rfl rfl]
  unfold c_wrongs
  simp [zipEnum, end_loc hM]
def nextOwn (s : Stp) (own : List Str) : List Str := if s.1 = "take" then own ++ [s.2] else if s.1 = "give" then own.dropLast else own
def wrongsL (held : List Str) : List Str → List Stp → List Bool
  | _, [] => []
  | own, s :: r => wrongB s (held ++ own) own r :: wrongsL held (nextOwn s own) r
theorem nextOwn_len {s : Stp} {own : List Str} : (nextOwn s own).length ≤ own.length + 1 := by
  unfold nextOwn
  split
  · simp
  · split
    · simp; omega
    · omega
theorem wrongs_ok {n : Nat} {l : List Stp} {held : List Str} {M : Mem} (hM : MOk M) (hl : l.length ≤ 1000) (hh : held.length ≤ 1000) (hw : ∀ s ∈ l, s.1 ≠ "test" ∧ s.1 ≠ "choose") :
    callN prg (n + 2) (.fn 4) [.d (.tup (l.map stD)), .d (.tup (held.map .str))] M = some (.ok (.d (.lst ((wrongsL held [] l).map .bl))), M) := by
  rw [call_fn (F := ⟨2, 5, c_wrongs, 0, false⟩) rfl rfl rfl]
  unfold c_wrongs
  have q1 : l.length ≤ 16777216 := by omega
  simp [q1]
  obtain ⟨f, M', hr, hq⟩ := for_inv (T := prg.T) (rp := prg.rp) (XT := prg.XT) (cl := callN prg (n + 1)) (g := .tup (.cons (.name 4) (.cons (.name 5) .nil))) (b := l_wrongs_2)
    (Q := fun f M' => ∃ e, f = .next ⟨e, none⟩ ∧ e[2]? = some (some (.loc M.length)) ∧ M' = M ++ [.lst ((wrongsL held [] l).map .bl)])
    (fun xs e M' => ∃ (k : Nat) (own : List Str) (acc : List Bool) (a b c : Option Vl), k ≤ l.length ∧ xs = zipEnum k ((l.drop k).map stD) ∧
      e = ⟨[some (.d (.tup (l.map stD))), some (.d (.tup (held.map .str))), some (.loc M.length), some (.d (.tup (own.map .str))), a, b, c], none⟩ ∧ M' = M ++ [.lst (acc.map .bl)] ∧ acc ++ wrongsL held own (l.drop k) = wrongsL held [] l ∧ own.length ≤ k ∧ acc.length = k)
    (by
      rintro x xs e M' ⟨k, own, acc, a, b, c, hk, hxs, rfl, rfl, ha, ho, hc⟩
      obtain ⟨s, r, hd⟩ : ∃ s r, l.drop k = s :: r := by
        cases q : l.drop k with
        | nil => rw [q] at hxs; cases hxs
        | cons s r => exact ⟨s, r, rfl⟩
      have hkl : k < l.length := by
        by_cases z : k < l.length
        · exact z
        · rw [List.drop_eq_nil_of_le (by omega)] at hd; cases hd
      have hr : l.drop (k + 1) = r := by
        have := List.drop_drop (i := 1) (j := k) (l := l)
        rw [hd] at this
        simpa [Nat.add_comm] using this.symm
      have hs : s ∈ l := List.mem_of_mem_drop (i := k) (by rw [hd]; simp)
      rw [hd] at hxs
      simp only [List.map_cons, zipEnum] at hxs
      injection hxs with h1 h2
      subst h1
      refine ⟨_, rfl, ?_⟩
      unfold l_wrongs_2
      have w1 := is_wrong_ok (n := n) (s := s) (held := held ++ own) (own := own) (behind := r) (M := M ++ [.lst (acc.map .bl)]) hM.lst
      have w2 := fun N => branches_ok (n := n) (s := s) (M := M ++ [.lst N]) hM.lst (hw s hs).1 (hw s hs).2
      have w3 := fun h N => wrongs_nil (n := n) (held := h) (M := M ++ [.lst N]) hM.lst
      have z1 : (l.map stD).drop (k + 1) = r.map stD := by rw [← List.map_drop, hr]
      have z2 : held.length + own.length ≤ 16777216 := by omega
      have z3 : acc.length < 16777216 := by omega
      have z4 : own.length + 1 ≤ 16777216 := by omega
      have z5 : held.length + (own.length + 1) ≤ 16777216 := by omega
      have z6 : acc.length ≤ 16777215 := by omega
      have z7 : held.length + (own.length - 1) ≤ 16777216 := by omega
      simp only [List.map_append] at w1
      rw [hd] at ha
      have fin : ∀ own', own' = nextOwn s own → ∃ (k_1 : Nat) (own_1 : List Str) (acc_1 : List Bool) (a_1 b_1 c_1 : Option Vl), k_1 ≤ l.length ∧ xs = zipEnum k_1 ((l.drop k_1).map stD) ∧
          (⟨[some (.d (.tup (l.map stD))), some (.d (.tup (held.map .str))), some (.loc M.length), some (.d (.tup (own'.map .str))), some (.d (.int k)), some (.d (stD s)), some (.d (.tup []))], none⟩ : TD.Env) = ⟨[some (.d (.tup (l.map stD))), some (.d (.tup (held.map .str))), some (.loc M.length), some (.d (.tup (own_1.map .str))), a_1, b_1, c_1], none⟩ ∧ M ++ [.lst (acc.map .bl ++ [.bl (wrongB s (held ++ own) own r)])] = M ++ [MO.lst (acc_1.map .bl)] ∧ acc_1 ++ wrongsL held own_1 (l.drop k_1) = wrongsL held [] l ∧ own_1.length ≤ k_1 ∧ acc_1.length = k_1 := by
        rintro _ rfl
        refine ⟨k + 1, nextOwn s own, acc ++ [wrongB s (held ++ own) own r], _, _, _, by omega, ?_, rfl, by simp, ?_, ?_, by simp [hc]⟩
        · rw [h2, hr]
        · rw [hr, ← ha]
          simp [wrongsL]
        · have := nextOwn_len (s := s) (own := own)
          omega
      unfold l_wrongs_1
      by_cases c1 : s.1 = "take"
      · have c2 : ¬ (("take" : Str) = "give") := by decide +kernel
        refine ⟨_, _, by simp [z1, z2, z3, z4, z5, z6, z7, w1, w2, w3, c1, c2]; first | exact ⟨rfl, rfl⟩ | rfl, ?_⟩
        have := fin (own ++ [s.2]) (by simp [nextOwn, c1])
        simpa using this
      · by_cases c2 : s.1 = "give"
        · refine ⟨_, _, by simp [z1, z2, z3, z4, z5, z6, z7, w1, w2, w3, c1, c2]; first | exact ⟨rfl, rfl⟩ | rfl, ?_⟩
          have := fin own.dropLast (by simp [nextOwn, c1, c2])
          simpa [List.map_dropLast] using this
        · refine ⟨_, _, by simp [z1, z2, z3, z4, z5, z6, z7, w1, w2, w3, c1, c2]; first | exact ⟨rfl, rfl⟩ | rfl, ?_⟩
          exact fin own (by simp [nextOwn, c1, c2]))
    (by
      rintro e M' ⟨k, own, acc, a, b, c, hk, hxs, rfl, rfl, ha, ho, hc⟩
      have : l.drop k = [] := by
        cases q : l.drop k with
        | nil => rfl
        | cons s r => rw [q] at hxs; cases hxs
      rw [this] at ha
      simp [wrongsL] at ha
      exact ⟨_, rfl, rfl, by rw [ha]⟩)
    (zipEnum 0 (l.map stD)) _ _ ⟨0, [], [], none, none, none, by omega, by simp, rfl, rfl, by simp, by simp, rfl⟩
  simp only [List.map_nil] at hr
  rw [hr]
  obtain ⟨e, rfl, he, rfl⟩ := hq
  simp [he, end_loc hM]
def firstT : Nat → List Bool → Option Nat
  | _, [] => none
  | k, b :: r => if b then some k else firstT (k + 1) r
def optD : Option Nat → D
  | none => .non
  | some k => .int k
theorem lock_fault_ok {n : Nat} {l : List Stp} {M : Mem} (hM : MOk M) (hl : l.length ≤ 1000) (hw : ∀ s ∈ l, s.1 ≠ "test" ∧ s.1 ≠ "choose") :
    callN prg (n + 3) (.fn 5) [.d (.tup (l.map stD))] M = some (.ok (.d (optD (firstT 0 (wrongsL [] [] l)))), M) := by
  rw [call_fn (F := ⟨1, 2, c_lock_fault, 0, false⟩) rfl rfl rfl]
  unfold c_lock_fault
  have h1 := wrongs_ok (n := n) (l := l) (held := []) (M := M) hM hl (by simp) hw
  simp only [List.map_nil] at h1
  have hlen : ∀ own, (wrongsL [] own l).length = l.length := by
    clear h1 hw hl
    induction l with
    | nil => intro own; rfl
    | cons s l ih => intro own; simp [wrongsL, ih]
  have q1 : (wrongsL [] [] l).length ≤ 16777216 := by rw [hlen]; omega
  simp [h1, q1]
  generalize wrongsL [] [] l = bs
  obtain ⟨f, M', hr, hq⟩ := for_inv (T := prg.T) (rp := prg.rp) (XT := prg.XT) (cl := callN prg (n + 2)) (g := .tup (.cons (.name 1) (.cons (.name 2) .nil))) (b := l_lock_fault_1)
    (Q := fun f M' => M' = M ∧ match firstT 0 bs with | none => ∃ e, f = .next e | some i => f = .ret (.d (.int i)))
    (fun xs e M' => ∃ (k : Nat) (r : List Bool) (a b : Option Vl), xs = zipEnum k (r.map .bl) ∧ e = ⟨[some (.d (.tup (l.map stD))), a, b], none⟩ ∧ M' = M ∧ firstT k r = firstT 0 bs)
    (by
      rintro x xs e M' ⟨k, r, a, b, hxs, rfl, rfl, hf⟩
      cases r with
      | nil => cases hxs
      | cons c r =>
        simp only [List.map_cons, zipEnum] at hxs
        injection hxs with h1 h2
        subst h1
        refine ⟨_, rfl, ?_⟩
        unfold l_lock_fault_1
        cases c with
        | true =>
          refine ⟨_, _, by simp; first | exact ⟨rfl, rfl⟩ | rfl, ?_⟩
          rw [← hf]
          exact ⟨rfl, rfl⟩
        | false =>
          refine ⟨_, _, by simp; first | exact ⟨rfl, rfl⟩ | rfl, ?_⟩
          exact ⟨k + 1, r, _, _, h2, rfl, rfl, hf⟩)
    (by
      rintro e M' ⟨k, r, a, b, hxs, rfl, rfl, hf⟩
      cases r with
      | nil =>
        rw [← hf]
        exact ⟨rfl, _, rfl⟩
      | cons c r => cases hxs)
    (zipEnum 0 (bs.map .bl)) _ _ ⟨0, bs, none, none, rfl, rfl, rfl, rfl⟩
  rw [hr]
  obtain ⟨rfl, hq⟩ := hq
  cases q : firstT 0 bs with
  | none =>
    rw [q] at hq
    obtain ⟨e, rfl⟩ := hq
    simp [optD, end_d0 hM]
  | some i =>
    rw [q] at hq
    subst hq
    simp [optD, end_d0 hM]
/-! making rows -/
def badL : Nat → List D → Option Nat
  | _, [] => none
  | k, x :: r => if isStepD x then badL (k + 1) r else some k
def toStp : D → Stp
  | .tup [.str a, .str b] => (a, b)
  | _ => ("", "")
def rowErr (xs : List D) : Option D :=
  match badL 0 xs with
  | some i => some (.int i)
  | none => if 8 < xs.length then some .non else (firstT 0 (wrongsL [] [] (xs.map toStp))).map fun (i : Nat) => D.int (i : Int)
theorem badL_none : ∀ {k : Nat} {xs : List D}, badL k xs = none → ∃ l : List Stp, xs = l.map stD ∧ ∀ s ∈ l, goodS s
  | _, [], _ => ⟨[], rfl, by simp⟩
  | k, x :: xs, h => by
    unfold badL at h
    split at h
    · rename_i hx
      obtain ⟨l, rfl, hl⟩ := badL_none h
      obtain ⟨s, rfl, hs⟩ := isStepD_of hx
      exact ⟨s :: l, rfl, by
        intro t ht
        rcases List.mem_cons.mp ht with e | e
        · rw [e]; exact hs
        · exact hl t e⟩
    · cases h
@[scoped simp] theorem toStp_st {s : Stp} : toStp (stD s) = s := rfl
theorem map_toStp {l : List Stp} : (l.map stD).map toStp = l := by
  rw [List.map_map]
  induction l with
  | nil => rfl
  | cons s l ih => rw [List.map_cons, ih]; rfl
theorem goodS_not {s : Stp} (h : goodS s) : s.1 ≠ "test" ∧ s.1 ≠ "choose" := by
  constructor
  · intro e
    have := h.1
    rw [e] at this
    exact absurd this (by decide +kernel)
  · intro e
    have := h.1
    rw [e] at this
    exact absurd this (by decide +kernel)
def exStep (d : D) : Xc := ⟨1, [("index", d)]⟩
@[scoped simp] theorem mkX1 {d : D} : mkX prg.XT 1 [d] = some (exStep d) := rfl
def resD (v : D) : Option D → Mem → Option (Res Vl × Mem)
  | none, M => some (.ok (.d v), M)
  | some d, M => some (.ex (exStep d), M)
theorem require_steps_P {n : Nat} {xs : List D} {M : Mem} (hM : MOk M) (hl : xs.length ≤ 1000) (hs : ∀ x ∈ xs, ps x = true) :
    callN prg (n + 4) (.fn 7) [.d (.tup xs)] M = resD .non (rowErr xs) M := by
  rw [call_fn (F := ⟨1, 2, c_require_steps, 0, false⟩) rfl rfl rfl]
  unfold c_require_steps
  have q1 : xs.length ≤ 16777216 := by omega
  simp [q1]
  obtain ⟨f, M', hr, hq⟩ := for_inv (T := prg.T) (rp := prg.rp) (XT := prg.XT) (cl := callN prg (n + 3)) (g := .tup (.cons (.name 1) (.cons (.name 2) .nil))) (b := l_require_steps_1)
    (Q := fun f M' => M' = M ∧ match badL 0 xs with | none => ∃ a b, f = .next ⟨[some (.d (.tup xs)), a, b], none⟩ | some i => ∃ e, f = .ex (exStep (.int i)) e)
    (fun ys e M' => ∃ (k : Nat) (r : List D) (a b : Option Vl), ys = zipEnum k r ∧ (∀ x ∈ r, ps x = true) ∧ e = ⟨[some (.d (.tup xs)), a, b], none⟩ ∧ M' = M ∧ badL k r = badL 0 xs)
    (by
      rintro x ys e M' ⟨k, r, a, b, hxs, hsr, rfl, rfl, hf⟩
      cases r with
      | nil => cases hxs
      | cons c r =>
        simp only [zipEnum] at hxs
        injection hxs with h1 h2
        subst h1
        refine ⟨_, rfl, ?_⟩
        unfold l_require_steps_1
        have hst := is_step_P (n := n + 1) (x := c) hM (hsr c (by simp))
        cases hc : isStepD c with
        | true =>
          rw [hc] at hst
          refine ⟨_, _, by simp [hst]; first | exact ⟨rfl, rfl⟩ | rfl, ?_⟩
          exact ⟨k + 1, r, _, _, h2, fun x hx => hsr x (by simp [hx]), rfl, rfl, by rw [← hf]; simp [badL, hc]⟩
        | false =>
          rw [hc] at hst
          refine ⟨_, _, by simp [hst]; first | exact ⟨rfl, rfl⟩ | rfl, ?_⟩
          rw [← hf]
          simp [badL, hc, exStep])
    (by
      rintro e M' ⟨k, r, a, b, hxs, _, rfl, rfl, hf⟩
      cases r with
      | nil =>
        rw [← hf]
        exact ⟨rfl, _, _, rfl⟩
      | cons c r => cases hxs)
    (zipEnum 0 xs) _ _ ⟨0, xs, none, none, rfl, hs, rfl, rfl, rfl⟩
  rw [hr]
  obtain ⟨rfl, hq⟩ := hq
  unfold rowErr
  cases q : badL 0 xs with
  | some i =>
    rw [q] at hq
    obtain ⟨e, rfl⟩ := hq
    simp [end_x0 hM, resD]
  | none =>
    rw [q] at hq
    obtain ⟨a, b, rfl⟩ := hq
    obtain ⟨l, rfl, hg⟩ := badL_none q
    have h5 := lock_fault_ok (n := n) (l := l) (M := M') hM (by simpa using hl) fun s hs => goodS_not (hg s hs)
    by_cases c : 8 < l.length
    · have c' : (8 : Int) < (l.length : Int) := by omega
      simp [c, c', end_x0 hM, resD, exStep]
    · have c' : ¬ (8 : Int) < (l.length : Int) := by omega
      rw [map_toStp]
      simp [c, c', h5]
      cases firstT 0 (wrongsL [] [] l) with
      | none => simp [optD, end_n0 hM, resD]
      | some i => simp [optD, end_x0 hM, resD, exStep]
end LW
set_option Elab.async false
set_option linter.all false
set_option maxRecDepth 100000
set_option maxHeartbeats 2000000
/-! what the defs of the class Row compute -/
namespace LW
open PySem L2 TD
def rowD (xs : List D) : D := .obj 4 [("own_steps", .tup xs)]
@[scoped simp] theorem fld_own : prg.T.fld 4 "own_steps" = true := by decide +kernel
@[scoped simp] theorem met_own : prg.T.met 4 "own_steps" = none := by decide +kernel
@[scoped simp] theorem isb_row : prg.T.isb 4 4 = true := rfl
theorem fieldOf_row {xs : List D} {M : Mem} : fieldOf prg.T "own_steps" (.d (rowD xs)) M = some (.ok (.d (.tup xs)), M) := by
  simp [fieldOf, rowD, look]
theorem metOf_row {xs : List D} {M : Mem} {m : Str} (hm : (m == ("own_steps" : Str)) = false) : metOf prg.T m (.d (rowD xs)) M = prg.T.met 4 m := by
  simp [metOf, rowD, look, List.lookup, hm]
theorem metE_row {xs : List D} {M : Mem} {m : Str} {f : Nat} (hm : (m == ("own_steps" : Str)) = false) (hf : prg.T.met 4 m = some f) : metE prg.T m (.d (rowD xs)) M = some (.ok f, M) := by
  unfold metE
  rw [metOf_row hm, hf]
theorem row_init_ok {n : Nat} {xs : List D} {M : Mem} (hM : MOk M) (hl : xs.length ≤ 1000) (hs : ∀ x ∈ xs, ps x = true) :
    callN prg (n + 5) (.fn 9) (.loc M.length :: xs.map .d) (M ++ [.ins 4 []]) = match rowErr xs with
      | none => some (.ok (.d .non), M ++ [.ins 4 [("own_steps", .d (.tup xs))]])
      | some d => some (.ex (exStep d), M ++ [.ins 4 []]) := by
  have := call_star (P := prg) (n := n + 4) (f := 9) (F := ⟨1, 0, c_Row___init__, 0, true⟩) (vs := [.loc M.length]) (xs := xs) (M := M ++ [.ins 4 []]) rfl rfl rfl (by omega)
  rw [List.singleton_append] at this
  rw [this]
  unfold c_Row___init__
  have h1 := require_steps_P (n := n) (xs := xs) (M := M ++ [.ins 4 []]) hM.ins hl hs
  simp [h1]
  cases rowErr xs with
  | some d =>
    have := end_x0 (m := 0) (x := exStep d) (e := ⟨[some (.loc M.length), some (.d (.tup xs))], none⟩) (hM.ins (c := 4))
    simp [resD] at this ⊢
    exact this
  | none =>
    have h2 : MOk (M ++ [.ins 4 [("own_steps", .d (.tup xs))]]) := hM.app (by rfl)
    simp [resD, TD.setField, putL]
    have := end_n0 (e := ⟨[some (.loc M.length), some (.d (.tup xs))], none⟩) h2
    simp at this ⊢
    exact this
theorem mkRow_ok {n : Nat} {xs : List D} {M : Mem} (hM : MOk M) (hl : xs.length ≤ 1000) (hs : ∀ x ∈ xs, ps x = true) :
    callN prg (n + 6) (.mk 4) (xs.map .d) M = resD (rowD xs) (rowErr xs) M := by
  rw [call_mk (C := ⟨9, true⟩) rfl]
  rw [row_init_ok hM hl hs]
  have hM2 : okCut M.length M = true := hM
  cases rowErr xs with
  | some d => simp [resD, hM2, mkEnd]
  | none => simp [resD, freeze, fsD, hM2, rowD, mkEnd]
/-- what is added to a row -/
def partsD : D → Option (List D)
  | .tup ys => some ys
  | .obj 4 [(_, .tup ys)] => some ys
  | _ => none
theorem isi_row {xs : List D} {M : Mem} {t : Ty} : isiV prg.T t (.d (rowD xs)) M = some (.ok (.d (.bl (isiD prg.T.isb t (rowD xs)))), M) := by
  simp [rowD]
theorem parts_tup {n : Nat} {xs ys : List D} {M : Mem} (hM : MOk M) : callN prg (n + 1) (.fn 12) [.d (rowD xs), .d (.tup ys)] M = some (.ok (.d (.tup ys)), M) := by
  rw [call_fn (F := ⟨2, 0, c_Row_parts_of, 0, false⟩) rfl rfl rfl]
  unfold c_Row_parts_of
  simp [end_d0 hM]
theorem parts_row {n : Nat} {xs ys : List D} {M : Mem} (hM : MOk M) : callN prg (n + 1) (.fn 12) [.d (rowD xs), .d (rowD ys)] M = some (.ok (.d (.tup ys)), M) := by
  rw [call_fn (F := ⟨2, 0, c_Row_parts_of, 0, false⟩) rfl rfl rfl]
  unfold c_Row_parts_of
  simp [isi_row, fieldOf_row, end_d0 hM]
  simp [rowD, end_d0 hM]
theorem parts_odd {n : Nat} {xs : List D} {y : D} {M : Mem} (hM : MOk M) (h1 : ∀ ys, y ≠ .tup ys) (h2 : ∀ c fs, y ≠ .obj c fs) : callN prg (n + 1) (.fn 12) [.d (rowD xs), .d y] M = some (.ex (exStep .non), M) := by
  rw [call_fn (F := ⟨2, 0, c_Row_parts_of, 0, false⟩) rfl rfl rfl]
  unfold c_Row_parts_of
  cases y with
  | tup ys => exact (h1 ys rfl).elim
  | obj c fs => exact (h2 c fs rfl).elim
  | _ => simp [end_x0 hM]
theorem add_tup {n : Nat} {xs ys : List D} {M : Mem} (hM : MOk M) (hl : xs.length ≤ 500) (hl2 : ys.length ≤ 500) (hs : ∀ x ∈ xs, ps x = true) (hs2 : ∀ x ∈ ys, ps x = true) :
    callN prg (n + 7) (.fn 13) [.d (rowD xs), .d (.tup ys)] M = resD (rowD (xs ++ ys)) (rowErr (xs ++ ys)) M := by
  rw [call_fn (F := ⟨2, 1, c_Row___add__, 0, false⟩) rfl rfl rfl]
  unfold c_Row___add__
  have h1 := parts_tup (n := n + 5) (xs := xs) (ys := ys) hM
  have h2 := mkRow_ok (n := n) (xs := xs ++ ys) (M := M) hM (by simp; omega) (by
    intro x hx
    rcases List.mem_append.mp hx with h | h
    · exact hs x h
    · exact hs2 x h)
  have h3 : xs.length + ys.length ≤ 16777216 := by omega
  have h4 : metE prg.T "parts_of" (.d (rowD xs)) M = some (.ok 12, M) := metE_row (by decide +kernel) (by decide +kernel)
  simp only [List.map_append] at h2
  simp [fieldOf_row, h4, h1, h3, h2]
  cases rowErr (xs ++ ys) with
  | none => simp [resD, end_d0 hM]
  | some d => simp [resD, end_x0 hM]
theorem add_row {n : Nat} {xs ys : List D} {M : Mem} (hM : MOk M) (hl : xs.length ≤ 500) (hl2 : ys.length ≤ 500) (hs : ∀ x ∈ xs, ps x = true) (hs2 : ∀ x ∈ ys, ps x = true) :
    callN prg (n + 7) (.fn 13) [.d (rowD xs), .d (rowD ys)] M = resD (rowD (xs ++ ys)) (rowErr (xs ++ ys)) M := by
  rw [call_fn (F := ⟨2, 1, c_Row___add__, 0, false⟩) rfl rfl rfl]
  unfold c_Row___add__
  have h1 := parts_row (n := n + 5) (xs := xs) (ys := ys) hM
  have h2 := mkRow_ok (n := n) (xs := xs ++ ys) (M := M) hM (by simp; omega) (by
    intro x hx
    rcases List.mem_append.mp hx with h | h
    · exact hs x h
    · exact hs2 x h)
  have h3 : xs.length + ys.length ≤ 16777216 := by omega
  have h4 : metE prg.T "parts_of" (.d (rowD xs)) M = some (.ok 12, M) := metE_row (by decide +kernel) (by decide +kernel)
  simp only [List.map_append] at h2
  simp [fieldOf_row, h4, h1, h3, h2]
  cases rowErr (xs ++ ys) with
  | none => simp [resD, end_d0 hM]
  | some d => simp [resD, end_x0 hM]
theorem add_odd {n : Nat} {xs : List D} {y : D} {M : Mem} (hM : MOk M) (h1 : ∀ ys, y ≠ .tup ys) (h2 : ∀ c fs, y ≠ .obj c fs) : callN prg (n + 7) (.fn 13) [.d (rowD xs), .d y] M = some (.ex (exStep .non), M) := by
  rw [call_fn (F := ⟨2, 1, c_Row___add__, 0, false⟩) rfl rfl rfl]
  unfold c_Row___add__
  have h1 := parts_odd (n := n + 5) (xs := xs) hM h1 h2
  have h4 : metE prg.T "parts_of" (.d (rowD xs)) M = some (.ok 12, M) := metE_row (by decide +kernel) (by decide +kernel)
  simp [fieldOf_row, h4, h1, end_x0 hM]
theorem radd_tup {n : Nat} {xs ys : List D} {M : Mem} (hM : MOk M) (hl : xs.length ≤ 500) (hl2 : ys.length ≤ 500) (hs : ∀ x ∈ xs, ps x = true) (hs2 : ∀ x ∈ ys, ps x = true) :
    callN prg (n + 7) (.fn 14) [.d (rowD xs), .d (.tup ys)] M = resD (rowD (ys ++ xs)) (rowErr (ys ++ xs)) M := by
  rw [call_fn (F := ⟨2, 1, c_Row___radd__, 0, false⟩) rfl rfl rfl]
  unfold c_Row___radd__
  have h1 := parts_tup (n := n + 5) (xs := xs) (ys := ys) hM
  have h2 := mkRow_ok (n := n) (xs := ys ++ xs) (M := M) hM (by simp; omega) (by
    intro x hx
    rcases List.mem_append.mp hx with h | h
    · exact hs2 x h
    · exact hs x h)
  have h3 : ys.length + xs.length ≤ 16777216 := by omega
  have h4 : metE prg.T "parts_of" (.d (rowD xs)) M = some (.ok 12, M) := metE_row (by decide +kernel) (by decide +kernel)
  simp only [List.map_append] at h2
  simp [fieldOf_row, h4, h1, h3, h2]
  cases rowErr (ys ++ xs) with
  | none => simp [resD, end_d0 hM]
  | some d => simp [resD, end_x0 hM]
theorem met_add : prg.T.met 4 "__add__" = some 13 := by decide +kernel
theorem met_radd : prg.T.met 4 "__radd__" = some 14 := by decide +kernel
theorem obin_tup {cl : Cl} {xs ys : List D} {M : Mem} : obinV prg.T cl (.d (rowD xs)) (.d (.tup ys)) M = cl (.fn 13) [.d (rowD xs), .d (.tup ys)] M := by
  unfold obinV
  rw [metOf_row (by decide +kernel), met_add]
  simp [shape, rowD]
theorem obin_row {cl : Cl} {xs ys : List D} {M : Mem} : obinV prg.T cl (.d (rowD xs)) (.d (rowD ys)) M = cl (.fn 13) [.d (rowD xs), .d (rowD ys)] M := by
  unfold obinV
  rw [metOf_row (by decide +kernel), met_add]
  simp [shape, rowD]
theorem obin_odd {cl : Cl} {xs : List D} {y : D} {M : Mem} (h2 : ∀ c fs, y ≠ .obj c fs) : obinV prg.T cl (.d (rowD xs)) (.d y) M = cl (.fn 13) [.d (rowD xs), .d y] M := by
  unfold obinV
  rw [metOf_row (by decide +kernel), met_add]
  cases y with
  | obj c fs => exact (h2 c fs rfl).elim
  | _ => simp [shape, rowD]
theorem obin_rtup {cl : Cl} {xs ys : List D} {M : Mem} : obinV prg.T cl (.d (.tup ys)) (.d (rowD xs)) M = cl (.fn 14) [.d (rowD xs), .d (.tup ys)] M := by
  unfold obinV
  have : metOf prg.T "__add__" (.d (.tup ys)) M = none := rfl
  rw [this, metOf_row (by decide +kernel), met_radd]
end LW
set_option Elab.async false
set_option linter.all false
set_option maxRecDepth 100000
set_option maxHeartbeats 2000000
/-! the other methods of rows; handlers -/
namespace LW
open PySem L2 TD
/-! handlers -/
def xR (i : Nat) (r : Option (Flw × Mem)) : Option (Flw × Mem) := match r with
      | some (.next e1, M1) => some (.next ⟨e1.s.set i none, none⟩, M1)
      | some (.brk e1, M1) => some (.brk ⟨e1.s.set i none, none⟩, M1)
      | some (.cnt e1, M1) => some (.cnt ⟨e1.s.set i none, none⟩, M1)
      | some (.ret v, M1) => some (.ret v, M1)
      | _ => none
@[scoped simp] theorem xR_ret {i : Nat} {v : Vl} {M : Mem} : xR i (some (.ret v, M)) = some (.ret v, M) := rfl
@[scoped simp] theorem xR_next {i : Nat} {e : TD.Env} {M : Mem} : xR i (some (.next e, M)) = some (.next ⟨e.s.set i none, none⟩, M) := rfl
theorem runH_hit {cl : Cl} {i c : Nat} {b : CSs} {r : CHs} {x : Xc} {s : List (Option Vl)} {xx : Option Xc} {M : Mem} (hi : i < s.length) (h1 : (prg.XT.fs x.cls).isSome = true) (h2 : prg.T.sub x.cls c = true) :
    runH prg.T prg.rp prg.XT cl (.cons c i b r) x ⟨s, xx⟩ M = xR i (runSs prg.T prg.rp prg.XT cl b ⟨s.set i none, some x⟩ M) := by
  unfold runH
  simp [h1, h2, hi]
  rfl
theorem runH_step {cl : Cl} {i : Nat} {b : CSs} {r : CHs} {d : D} {s : List (Option Vl)} {xx : Option Xc} {M : Mem} (hi : i < s.length) :
    runH prg.T prg.rp prg.XT cl (.cons 1 i b r) (exStep d) ⟨s, xx⟩ M = xR i (runSs prg.T prg.rp prg.XT cl b ⟨s.set i none, some (exStep d)⟩ M) := runH_hit hi rfl rfl
theorem xf_step {cl : Cl} {d : D} {s : List (Option Vl)} {M : Mem} : runE prg.T prg.rp cl (.xf "index") ⟨s, some (exStep d)⟩ M = some (.ok (.d d), M) := by
  have h : prg.T.xfl 1 "index" = true := by decide +kernel
  simp [exStep, h]
def exName (d : D) : Xc := ⟨3, [("name", d)]⟩
theorem runH_name {cl : Cl} {i : Nat} {b : CSs} {r : CHs} {d : D} {s : List (Option Vl)} {xx : Option Xc} {M : Mem} (hi : i < s.length) :
    runH prg.T prg.rp prg.XT cl (.cons 3 i b r) (exName d) ⟨s, xx⟩ M = xR i (runSs prg.T prg.rp prg.XT cl b ⟨s.set i none, some (exName d)⟩ M) := runH_hit hi rfl rfl
theorem xf_name {cl : Cl} {d : D} {s : List (Option Vl)} {M : Mem} : runE prg.T prg.rp cl (.xf "name") ⟨s, some (exName d)⟩ M = some (.ok (.d d), M) := by
  have h : prg.T.xfl 3 "name" = true := by decide +kernel
  simp [exName, h]
@[scoped simp] theorem mkX3 {d : D} : mkX prg.XT 3 [d] = some (exName d) := rfl
/-! static methods -/
def wS (w : String) (x : D) : D := .tup [.str w, x]
theorem ps_w {w : String} {x : D} (h : nb x = true) : ps (wS w x) = true := by simp [ps, wS, h]
theorem shut_ok {n : Nat} {x : D} {M : Mem} (hM : MOk M) (h : nb x = true) : callN prg (n + 7) (.fn 10) [.d x] M = resD (rowD [wS "bar" x, wS "halt" x]) (rowErr [wS "bar" x, wS "halt" x]) M := by
  rw [call_fn (F := ⟨1, 0, c_Row_shut, 0, false⟩) rfl rfl rfl]
  unfold c_Row_shut
  have h1 := mkRow_ok (n := n) (xs := [wS "bar" x, wS "halt" x]) hM (by simp) (by
    intro y hy
    simp at hy
    rcases hy with rfl | rfl
    · exact ps_w h
    · exact ps_w h)
  simp [wS] at h1 ⊢
  rw [h1]
  cases rowErr [D.tup [.str (Str.ofString "bar"), x], .tup [.str (Str.ofString "halt"), x]] with
  | none => simp [resD, end_d0 hM]
  | some d => simp [resD, end_x0 hM]
def lockL (x : D) (ys : List D) : List D := wS "take" x :: (ys ++ [wS "give" x])
theorem locked_ok {n : Nat} {x : D} {ys : List D} {M : Mem} (hM : MOk M) (h : nb x = true) (hy : ∀ y ∈ ys, ps y = true) (hl : ys.length ≤ 100) : callN prg (n + 7) (.fn 11) (.d x :: ys.map .d) M = resD (rowD (lockL x ys)) (rowErr (lockL x ys)) M := by
  have := call_star (P := prg) (n := n + 6) (f := 11) (F := ⟨1, 1, c_Row_locked, 0, true⟩) (vs := [.d x]) (xs := ys) (M := M) rfl rfl rfl (by omega)
  rw [List.singleton_append] at this
  rw [this]
  unfold c_Row_locked
  have h1 := mkRow_ok (n := n) (xs := lockL x ys) hM (by simp [lockL]; omega) (by
    intro y hy2
    simp [lockL] at hy2
    rcases hy2 with rfl | h2 | rfl
    · exact ps_w h
    · exact hy y h2
    · exact ps_w h)
  have e1 : 1 + ys.length ≤ 16777216 := by omega
  have e2 : ys.length + 1 ≤ 16777216 := by omega
  have e3 : ys.length + 1 + 1 ≤ 16777216 := by omega
  have e4 : ys.length ≤ 16777214 := by omega
  simp [lockL, wS, Function.comp_def] at h1 ⊢
  simp [h1, e1, e2, e3, e4]
  cases rowErr (D.tup [.str (Str.ofString "take"), x] :: (ys ++ [.tup [.str (Str.ofString "give"), x]])) with
  | none => simp [resD, end_d0 hM]
  | some d => simp [resD, end_x0 hM]
/-! names -/
def kindW : List (Str × List Str) := [("works", ["cancel", "bar", "halt", "settle"]), ("gates", ["close", "drain"]), ("flags", ["set", "clear"]), ("locks", ["take", "give"])]
theorem strsD_map : ∀ (l : List Str), strsD (l.map .str) = some l
  | [] => rfl
  | x :: r => by
    show (strsD (r.map .str)).map (x :: ·) = _
    rw [strsD_map r]
    rfl
@[scoped simp] theorem bltD_sset {rp : D → Option Str} {ds : List D} : bltD rp .sortedSet ds = ssD ds := rfl
theorem ssD_map {l : List Str} (h : l.length < 4000) : ssD [.lst (l.map .str)] = some (.lst ((sortN l).map .str)) := by
  simp [ssD, strsD_map, h]
@[scoped simp] theorem kget_str {kvs : List (Str × D)} {z : Str} : kget kvs (.str z) = some (kvs.lookup z) := rfl
def KV : List (Str × D) := [("works", (.tup [(.str "cancel"), (.str "bar"), (.str "halt"), (.str "settle")])), ("gates", (.tup [(.str "close"), (.str "drain")])), ("flags", (.tup [(.str "set"), (.str "clear")])), ("locks", (.tup [(.str "take"), (.str "give")]))]
theorem KV_lookup {z : Str} : KV.lookup z = (kindW.lookup z).map fun l => D.tup (l.map .str) := by
  simp only [KV, kindW, List.lookup_cons, List.lookup_nil]
  cases z == Str.ofString "works" <;> cases z == Str.ofString "gates" <;> cases z == Str.ofString "flags" <;> cases z == Str.ofString "locks" <;> rfl
theorem names_ok {n : Nat} {l : List Stp} {z : Str} {ws : List Str} {M : Mem} (hM : MOk M) (hl : l.length ≤ 1000) (hz : kindW.lookup z = some ws) :
    callN prg (n + 1) (.fn 24) [.d (rowD (l.map stD)), .d (.str z)] M = some (.ok (.d (.lst ((sortN ((l.filter fun s => decide (s.1 ∈ ws)).map (·.2))).map .str))), M) := by
  rw [call_fn (F := ⟨2, 1, c_Row_names, 0, false⟩) rfl rfl rfl]
  have kv : KV.lookup z = some (.tup (ws.map .str)) := by rw [KV_lookup, hz]; rfl
  have key : ∀ a0, lcGo (lcF prg.T prg.rp (callN prg n) (.name 2) (.one (.tst (.cmp .In (.ix (.var 2) (.con (.int 0))) (.kix 0 KV (.var 1))))) (.ix (.var 2) (.con (.int 1))) [2] ⟨[a0, some (.d (.str z)), none], none⟩) (l.map stD) M = some (.ok (((l.filter fun s => decide (s.1 ∈ ws)).map (·.2)).map .str), M) := by
    intro a0
    rw [List.map_map]
    refine lc_filt _ fun s hs => ?_
    rw [lcF_at (e' := ⟨[a0, some (.d (.str z)), some (.d (stD s))], none⟩) rfl]
    by_cases c : s.1 ∈ ws
    · simp [kv, anyEq_strs, c]
    · simp [kv, anyEq_strs, c]
  have e1 : l.length ≤ 16777216 := by omega
  have e2 : ((l.filter fun s => decide (s.1 ∈ ws)).map (·.2)).length ≤ 1000 := by
    rw [List.length_map]
    exact Nat.le_trans (List.length_filter_le _ _) hl
  generalize ((l.filter fun s => decide (s.1 ∈ ws)).map (·.2)) = ys at *
  have e3 : ys.length ≤ 16777216 := by omega
  have k2 := key
  unfold c_Row_names
  have hKV : ([("works", (.tup [(.str "cancel"), (.str "bar"), (.str "halt"), (.str "settle")])), ("gates", (.tup [(.str "close"), (.str "drain")])), ("flags", (.tup [(.str "set"), (.str "clear")])), ("locks", (.tup [(.str "take"), (.str "give")]))] : List (Str × D)) = KV := rfl
  rw [hKV]
  simp [kv, fieldOf_row, e1, k2, e3, ssD_map (show ys.length < 4000 by omega), end_d0 hM]
theorem names_odd {n : Nat} {xs : List D} {x : D} {M : Mem} (hM : MOk M) (h1 : ∀ z, x = .str z → kindW.lookup z = none) (h2 : ∀ c fs, x ≠ .obj c fs) :
    callN prg (n + 1) (.fn 24) [.d (rowD xs), .d x] M = some (.ex (exName x), M) := by
  rw [call_fn (F := ⟨2, 1, c_Row_names, 0, false⟩) rfl rfl rfl]
  unfold c_Row_names
  have hKV : ([("works", (.tup [(.str "cancel"), (.str "bar"), (.str "halt"), (.str "settle")])), ("gates", (.tup [(.str "close"), (.str "drain")])), ("flags", (.tup [(.str "set"), (.str "clear")])), ("locks", (.tup [(.str "take"), (.str "give")]))] : List (Str × D)) = KV := rfl
  rw [hKV]
  cases x with
  | str z =>
    have kv : KV.lookup z = none := by rw [KV_lookup, h1 z rfl]; rfl
    simp [kv, end_x0 hM]
  | obj c fs => exact (h2 c fs rfl).elim
  | _ => simp [end_x0 hM]
end LW
set_option Elab.async false
set_option linter.all false
set_option maxRecDepth 100000
set_option maxHeartbeats 2000000
/-! the other methods of rows -/
namespace LW
open PySem L2 TD
/-! numbers, indexes -/
def wholeD (x : D) (a b : Int) : Bool :=
  match x with
  | .int i => decide (a ≤ i) && decide (i ≤ b)
  | _ => false
theorem is_whole_ok {n : Nat} {x : D} {a b : Int} {M : Mem} (hM : MOk M) (ho : ∀ c fs, x ≠ .obj c fs) : callN prg (n + 1) (.fn 0) [.d x, .d (.int a), .d (.int b)] M = some (.ok (.d (.bl (wholeD x a b))), M) := by
  rw [call_fn (F := ⟨3, 0, c_is_whole, 0, false⟩) rfl rfl rfl]
  unfold c_is_whole
  cases x with
  | int i =>
    by_cases h1 : a ≤ i
    · by_cases h2 : i ≤ b
      · simp [wholeD, h1, h2, end_d0 hM]
      · simp [wholeD, h1, h2, end_d0 hM]
    · simp [wholeD, h1, end_d0 hM]
  | obj c fs => exact (ho c fs rfl).elim
  | _ => simp [wholeD, end_d0 hM]
def exNum (d : D) : Xc := ⟨2, [("value", d)]⟩
theorem runH_num {cl : Cl} {i : Nat} {b : CSs} {r : CHs} {d : D} {s : List (Option Vl)} {xx : Option Xc} {M : Mem} (hi : i < s.length) :
    runH prg.T prg.rp prg.XT cl (.cons 2 i b r) (exNum d) ⟨s, xx⟩ M = xR i (runSs prg.T prg.rp prg.XT cl b ⟨s.set i none, some (exNum d)⟩ M) := runH_hit hi rfl rfl
theorem xf_num {cl : Cl} {d : D} {s : List (Option Vl)} {M : Mem} : runE prg.T prg.rp cl (.xf "value") ⟨s, some (exNum d)⟩ M = some (.ok (.d d), M) := by
  have h : prg.T.xfl 2 "value" = true := by decide +kernel
  simp [exNum, h]
@[scoped simp] theorem mkX2 {d : D} : mkX prg.XT 2 [d] = some (exNum d) := rfl
theorem getitem_odd {n : Nat} {xs : List D} {x : D} {M : Mem} (hM : MOk M) (ho : ∀ c fs, x ≠ .obj c fs) (h : wholeD x 0 ((xs.length : Int) - 1) = false) : callN prg (n + 2) (.fn 16) [.d (rowD xs), .d x] M = some (.ex (exNum x), M) := by
  rw [call_fn (F := ⟨2, 0, c_Row___getitem__, 0, false⟩) rfl rfl rfl]
  unfold c_Row___getitem__
  have h1 := is_whole_ok (n := n) (x := x) (a := 0) (b := (xs.length : Int) - 1) hM ho
  rw [h] at h1
  simp [fieldOf_row, h1, end_x0 hM]
theorem wholeD_at {i : Nat} {b : Int} (h : (i : Int) ≤ b) : wholeD (.int i) 0 b = true := by
  have : (0 : Int) ≤ i := by omega
  simp [wholeD, h, this]
theorem getitem_at {n i : Nat} {xs : List D} {y : D} {M : Mem} (hM : MOk M) (h : xs[i]? = some y) : callN prg (n + 2) (.fn 16) [.d (rowD xs), .d (.int i)] M = some (.ok (.d y), M) := by
  rw [call_fn (F := ⟨2, 0, c_Row___getitem__, 0, false⟩) rfl rfl rfl]
  unfold c_Row___getitem__
  have hi : i < xs.length := (List.getElem?_eq_some_iff.mp h).1
  have h1 := is_whole_ok (n := n) (x := .int i) (a := 0) (b := (xs.length : Int) - 1) hM (by simp)
  rw [wholeD_at (by omega)] at h1
  simp [fieldOf_row, h1, atI_nat h, end_d0 hM]
theorem rlen_ok {n : Nat} {xs : List D} {M : Mem} (hM : MOk M) : callN prg (n + 1) (.fn 18) [.d (rowD xs)] M = some (.ok (.d (.int xs.length)), M) := by
  rw [call_fn (F := ⟨1, 0, c_Row___len__, 0, false⟩) rfl rfl rfl]
  unfold c_Row___len__
  simp [fieldOf_row, end_d0 hM]
theorem flat_st {k : Nat} {s : Stp} : flat (k + 1) (stD s) = true := by simp [stD]
theorem allOk_st {l : List Stp} : allOk (l.map stD) = true := allOk_of fun x hx => by
  obtain ⟨s, _, rfl⟩ := List.mem_map.mp hx
  exact flat_st
theorem flats_st {k : Nat} {l : List Stp} : flats (k + 1) (l.map stD) = true := by
  rw [flats_mem]
  intro x hx
  obtain ⟨s, _, rfl⟩ := List.mem_map.mp hx
  exact flat_st
theorem contains_ok {n : Nat} {l : List Stp} {y : D} {M : Mem} (hM : MOk M) (hy : ps y = true) : callN prg (n + 3) (.fn 15) [.d (rowD (l.map stD)), .d y] M = some (.ok (.d (.bl (isStepD y && anyEq y (l.map stD)))), M) := by
  rw [call_fn (F := ⟨2, 0, c_Row___contains__, 0, false⟩) rfl rfl rfl]
  unfold c_Row___contains__
  have h1 := is_step_P (n := n) (x := y) hM hy
  cases h : isStepD y with
  | false => simp [h1, h, end_d0 hM]
  | true =>
    obtain ⟨s, rfl, _⟩ := isStepD_of h
    simp [h1, h, fieldOf_row, allOk_st, flat_st, end_d0 hM]
theorem eqDs_st : ∀ {l m : List Stp}, eqDs (l.map stD) (m.map stD) = decide (l = m)
  | [], [] => rfl
  | [], _ :: _ => rfl
  | _ :: _, [] => rfl
  | (a, b) :: l, (c, d) :: m => by
    show (eqD (stD (a, b)) (stD (c, d)) && eqDs (l.map stD) (m.map stD)) = _
    rw [eqDs_st]
    by_cases h1 : a = c
    · by_cases h2 : b = d
      · by_cases h3 : l = m
        · simp [stD, h1, h2, h3]
        · simp [stD, h1, h2, h3]
      · simp [stD, h1, h2]
    · simp [stD, h1]
theorem eq_row {n : Nat} {l m : List Stp} {M : Mem} (hM : MOk M) : callN prg (n + 1) (.fn 19) [.d (rowD (l.map stD)), .d (rowD (m.map stD))] M = some (.ok (.d (.bl (decide (l = m)))), M) := by
  rw [call_fn (F := ⟨2, 0, c_Row___eq__, 0, false⟩) rfl rfl rfl]
  unfold c_Row___eq__
  have e1 : isiV prg.T (.cls 4) (.d (rowD (m.map stD))) M = some (.ok (.d (.bl true)), M) := by rw [isi_row]; simp [rowD]
  simp [fieldOf_row, e1, flats_st, eqDs_st, end_d0 hM]
theorem eq_odd {n : Nat} {xs : List D} {y : D} {M : Mem} (hM : MOk M) (h : ∀ c fs, y ≠ .obj c fs) : callN prg (n + 1) (.fn 19) [.d (rowD xs), .d y] M = some (.ok (.d (.bl false)), M) := by
  rw [call_fn (F := ⟨2, 0, c_Row___eq__, 0, false⟩) rfl rfl rfl]
  unfold c_Row___eq__
  cases y with
  | obj c fs => exact (h c fs rfl).elim
  | _ => simp [end_d0 hM]
theorem begins_ok {n : Nat} {l m : List Stp} {M : Mem} (hM : MOk M) : callN prg (n + 1) (.fn 21) [.d (rowD (l.map stD)), .d (rowD (m.map stD))] M = some (.ok (.d (.bl (decide (l = m.take l.length)))), M) := by
  rw [call_fn (F := ⟨2, 0, c_Row_begins, 0, false⟩) rfl rfl rfl]
  unfold c_Row_begins
  simp [fieldOf_row]
  rw [← List.map_take]
  simp [flats_st, eqDs_st, end_d0 hM, -List.map_take]
theorem without_odd {n : Nat} {xs : List D} {x : D} {M : Mem} (hM : MOk M) (ho : ∀ c fs, x ≠ .obj c fs) (h : wholeD x 0 ((xs.length : Int) - 1) = false) : callN prg (n + 2) (.fn 22) [.d (rowD xs), .d x] M = some (.ex (exNum x), M) := by
  rw [call_fn (F := ⟨2, 1, c_Row_without, 0, false⟩) rfl rfl rfl]
  unfold c_Row_without
  have h1 := is_whole_ok (n := n) (x := x) (a := 0) (b := (xs.length : Int) - 1) hM ho
  rw [h] at h1
  simp [fieldOf_row, h1, end_x0 hM]
theorem without_at {n i : Nat} {xs : List D} {M : Mem} (hM : MOk M) (hi : i < xs.length) (hl : xs.length ≤ 500) (hs : ∀ x ∈ xs, ps x = true) : callN prg (n + 7) (.fn 22) [.d (rowD xs), .d (.int i)] M = resD (rowD (xs.take i ++ xs.drop (i + 1))) (rowErr (xs.take i ++ xs.drop (i + 1))) M := by
  rw [call_fn (F := ⟨2, 1, c_Row_without, 0, false⟩) rfl rfl rfl]
  unfold c_Row_without
  have h1 := is_whole_ok (n := n + 5) (x := .int i) (a := 0) (b := (xs.length : Int) - 1) hM (by simp)
  rw [wholeD_at (by omega)] at h1
  have h2 := mkRow_ok (n := n) (xs := xs.take i ++ xs.drop (i + 1)) hM (by simp; omega) (by
    intro x hx
    rcases List.mem_append.mp hx with h | h
    · exact hs x (List.mem_of_mem_take h)
    · exact hs x (List.mem_of_mem_drop h))
  have h3 : (xs.take i).length + (xs.drop (i + 1)).length ≤ 16777216 := by simp; omega
  simp only [List.map_append] at h2
  simp [fieldOf_row, h1, -List.map_take, -List.map_drop, -List.length_take, -List.length_drop, h3, h2]
  cases rowErr (xs.take i ++ xs.drop (i + 1)) with
  | none => simp [resD, end_d0 hM]
  | some d => simp [resD, end_x0 hM]
theorem held_odd {n : Nat} {xs : List D} {x : D} {M : Mem} (hM : MOk M) (ho : ∀ c fs, x ≠ .obj c fs) (h : wholeD x 0 ((xs.length : Int) + 1) = false) : callN prg (n + 2) (.fn 23) [.d (rowD xs), .d x] M = some (.ex (exNum x), M) := by
  rw [call_fn (F := ⟨2, 2, c_Row_held, 0, false⟩) rfl rfl rfl]
  unfold c_Row_held
  have h1 := is_whole_ok (n := n) (x := x) (a := 0) (b := (xs.length : Int) + 1) hM ho
  rw [h] at h1
  simp [fieldOf_row, h1, end_x0 hM]
def keptL (own : List Str) : List Stp → List Str
  | [] => own
  | s :: l => keptL (nextOwn s own) l
theorem held_at {n i : Nat} {l : List Stp} {M : Mem} (hM : MOk M) (hi : i ≤ l.length + 1) (hl : l.length ≤ 500) : callN prg (n + 2) (.fn 23) [.d (rowD (l.map stD)), .d (.int i)] M = some (.ok (.d (.tup ((keptL [] (l.take i)).map .str))), M) := by
  rw [call_fn (F := ⟨2, 2, c_Row_held, 0, false⟩) rfl rfl rfl]
  unfold c_Row_held
  have h1 := is_whole_ok (n := n) (x := .int i) (a := 0) (b := (l.length : Int) + 1) hM (by simp)
  rw [wholeD_at (by omega)] at h1
  have h2 : min i l.length ≤ 16777216 := by omega
  simp [fieldOf_row, h1, h2]
  rw [← List.map_take]
  have hlen : (l.take i).length ≤ 500 := by simp; omega
  generalize l.take i = m at *
  obtain ⟨f, M', hr, hq⟩ := for_inv (T := prg.T) (rp := prg.rp) (XT := prg.XT) (cl := callN prg (n + 1)) (g := .name 3) (b := l_Row_held_1)
    (Q := fun f M' => M' = M ∧ ∃ a, f = .next ⟨[some (.d (rowD (l.map stD))), some (.d (.int i)), some (.d (.tup ((keptL [] m).map .str))), a], none⟩)
    (fun xs e M' => ∃ (r : List Stp) (own : List Str) (a : Option Vl), own.length + r.length ≤ 500 ∧ xs = r.map stD ∧ e = ⟨[some (.d (rowD (l.map stD))), some (.d (.int i)), some (.d (.tup (own.map .str))), a], none⟩ ∧ M' = M ∧ keptL own r = keptL [] m)
    (by
      rintro x xs e M' ⟨r, own, a, ho, hxs, rfl, rfl, hf⟩
      cases r with
      | nil => cases hxs
      | cons s r =>
        simp only [List.map_cons] at hxs
        injection hxs with h1 h2
        subst h1
        obtain ⟨w, x⟩ := s
        refine ⟨_, rfl, ?_⟩
        unfold l_Row_held_1
        have z4 : own.length + 1 ≤ 16777216 := by simp at ho; omega
        by_cases c1 : w = "take"
        · subst c1
          refine ⟨_, _, by simp [stD, z4]; first | exact ⟨rfl, rfl⟩ | rfl, ?_⟩
          exact ⟨r, own ++ [x], some (.d (.tup [.str "take", .str x])), by simp at ho ⊢; omega, h2, by simp, rfl, by rw [← hf]; simp [keptL, nextOwn]⟩
        · by_cases c2 : w = "give"
          · subst c2
            refine ⟨_, _, by simp [stD]; first | exact ⟨rfl, rfl⟩ | rfl, ?_⟩
            exact ⟨r, own.dropLast, some (.d (.tup [.str "give", .str x])), by simp at ho ⊢; omega, h2, by simp [List.map_dropLast], rfl, by rw [← hf]; simp [keptL, nextOwn]⟩
          · refine ⟨_, _, by simp [stD, c1, c2]; first | exact ⟨rfl, rfl⟩ | rfl, ?_⟩
            exact ⟨r, own, _, by simp at ho ⊢; omega, h2, rfl, rfl, by rw [← hf]; simp [keptL, nextOwn, c1, c2]⟩)
    (by
      rintro e M' ⟨r, own, a, ho, hxs, rfl, rfl, hf⟩
      cases r with
      | nil => exact ⟨rfl, _, by rw [← hf]; rfl⟩
      | cons s r => cases hxs)
    (m.map stD) _ _ ⟨m, [], none, by simpa using hlen, rfl, rfl, rfl, rfl⟩
  simp only [List.map_nil] at hr
  rw [hr]
  obtain ⟨rfl, a, rfl⟩ := hq
  simp [end_d0 hM]
end LW
set_option Elab.async false
set_option linter.all false
set_option maxRecDepth 100000
set_option maxHeartbeats 2000000
/-! the law's own look at takes and gives -/
namespace LW
open PySem L2 TD
theorem fault_ok {n : Nat} {l : List Stp} {M : Mem} (hM : MOk M) (hl : l.length ≤ 1000) (hw : ∀ s ∈ l, s.1 ≠ "piece") :
    callN prg (n + 1) (.fn 31) [.d (.lst (l.map stD))] M = some (.ok (.d (optD (firstT 0 (wrongsL [] [] l)))), M) := by
  rw [call_fn (F := ⟨1, 4, c__law_fault, 0, false⟩) rfl rfl rfl]
  unfold c__law_fault
  have q1 : l.length ≤ 16777216 := by omega
  simp [q1]
  obtain ⟨f, M', hr, hq⟩ := for_inv (T := prg.T) (rp := prg.rp) (XT := prg.XT) (cl := callN prg n) (g := .tup (.cons (.name 2) (.cons (.tup (.cons (.name 3) (.cons (.name 4) .nil))) .nil))) (b := l__law_fault_1)
    (Q := fun f M' => M' = M ∧ match firstT 0 (wrongsL [] [] l) with | none => ∃ e, f = .next e | some i => f = .ret (.d (.int i)))
    (fun xs e M' => ∃ (k : Nat) (own : List Str) (a b c : Option Vl), k ≤ l.length ∧ own.length ≤ k ∧ xs = zipEnum k ((l.drop k).map stD) ∧ e = ⟨[some (.d (.lst (l.map stD))), some (.d (.lst (own.map .str))), a, b, c], none⟩ ∧ M' = M ∧ firstT k (wrongsL [] own (l.drop k)) = firstT 0 (wrongsL [] [] l))
    (by
      rintro x xs e M' ⟨k, own, a, b, c, hk, ho, hxs, rfl, rfl, hf⟩
      obtain ⟨s, r, hd⟩ : ∃ s r, l.drop k = s :: r := by
        cases q : l.drop k with
        | nil => rw [q] at hxs; cases hxs
        | cons s r => exact ⟨s, r, rfl⟩
      have hkl : k < l.length := by
        by_cases z : k < l.length
        · exact z
        · rw [List.drop_eq_nil_of_le (by omega)] at hd; cases hd
      have hr : l.drop (k + 1) = r := by
        have := List.drop_drop (i := 1) (j := k) (l := l)
        rw [hd] at this
        simpa [Nat.add_comm] using this.symm
      have hs : s ∈ l := List.mem_of_mem_drop (i := k) (by rw [hd]; simp)
      rw [hd] at hxs hf
      simp only [List.map_cons, zipEnum] at hxs
      injection hxs with h1 h2
      subst h1
      obtain ⟨w, x⟩ := s
      refine ⟨⟨[some (.d (.lst (l.map stD))), some (.d (.lst (own.map .str))), some (.d (.int k)), some (.d (.str w)), some (.d (.str x))], none⟩, rfl, ?_⟩
      unfold l__law_fault_1
      have z1 : (l.map stD).drop (k + 1) = r.map stD := by rw [← List.map_drop, hr]
      have g1 : anyEq (.tup [.str "give", .str x]) (r.map stD) = decide ((("give" : Str), x) ∈ r) := anyEq_stps (x := ("give", x))
      have z4 : own.length + 1 ≤ 16777216 := by omega
      have stop : wrongB (w, x) own own r = true → M' = M' ∧ match firstT 0 (wrongsL [] [] l) with | none => ∃ e, Flw.ret (.d (.int k)) = .next e | some i => Flw.ret (.d (.int k)) = .ret (.d (.int i)) := by
        intro h
        rw [← hf]
        simp [wrongsL, firstT, h]
      have go : wrongB (w, x) own own r = false → ∀ own', own' = nextOwn (w, x) own → ∃ (k_1 : Nat) (own_1 : List Str) (a b c : Option Vl), k_1 ≤ l.length ∧ own_1.length ≤ k_1 ∧ xs = zipEnum k_1 ((l.drop k_1).map stD) ∧ (⟨[some (.d (.lst (l.map stD))), some (.d (.lst (own'.map .str))), some (.d (.int k)), some (.d (.str w)), some (.d (.str x))], none⟩ : TD.Env) = ⟨[some (.d (.lst (l.map stD))), some (.d (.lst (own_1.map .str))), a, b, c], none⟩ ∧ M' = M' ∧ firstT k_1 (wrongsL [] own_1 (l.drop k_1)) = firstT 0 (wrongsL [] [] l) := by
        rintro h _ rfl
        refine ⟨k + 1, nextOwn (w, x) own, _, _, _, by omega, ?_, by rw [h2, hr], rfl, rfl, ?_⟩
        · have := nextOwn_len (s := (w, x)) (own := own)
          omega
        · rw [hr, ← hf]
          simp [wrongsL, firstT, h]
      by_cases c1 : w = "take"
      · subst c1
        by_cases c2 : x ∈ own
        · refine ⟨_, _, by simp [z1, g1, anyEq_strs, c2]; first | exact ⟨rfl, rfl⟩ | rfl, ?_⟩
          exact stop (by simp [wrongB, c2])
        · by_cases c3 : (("give" : Str), x) ∈ r
          · refine ⟨_, _, by simp [z1, g1, anyEq_strs, c2, c3, z4]; first | exact ⟨rfl, rfl⟩ | rfl, ?_⟩
            have := go (by simp [wrongB, c2, c3]) (own ++ [x]) (by simp [nextOwn])
            simpa using this
          · refine ⟨_, _, by simp [z1, g1, anyEq_strs, c2, c3, z4]; first | exact ⟨rfl, rfl⟩ | rfl, ?_⟩
            exact stop (by simp [wrongB, c2, c3])
      · by_cases c2 : w = "give"
        · subst c2
          cases q : own.getLast? with
          | none =>
            have : own = [] := by simpa using q
            subst this
            refine ⟨_, _, by simp [z1, g1, anyEq_strs]; first | exact ⟨rfl, rfl⟩ | rfl, ?_⟩
            exact stop (by simp [wrongB])
          | some z =>
            have hne : own ≠ [] := by rintro rfl; simp at q
            have h3 : (own.map D.str).getLast? = some (.str z) := by rw [List.getLast?_map, q]; rfl
            by_cases c3 : z = x
            · subst c3
              refine ⟨_, _, by simp [z1, g1, anyEq_strs, eqDs_nil_iff, hne, h3]; first | exact ⟨rfl, rfl⟩ | rfl, ?_⟩
              have := go (by simp [wrongB, hne, q]) own.dropLast (by simp [nextOwn])
              simpa [List.map_dropLast] using this
            · refine ⟨_, _, by simp [z1, g1, anyEq_strs, eqDs_nil_iff, hne, h3, c3]; first | exact ⟨rfl, rfl⟩ | rfl, ?_⟩
              exact stop (by simp [wrongB, hne, q, c3])
        · refine ⟨_, _, by simp [z1, g1, anyEq_strs, c1, c2]; first | exact ⟨rfl, rfl⟩ | rfl, ?_⟩
          exact go (by have := hw _ hs; simp at this; simp [wrongB, c1, c2, this]) own (by simp [nextOwn, c1, c2]))
    (by
      rintro e M' ⟨k, own, a, b, c, hk, ho, hxs, rfl, rfl, hf⟩
      have : l.drop k = [] := by
        cases q : l.drop k with
        | nil => rfl
        | cons s r => rw [q] at hxs; cases hxs
      rw [this] at hf
      rw [← hf]
      exact ⟨rfl, _, rfl⟩)
    (zipEnum 0 (l.map stD)) _ _ ⟨0, [], none, none, none, by omega, by simp, by simp, rfl, rfl, by simp⟩
  simp only [List.map_nil] at hr
  rw [hr]
  obtain ⟨rfl, hq⟩ := hq
  cases q : firstT 0 (wrongsL [] [] l) with
  | none =>
    rw [q] at hq
    obtain ⟨e, rfl⟩ := hq
    simp [optD, end_d0 hM]
  | some i =>
    rw [q] at hq
    subst hq
    simp [optD, end_d0 hM]
end LW
set_option Elab.async false
set_option linter.all false
set_option maxRecDepth 100000
set_option maxHeartbeats 2000000
/-! the cells of a script -/
namespace LW
open PySem L2 TD
@[scoped simp] theorem flats_ints {n : Nat} : ∀ {l : List Int}, flats n (l.map .int) = true
  | [] => by simp
  | y :: l => by simp [flats_ints (l := l)]
/-- the cells of a script -/
def cellsOf (m : Nat) (ns : List Int) : List Int := ns.take m ++ if ns = [] then [7] else []
theorem cells_run {cl : Cl} {ns : List Int} {e : TD.Env} {k : Nat} (h : e.s[0]? = some (some (.loc 0))) (hk : k ≤ 100) (hn : ns.length ≤ 1000) :
    runI prg.T prg.rp cl (.enm (.bin .Add (.sl (.var 0) .none (.some (.con (.int k)))) (.bin .Mult (.lst (.cons (.con (.int 7)) .nil)) (.blt .int (.cons (.cmp .Eq (.var 0) (.lst .nil)) .nil))))) e [.scr (ns.map .int)] = some (.ok (zipEnum 0 ((cellsOf k ns).map .int)), [.scr (ns.map .int)]) := by
  obtain ⟨s, xx⟩ := e
  have h1 : peekW (.loc 0) [.scr (ns.map .int)] = some (.ok (.lst (ns.map .int)), [.scr (ns.map .int)]) := rfl
  have h2 : opC .Eq (.loc 0) (.d (.lst [])) [.scr (ns.map .int)] = some (.ok (.d (.bl (decide (ns = [])))), [.scr (ns.map .int)]) := by
    unfold opC
    rw [bind_at, h1]
    simp [eqDs_nil_iff, bind_at]
  have h3 : s[0]? = some (some (.loc 0)) := h
  have e1 : min k ns.length ≤ 16777216 := by omega
  have e2 : min k ns.length + 1 ≤ 16777216 := by omega
  cases ns with
  | nil =>
    simp at h1 h2
    simp [h3, h1, h2, cellsOf]
  | cons a ns =>
    simp at h1 h2 e1 e2
    simp [h3, h1, h2, cellsOf, e1, e2, List.map_take]
theorem noIns_scr {xs : List D} : noIns [.scr xs] := by
  intro mo hm c fs e
  rw [List.mem_singleton.mp hm] at e
  cases e
end LW
set_option Elab.async false
set_option linter.all false
set_option maxRecDepth 100000
set_option maxHeartbeats 2000000
/-! k10: the law's own lists -/
namespace LW
open PySem L2 TD
/-- Row.steps, its list live -/
theorem steps_1 {n : Nat} {xs : List D} {M : Mem} (hM : MOk M) (hl : xs.length ≤ 1000) : callN prg (n + 1) (.fn 20) [.d (rowD xs)] M = some (.ok (.loc M.length), M ++ [.lst xs]) := by
  rw [call_fn (F := ⟨1, 0, c_Row_steps, 1, false⟩) rfl rfl rfl]
  unfold c_Row_steps
  have h2 : xs.length ≤ 16777216 := by omega
  have hM2 : okCut M.length M = true := hM
  simp [fieldOf_row, toDs_map, h2, endF, fin, okCut, hM2]
def kindS (w : Str) : Str := if w ∈ ([("cancel" : Str), "bar", "halt", "settle"] : List Str) then "works" else if w ∈ ([("close" : Str), "drain"] : List Str) then "gates" else if w ∈ ([("set" : Str), "clear"] : List Str) then "flags" else "locks"
theorem kind_ok {n : Nat} {w : Str} {M : Mem} (hM : MOk M) : callN prg (n + 1) (.fn 32) [.d (.str w)] M = some (.ok (.d (.str (kindS w))), M) := by
  rw [call_fn (F := ⟨1, 0, c__law_kind, 0, false⟩) rfl rfl rfl]
  unfold c__law_kind
  have h1 := anyEq_strs (x := w) (l := ["cancel", "bar", "halt", "settle"])
  have h2 := anyEq_strs (x := w) (l := ["close", "drain"])
  have h3 := anyEq_strs (x := w) (l := ["set", "clear"])
  simp only [List.map_cons, List.map_nil] at h1 h2 h3
  unfold kindS
  by_cases c1 : w ∈ ([("cancel" : Str), "bar", "halt", "settle"] : List Str)
  · simp [-anyEq_cons, -anyEq_nil, h1, -List.mem_cons, c1, end_d0 hM]
  · by_cases c2 : w ∈ ([("close" : Str), "drain"] : List Str)
    · simp [-anyEq_cons, -anyEq_nil, h1, h2, -List.mem_cons, c1, c2, end_d0 hM]
    · by_cases c3 : w ∈ ([("set" : Str), "clear"] : List Str)
      · simp [-anyEq_cons, -anyEq_nil, h1, h2, h3, -List.mem_cons, c1, c2, c3, end_d0 hM]
      · simp [-anyEq_cons, -anyEq_nil, h1, h2, h3, -List.mem_cons, c1, c2, c3, end_d0 hM]
theorem kept_ok {n : Nat} {l : List Stp} {M : Mem} (hM : MOk M) (hl : l.length ≤ 500) : callN prg (n + 1) (.fn 34) [.d (.lst (l.map stD))] M = some (.ok (.d (.tup ((keptL [] l).map .str))), M) := by
  rw [call_fn (F := ⟨1, 3, c__law_kept, 0, false⟩) rfl rfl rfl]
  unfold c__law_kept
  have h2 : l.length ≤ 16777216 := by omega
  simp [h2]
  obtain ⟨f, M', hr, hq⟩ := for_inv (T := prg.T) (rp := prg.rp) (XT := prg.XT) (cl := callN prg n) (g := .tup (.cons (.name 2) (.cons (.name 3) .nil))) (b := l__law_kept_1)
    (Q := fun f M' => M' = M ∧ ∃ a b, f = .next ⟨[some (.d (.lst (l.map stD))), some (.d (.lst ((keptL [] l).map .str))), a, b], none⟩)
    (fun xs e M' => ∃ (r : List Stp) (own : List Str) (a b : Option Vl), own.length + r.length ≤ 500 ∧ xs = r.map stD ∧ e = ⟨[some (.d (.lst (l.map stD))), some (.d (.lst (own.map .str))), a, b], none⟩ ∧ M' = M ∧ keptL own r = keptL [] l)
    (by
      rintro x xs e M' ⟨r, own, a, b, ho, hxs, rfl, rfl, hf⟩
      cases r with
      | nil => cases hxs
      | cons s r =>
        simp only [List.map_cons] at hxs
        injection hxs with h1 h2
        subst h1
        obtain ⟨w, x⟩ := s
        refine ⟨⟨[some (.d (.lst (l.map stD))), some (.d (.lst (own.map .str))), some (.d (.str w)), some (.d (.str x))], none⟩, rfl, ?_⟩
        unfold l__law_kept_1
        have z4 : own.length + 1 ≤ 16777216 := by simp at ho; omega
        by_cases c1 : w = "take"
        · subst c1
          refine ⟨_, _, by simp [z4]; first | exact ⟨rfl, rfl⟩ | rfl, ?_⟩
          exact ⟨r, own ++ [x], some (.d (.str "take")), some (.d (.str x)), by simp at ho ⊢; omega, h2, by simp, rfl, by rw [← hf]; simp [keptL, nextOwn]⟩
        · by_cases c2 : w = "give"
          · subst c2
            refine ⟨_, _, by simp; first | exact ⟨rfl, rfl⟩ | rfl, ?_⟩
            exact ⟨r, own.dropLast, some (.d (.str "give")), some (.d (.str x)), by simp at ho ⊢; omega, h2, by simp [List.map_dropLast], rfl, by rw [← hf]; simp [keptL, nextOwn]⟩
          · refine ⟨_, _, by simp [c1, c2]; first | exact ⟨rfl, rfl⟩ | rfl, ?_⟩
            exact ⟨r, own, _, _, by simp at ho ⊢; omega, h2, rfl, rfl, by rw [← hf]; simp [keptL, nextOwn, c1, c2]⟩)
    (by
      rintro e M' ⟨r, own, a, b, ho, hxs, rfl, rfl, hf⟩
      cases r with
      | nil => exact ⟨rfl, _, _, by rw [← hf]; rfl⟩
      | cons s r => cases hxs)
    (l.map stD) _ _ ⟨l, [], none, none, by simpa using hl, rfl, rfl, rfl, rfl⟩
  simp only [List.map_nil] at hr
  rw [hr]
  obtain ⟨rfl, a, b, rfl⟩ := hq
  simp [end_d0 hM]
/-! takes and gives that are right -/
def okStep (s : Stp) (own : List Str) : Prop := (s.1 = "take" → s.2 ∉ own) ∧ (s.1 = "give" → own.getLast? = some s.2) ∧ s.1 ≠ "piece"
def BalP : List Str → List Stp → Prop
  | _, [] => True
  | own, s :: r => okStep s own ∧ BalP (nextOwn s own) r
theorem BalP.snoc {s : Stp} : ∀ {own : List Str} {l : List Stp}, BalP own l → okStep s (keptL own l) → BalP own (l ++ [s])
  | _, [], _, h => ⟨h, trivial⟩
  | own, t :: r, h, h2 => ⟨h.1, BalP.snoc h.2 h2⟩
theorem keptL_snoc {s : Stp} : ∀ {own : List Str} {l : List Stp}, keptL own (l ++ [s]) = nextOwn s (keptL own l)
  | _, [] => rfl
  | own, t :: r => keptL_snoc (own := nextOwn t own) (l := r)
theorem BalP.give {x : Str} : ∀ {own : List Str} {l : List Stp}, BalP own l → keptL own l = [] → x ∈ own → (("give" : Str), x) ∈ l
  | own, [], _, h, hx => by
    have : own = [] := h
    rw [this] at hx
    cases hx
  | own, (w, y) :: r, hb, h, hx => by
    by_cases c1 : w = "take"
    · subst c1
      have e1 : nextOwn ("take", y) own = own ++ [y] := by simp [nextOwn]
      have h1 := hb.2
      have h2 : keptL (nextOwn ("take", y) own) r = [] := h
      rw [e1] at h1 h2
      exact List.mem_cons_of_mem _ (BalP.give h1 h2 (List.mem_append_left _ hx))
    · by_cases c2 : w = "give"
      · subst c2
        have e1 : nextOwn ("give", y) own = own.dropLast := by simp [nextOwn]
        have h1 := hb.2
        have h2 : keptL (nextOwn ("give", y) own) r = [] := h
        rw [e1] at h1 h2
        have hl := hb.1.2.1 rfl
        by_cases c3 : x = y
        · rw [c3]; exact List.mem_cons_self ..
        · refine List.mem_cons_of_mem _ (BalP.give h1 h2 ?_)
          obtain ⟨zs, rfl⟩ := List.getLast?_eq_some_iff.mp hl
          simp [c3] at hx
          simpa using hx
      · have e1 : nextOwn (w, y) own = own := by simp [nextOwn, c1, c2]
        have h1 := hb.2
        have h2 : keptL (nextOwn (w, y) own) r = [] := h
        rw [e1] at h1 h2
        exact List.mem_cons_of_mem _ (BalP.give h1 h2 hx)
theorem BalP.fine : ∀ {k : Nat} {own : List Str} {l : List Stp}, BalP own l → keptL own l = [] → firstT k (wrongsL [] own l) = none
  | _, _, [], _, _ => rfl
  | k, own, (w, x) :: r, hb, h => by
    have ih := BalP.fine (k := k + 1) hb.2 h
    have : wrongB (w, x) own own r = false := by
      by_cases c1 : w = "take"
      · subst c1
        have e1 : nextOwn ("take", x) own = own ++ [x] := by simp [nextOwn]
        have h1 := hb.2
        have h2 : keptL (nextOwn ("take", x) own) r = [] := h
        rw [e1] at h1 h2
        have := BalP.give h1 h2 (x := x) (by simp)
        simp [wrongB, this, hb.1.1 rfl]
      · by_cases c2 : w = "give"
        · subst c2
          have hl := hb.1.2.1 rfl
          have hne : own ≠ [] := by rintro rfl; simp at hl
          simp [wrongB, hl, hne]
        · have := hb.1.2.2
          simp at this
          simp [wrongB, c1, c2, this]
    simp [wrongsL, firstT, this, ih]
end LW
set_option Elab.async false
set_option linter.all false
set_option maxRecDepth 100000
set_option maxHeartbeats 2000000
/-! k10: the steps that are chosen -/
namespace LW
open PySem L2 TD
def condOf : CSs → CT
  | .cons (.ife c _ _) _ => c
  | _ => .val (.con .non)
def thenOf : CSs → CSs
  | .cons (.ife _ a _) _ => a
  | _ => .nil
def elseOf : CSs → CSs
  | .cons (.ife _ _ b) _ => b
  | _ => .nil
theorem tR_id {r : Option (Flw × Mem)} : tR r (fun e M => some (.next e, M)) = r := by
  rcases r with _ | ⟨f, M⟩
  · rfl
  · cases f <;> rfl
theorem run_ife {T : Tab} {rp : D → Option Str} {XT : XTab} {cl : Cl} {c : CSs} {e : TD.Env} {M : Mem} (h : c = .cons (.ife (condOf c) (thenOf c) (elseOf c)) .nil) :
    runSs T rp XT cl c e M = sR e (runT T rp cl (condOf c) e M) fun k M => if k = true then runSs T rp XT cl (thenOf c) e M else runSs T rp XT cl (elseOf c) e M := by
  conv => lhs; rw [h]
  show tR (runS T rp XT cl (.ife (condOf c) (thenOf c) (elseOf c)) e M) (fun e M => some (.next e, M)) = _
  rw [tR_id]
  show sR e (runT T rp cl (condOf c) e M) (fun k => if k then runSs T rp XT cl (thenOf c) e else runSs T rp XT cl (elseOf c) e) = _
  congr 1
  funext k M
  cases k <;> rfl
section
variable {N : Mem} {len : Nat} {xs : List D} {v : D}
theorem pkW (h : N.length = len) : peekW (.loc len) (N ++ [.lst xs]) = some (.ok (.lst xs), N ++ [.lst xs]) := by subst h; simp [peekW]
theorem lstE_at (h : N.length = len) : lstE (.loc len) (N ++ [.lst xs]) = some (.ok (), N ++ [.lst xs]) := by subst h; simp [lstE, peek]
theorem mutV_at (h : N.length = len) (hl : xs.length < 16777216) : mutV .append (.loc len) [.d v] (N ++ [.lst xs]) = some (.ok (), N ++ [.lst (xs ++ [v])]) := by subst h; simp [hl]
end
def eight : List Str := ["cancel", "bar", "halt", "settle", "close", "drain", "set", "clear"]
def chE (p len : Nat) (ns : List Str) (most : Nat) (own : List Str) (a6 a7 a8 : Option Vl) : TD.Env :=
  ⟨[some (.loc p), some (.d (.lst (ns.map .str))), some (.d (.int most)), some (.d (.lst (eight.map .str))), some (.loc len), some (.d (.lst (own.map .str))), a6, a7, a8], none⟩
def cB : CSs := tlS l__law_chosen_1
def cE : CSs := elseOf cB
section
variable {n p len most : Nat} {ns own : List Str} {a6 a7 a8 : Option Vl} {l : List Stp} {N : Mem}
abbrev rc (n : Nat) := callN prg (n + 2)
theorem give_run {z : Str} (hN : StP p len N) (hl : l.length ≤ 100) (hz : own.getLast? = some z) :
    runSs prg.T prg.rp prg.XT (rc n) (thenOf cB) (chE p len ns most own a6 a7 a8) (N ++ [.lst (l.map stD)]) = some (.next (chE p len ns most own.dropLast a6 a7 a8), N ++ [.lst ((l ++ [(("give" : Str), z)]).map stD)]) := by
  unfold thenOf cB tlS l__law_chosen_1 chE
  have h1 : (own.map D.str).getLast? = some (.str z) := by rw [List.getLast?_map, hz]; rfl
  have hM : ∀ v, mutV .append (.loc len) [.d v] (N ++ [.lst (l.map stD)]) = some (.ok (), N ++ [.lst (l.map stD ++ [v])]) := fun v => mutV_at hN.2.2.1 (by simp; omega)
  simp [h1, lstE_at hN.2.2.1, hM, stD, List.map_dropLast]
theorem take_run {free : List Str} (hN : StP p len N) (hl : l.length ≤ 100) (ho : own.length ≤ 100) (hf : free ≠ []) (hf2 : free.length ≤ 100) :
    ∃ z N', z ∈ free ∧ StP p len N' ∧ runSs prg.T prg.rp prg.XT (rc n) (thenOf cE) (chE p len ns most own a6 (some (.d (.lst (free.map .str)))) a8) (N ++ [.lst (l.map stD)]) = some (.next (chE p len ns most (own ++ [z]) a6 (some (.d (.lst (free.map .str)))) a8), N' ++ [.lst ((l ++ [(("take" : Str), z)]).map stD)]) := by
  obtain ⟨v, N', h1, h2, h3⟩ := pick_bh (n := n) (xs := l.map stD) (zs := free.map .str) hN (by simpa using hf) (by simp; omega)
  obtain ⟨z, hz, rfl⟩ := List.mem_map.mp h2
  refine ⟨z, N', hz, h3, ?_⟩
  unfold thenOf cE elseOf cB tlS l__law_chosen_1 chE
  have hM : ∀ v, mutV .append (.loc len) [.d v] (N' ++ [.lst (l.map stD)]) = some (.ok (), N' ++ [.lst (l.map stD ++ [v])]) := fun v => mutV_at h3.2.2.1 (by simp; omega)
  have e1 : own.length + 1 ≤ 16777216 := by omega
  simp [rc, h1, e1, lstE_at h3.2.2.1, hM, stD]
theorem third_run (hN : StP p len N) (hl : l.length ≤ 100) (ho : l.length + own.length < most) (hn : ns ≠ []) (hn2 : ns.length ≤ 100) :
    ∃ w z N', w ∈ eight ∧ z ∈ ns ∧ StP p len N' ∧ runSs prg.T prg.rp prg.XT (rc n) (elseOf cE) (chE p len ns most own a6 a7 a8) (N ++ [.lst (l.map stD)]) = some (.next (chE p len ns most own a6 a7 a8), N' ++ [.lst ((l ++ [(w, z)]).map stD)]) := by
  obtain ⟨v, N1, h1, h2, h3⟩ := pick_bh (n := n) (xs := l.map stD) (zs := eight.map .str) hN (by simp [eight]) (by simp [eight])
  obtain ⟨w, hw, rfl⟩ := List.mem_map.mp h2
  obtain ⟨v, N2, h4, h5, h6⟩ := pick_bh (n := n) (xs := l.map stD) (zs := ns.map .str) h3 (by simpa using hn) (by simp; omega)
  obtain ⟨z, hz, rfl⟩ := List.mem_map.mp h5
  refine ⟨w, z, N2, hw, hz, h6, ?_⟩
  unfold elseOf cE elseOf cB tlS l__law_chosen_1 chE
  have hM : ∀ v, mutV .append (.loc len) [.d v] (N2 ++ [.lst (l.map stD)]) = some (.ok (), N2 ++ [.lst (l.map stD ++ [v])]) := fun v => mutV_at h6.2.2.1 (by simp; omega)
  have c1 : (own.length : Int) < (most : Int) - (l.length : Int) := by omega
  simp [rc, h1, h4, c1, lstE_at hN.2.2.1, pkW hN.2.2.1, hM, stD]
end
end LW
set_option Elab.async false
set_option linter.all false
set_option maxRecDepth 100000
set_option maxHeartbeats 2000000
/-! k10: the steps that are chosen are right -/
namespace LW
open PySem L2 TD
section
variable {n p len most : Nat} {ns own : List Str} {a6 a7 a8 : Option Vl} {l : List Stp} {N : Mem}
theorem cond1_nil : runT prg.T prg.rp (rc n) (condOf cB) (chE p len ns most [] a6 a7 a8) (N ++ [.lst (l.map stD)]) = some (.ok false, N ++ [.lst (l.map stD)]) := by
  unfold condOf cB tlS l__law_chosen_1 chE
  simp
theorem cond1_full (hN : StP p len N) (ho : own ≠ []) (h : most ≤ l.length + own.length) : runT prg.T prg.rp (rc n) (condOf cB) (chE p len ns most own a6 a7 a8) (N ++ [.lst (l.map stD)]) = some (.ok true, N ++ [.lst (l.map stD)]) := by
  unfold condOf cB tlS l__law_chosen_1 chE
  have h1 : flats 19 (own.map D.str) = true := by
    rw [flats_mem]
    intro x hx
    obtain ⟨c, _, rfl⟩ := List.mem_map.mp hx
    simp
  have c1 : (most : Int) - (l.length : Int) ≤ (own.length : Int) := by omega
  simp [h1, eqDs_nil_iff, ho, pkW hN.2.2.1, c1]
theorem cond1_draw (hN : StP p len N) (ho : own ≠ []) (h : l.length + own.length < most) : ∃ (b : Bool) (N' : Mem), StP p len N' ∧ runT prg.T prg.rp (rc n) (condOf cB) (chE p len ns most own a6 a7 a8) (N ++ [.lst (l.map stD)]) = some (.ok b, N' ++ [.lst (l.map stD)]) := by
  obtain ⟨v, N', h1, h2, h3, h4⟩ := draw_bh (n := n + 1) (m := 3) (xs := l.map stD) hN (by omega)
  refine ⟨v == 0, N', h4, ?_⟩
  unfold condOf cB tlS l__law_chosen_1 chE
  have h0 : flats 19 (own.map D.str) = true := by
    rw [flats_mem]
    intro x hx
    obtain ⟨c, _, rfl⟩ := List.mem_map.mp hx
    simp
  have c1 : ¬ (most : Int) - (l.length : Int) ≤ (own.length : Int) := by omega
  simp [rc, h0, eqDs_nil_iff, ho, pkW hN.2.2.1, c1, h1]
theorem cond2_run {free : List Str} (hN : StP p len N) : ∃ (b : Bool) (N' : Mem), StP p len N' ∧ (b = true → free ≠ [] ∧ l.length + own.length + 1 < most) ∧ runT prg.T prg.rp (rc n) (condOf cE) (chE p len ns most own a6 (some (.d (.lst (free.map .str)))) a8) (N ++ [.lst (l.map stD)]) = some (.ok b, N' ++ [.lst (l.map stD)]) := by
  have h0 : flats 19 (free.map D.str) = true := by
    rw [flats_mem]
    intro x hx
    obtain ⟨c, _, rfl⟩ := List.mem_map.mp hx
    simp
  by_cases hf : free = []
  · refine ⟨false, N, hN, by simp, ?_⟩
    unfold condOf cE elseOf cB tlS l__law_chosen_1 chE
    simp [hf]
  · by_cases hc : l.length + own.length + 1 < most
    · obtain ⟨v, N', h1, h2, h3, h4⟩ := draw_bh (n := n + 1) (m := 4) (xs := l.map stD) hN (by omega)
      refine ⟨v == 0, N', h4, fun _ => ⟨hf, hc⟩, ?_⟩
      unfold condOf cE elseOf cB tlS l__law_chosen_1 chE
      have c1 : (own.length : Int) + 1 < (most : Int) - (l.length : Int) := by omega
      simp [rc, h0, eqDs_nil_iff, hf, pkW hN.2.2.1, c1, h1]
    · refine ⟨false, N, hN, by simp, ?_⟩
      unfold condOf cE elseOf cB tlS l__law_chosen_1 chE
      have c1 : ¬ (own.length : Int) + 1 < (most : Int) - (l.length : Int) := by omega
      simp [rc, h0, eqDs_nil_iff, hf, pkW hN.2.2.1, c1]
theorem free_run (hn : ns.length ≤ 100) {M : Mem} : runS prg.T prg.rp prg.XT (rc n) (hdS l__law_chosen_1) (chE p len ns most own a6 a7 a8) M = some (.next (chE p len ns most own a6 (some (.d (.lst ((ns.filter fun x => !decide (x ∈ own)).map .str)))) a8), M) := by
  unfold hdS l__law_chosen_1 chE
  have e1 : ns.length ≤ 16777216 := by omega
  have h0 : allOk (own.map D.str) = true := allOk_of fun x hx => by
    obtain ⟨c, _, rfl⟩ := List.mem_map.mp hx
    simp
  have key : ∀ a0 a1 a2 a3 a4 b6 b7 b8, lcGo (lcF prg.T prg.rp (callN prg (n + 2)) (.name 8) (.one (.tst (.cmp .NotIn (.var 8) (.var 5)))) (.var 8) [8] ⟨[a0, a1, a2, a3, a4, some (.d (.lst (own.map .str))), b6, b7, b8], none⟩) (ns.map D.str) M = some (.ok ((ns.filter fun x => !decide (x ∈ own)).map D.str), M) := by
    intro a0 a1 a2 a3 a4 b6 b7 b8
    refine lc_filt _ fun c hc => ?_
    rw [lcF_at (e' := ⟨[a0, a1, a2, a3, a4, some (.d (.lst (own.map .str))), b6, b7, some (.d (.str c))], none⟩) rfl]
    by_cases h : c ∈ own
    · simp [h0, anyEq_strs, h]
    · simp [h0, anyEq_strs, h]
  have e2 : (ns.filter fun x => !decide (x ∈ own)).length ≤ 16777216 := Nat.le_trans (List.length_filter_le _ _) e1
  generalize (ns.filter fun x => !decide (x ∈ own)) = fr at *
  simp [rc, e1, key, e2]
theorem keptL_own {own : List Str} {s : Stp} (h1 : s.1 ≠ "take") (h2 : s.1 ≠ "give") : nextOwn s own = own := by simp [nextOwn, h1, h2]
theorem eight_ok {w : Str} (h : w ∈ eight) : w ∈ words ∧ w ≠ "take" ∧ w ≠ "give" ∧ w ≠ "piece" := by
  simp only [eight, List.mem_cons, List.not_mem_nil, or_false] at h
  rcases h with rfl | rfl | rfl | rfl | rfl | rfl | rfl | rfl <;> decide +kernel
/-- what is chosen so far, r turns to go -/
structure Chs (ns : List Str) (most r : Nat) (l : List Stp) : Prop where
  len : l.length + r = most
  own : (keptL [] l).length ≤ r
  bal : BalP [] l
  good : ∀ s ∈ l, goodS s
  sub : ∀ x ∈ keptL [] l, x ∈ ns
theorem good_snoc {s : Stp} (h : ∀ t ∈ l, goodS t) (hs : goodS s) : ∀ t ∈ l ++ [s], goodS t := by
  intro t ht
  rcases List.mem_append.mp ht with h1 | h1
  · exact h t h1
  · rw [List.mem_singleton.mp h1]; exact hs
theorem Chs.give {r : Nat} {z : Str} (h : Chs ns most (r + 1) l) (hns : ∀ x ∈ ns, nameB x = true) (hz : (keptL [] l).getLast? = some z) : Chs ns most r (l ++ [(("give" : Str), z)]) := by
  have e : keptL [] (l ++ [(("give" : Str), z)]) = (keptL [] l).dropLast := by rw [keptL_snoc]; simp [nextOwn]
  have hm : z ∈ keptL [] l := List.mem_of_getLast? hz
  refine ⟨by have := h.len; simp; omega, ?_, h.bal.snoc ⟨by simp, fun _ => hz, by simp⟩, good_snoc h.good ⟨show (("give" : Str) ∈ words) by decide +kernel, hns z (h.sub z hm)⟩, ?_⟩
  · rw [e]
    have := h.own
    simp
    omega
  · rw [e]
    intro x hx
    exact h.sub x (List.dropLast_subset _ hx)
theorem Chs.take {r : Nat} {z : Str} (h : Chs ns most (r + 1) l) (hns : ∀ x ∈ ns, nameB x = true) (hz : z ∈ ns) (hz2 : z ∉ keptL [] l) (hc : l.length + (keptL [] l).length + 1 < most) : Chs ns most r (l ++ [(("take" : Str), z)]) := by
  have e : keptL [] (l ++ [(("take" : Str), z)]) = keptL [] l ++ [z] := by rw [keptL_snoc]; simp [nextOwn]
  refine ⟨by have := h.len; simp; omega, ?_, h.bal.snoc ⟨fun _ => hz2, by simp, by simp⟩, good_snoc h.good ⟨show (("take" : Str) ∈ words) by decide +kernel, hns z hz⟩, ?_⟩
  · rw [e]
    have := h.len
    simp
    omega
  · rw [e]
    intro x hx
    rcases List.mem_append.mp hx with h1 | h1
    · exact h.sub x h1
    · rw [List.mem_singleton.mp h1]; exact hz
theorem Chs.third {r : Nat} {w z : Str} (h : Chs ns most (r + 1) l) (hns : ∀ x ∈ ns, nameB x = true) (hw : w ∈ eight) (hz : z ∈ ns) (hc : l.length + (keptL [] l).length < most) : Chs ns most r (l ++ [(w, z)]) := by
  obtain ⟨w1, w2, w3, w4⟩ := eight_ok hw
  have e : keptL [] (l ++ [(w, z)]) = keptL [] l := by rw [keptL_snoc]; exact keptL_own w2 w3
  refine ⟨by have := h.len; simp; omega, ?_, h.bal.snoc ⟨fun q => (w2 q).elim, fun q => (w3 q).elim, w4⟩, good_snoc h.good ⟨w1, hns z hz⟩, ?_⟩
  · rw [e]
    have := h.len
    omega
  · rw [e]
    exact h.sub
theorem turn_run {r : Nat} (hN : StP p len N) (h : Chs ns most (r + 1) l) (hm : most ≤ 50) (hn : ns ≠ []) (hn2 : ns.length ≤ 50) (hns : ∀ x ∈ ns, nameB x = true) :
    ∃ (l' : List Stp) (N' : Mem) (b7 : Option Vl), Chs ns most r l' ∧ StP p len N' ∧ runSs prg.T prg.rp prg.XT (rc n) l__law_chosen_1 (chE p len ns most (keptL [] l) a6 a7 a8) (N ++ [.lst (l.map stD)]) = some (.next (chE p len ns most (keptL [] l') a6 b7 a8), N' ++ [.lst (l'.map stD)]) := by
  have hl : l.length ≤ 100 := by have := h.len; omega
  have ho : (keptL [] l).length ≤ 100 := by have := h.own; have := h.len; omega
  have hfl : ∀ z ∈ ns.filter fun x => !decide (x ∈ keptL [] l), z ∈ ns ∧ z ∉ keptL [] l := by
    intro z hz
    simpa using hz
  have hfn : (ns.filter fun x => !decide (x ∈ keptL [] l)).length ≤ 100 := Nat.le_trans (List.length_filter_le _ _) (by omega)
  rw [runSs_hd, free_run (by omega), tR_next]
  show ∃ (l' : List Stp) (N' : Mem) (b7 : Option Vl), _ ∧ _ ∧ runSs _ _ _ _ cB _ _ = _
  generalize hfr : (ns.filter fun x => !decide (x ∈ keptL [] l)) = free at *
  have giveE : ∀ z, (keptL [] l).getLast? = some z → keptL [] (l ++ [(("give" : Str), z)]) = (keptL [] l).dropLast := fun z _ => by rw [keptL_snoc]; simp [nextOwn]
  -- the rest, if nothing is given
  have rest : ∀ N1, StP p len N1 → l.length + (keptL [] l).length < most → ∃ (l' : List Stp) (N' : Mem) (b7 : Option Vl), Chs ns most r l' ∧ StP p len N' ∧ runSs prg.T prg.rp prg.XT (rc n) cE (chE p len ns most (keptL [] l) a6 (some (.d (.lst (free.map .str)))) a8) (N1 ++ [.lst (l.map stD)]) = some (.next (chE p len ns most (keptL [] l') a6 b7 a8), N' ++ [.lst (l'.map stD)]) := by
    intro N1 hN1 hc
    obtain ⟨b, N2, hN2, hb, hr2⟩ := cond2_run (n := n) (p := p) (len := len) (most := most) (ns := ns) (own := keptL [] l) (a6 := a6) (a8 := a8) (l := l) (N := N1) (free := free) hN1
    rw [run_ife rfl, hr2, sR_ok]
    cases b with
    | true =>
      obtain ⟨hf, hc2⟩ := hb rfl
      obtain ⟨z, N3, hz, hN3, hr3⟩ := take_run (n := n) (p := p) (len := len) (most := most) (ns := ns) (own := keptL [] l) (a6 := a6) (a8 := a8) (l := l) (N := N2) (free := free) hN2 hl ho hf hfn
      rw [if_pos rfl, hr3]
      obtain ⟨q1, q2⟩ := hfl z hz
      refine ⟨_, N3, some (.d (.lst (free.map .str))), h.take hns q1 q2 hc2, hN3, ?_⟩
      rw [keptL_snoc]
      simp [nextOwn]
    | false =>
      obtain ⟨w, z, N3, hw, hz, hN3, hr3⟩ := third_run (n := n) (p := p) (len := len) (most := most) (ns := ns) (own := keptL [] l) (a6 := a6) (a7 := some (.d (.lst (free.map .str)))) (a8 := a8) (l := l) (N := N2) hN2 hl hc hn (by omega)
      rw [if_neg (by simp), hr3]
      obtain ⟨w1, w2, w3, w4⟩ := eight_ok hw
      refine ⟨_, N3, some (.d (.lst (free.map .str))), h.third hns hw hz hc, hN3, ?_⟩
      rw [keptL_snoc, keptL_own w2 w3]
  have give : ∀ z N1, StP p len N1 → (keptL [] l).getLast? = some z → ∃ (l' : List Stp) (N' : Mem) (b7 : Option Vl), Chs ns most r l' ∧ StP p len N' ∧ runSs prg.T prg.rp prg.XT (rc n) (thenOf cB) (chE p len ns most (keptL [] l) a6 (some (.d (.lst (free.map .str)))) a8) (N1 ++ [.lst (l.map stD)]) = some (.next (chE p len ns most (keptL [] l') a6 b7 a8), N' ++ [.lst (l'.map stD)]) := by
    intro z N1 hN1 hz
    refine ⟨_, N1, some (.d (.lst (free.map .str))), h.give hns hz, hN1, ?_⟩
    rw [give_run hN1 hl hz, giveE z hz]
  rw [run_ife rfl]
  cases hq : (keptL [] l).getLast? with
  | none =>
    have e0 : keptL [] l = [] := by simpa using hq
    have hc : l.length + (keptL [] l).length < most := by rw [e0]; have := h.len; simp; omega
    have c1 := cond1_nil (n := n) (p := p) (len := len) (most := most) (ns := ns) (a6 := a6) (a7 := some (.d (.lst (free.map .str)))) (a8 := a8) (l := l) (N := N)
    rw [← e0] at c1
    rw [c1, sR_ok, if_neg (by simp)]
    exact rest N hN hc
  | some z =>
    have ne : keptL [] l ≠ [] := by intro e; rw [e] at hq; cases hq
    by_cases hc : l.length + (keptL [] l).length < most
    · obtain ⟨b, N1, hN1, c1⟩ := cond1_draw (n := n) (p := p) (len := len) (most := most) (ns := ns) (own := keptL [] l) (a6 := a6) (a7 := some (.d (.lst (free.map .str)))) (a8 := a8) (l := l) (N := N) hN ne hc
      rw [c1, sR_ok]
      cases b with
      | true => rw [if_pos rfl]; exact give z N1 hN1 hq
      | false => rw [if_neg (by simp)]; exact rest N1 hN1 hc
    · rw [cond1_full hN ne (by omega), sR_ok, if_pos rfl]
      exact give z N hN hq
theorem chosen_ok {M : Mem} (hM : StP p len M) (hm : most ≤ 8) (hn : ns ≠ []) (hn2 : ns.length ≤ 50) (hns : ∀ x ∈ ns, nameB x = true) :
    ∃ (l : List Stp) (M' : Mem), callN prg (n + 3) (.fn 33) [.loc p, .d (.lst (ns.map .str)), .d (.int most)] M = some (.ok (.d (.lst (l.map stD))), M') ∧ StP p len M' ∧ l.length ≤ 8 ∧ (∀ s ∈ l, goodS s) ∧ firstT 0 (wrongsL [] [] l) = none := by
  rw [call_fn (F := ⟨3, 6, c__law_chosen, 0, false⟩) rfl rfl rfl]
  unfold c__law_chosen
  have h1 : (most : Int) ≤ 16777216 := by omega
  have h2 : (-4611686018427387904 : Int) ≤ most := by omega
  simp [h1, h2]
  have hlen : M.length = len := hM.2.2.1
  obtain ⟨f, M', hr, l, N, a6, a7, a8, hc, hN, rfl, rfl⟩ := for_inv (T := prg.T) (rp := prg.rp) (XT := prg.XT) (cl := callN prg (n + 2)) (g := .name 6) (b := l__law_chosen_1)
    (Q := fun f M' => ∃ (l : List Stp) (N : Mem) (a6 a7 a8 : Option Vl), Chs ns most 0 l ∧ StP p len N ∧ f = .next (chE p len ns most (keptL [] l) a6 a7 a8) ∧ M' = N ++ [.lst (l.map stD)])
    (fun xs e M' => ∃ (l : List Stp) (N : Mem) (a6 a7 a8 : Option Vl), Chs ns most xs.length l ∧ StP p len N ∧ e = chE p len ns most (keptL [] l) a6 a7 a8 ∧ M' = N ++ [.lst (l.map stD)])
    (by
      rintro x xs e M' ⟨l, N, a6, a7, a8, hc, hN, rfl, rfl⟩
      refine ⟨chE p len ns most (keptL [] l) (some (.d x)) a7 a8, rfl, ?_⟩
      obtain ⟨l', N', b7, h1, h2, h3⟩ := turn_run (n := n) (a6 := some (.d x)) (a7 := a7) (a8 := a8) hN hc (by omega) hn hn2 hns
      exact ⟨_, _, h3, l', N', _, _, _, h1, h2, rfl, rfl⟩)
    (by
      rintro e M' ⟨l, N, a6, a7, a8, hc, hN, rfl, rfl⟩
      exact ⟨l, N, a6, a7, a8, hc, hN, rfl, rfl⟩)
    (rngGo most 0) (chE p len ns most [] none none none) (M ++ [.lst []])
    ⟨[], M, none, none, none, ⟨by simp [rngGo_len], by simp [keptL], trivial, by simp, by simp [keptL]⟩, hM, rfl, rfl⟩
  have e0 : (chE p len ns most [] none none none) = ⟨[some (.loc p), some (.d (.lst (ns.map .str))), some (.d (.int most)), some (.d (.lst [D.str (Str.ofString "cancel"), D.str (Str.ofString "bar"), D.str (Str.ofString "halt"), D.str (Str.ofString "settle"), D.str (Str.ofString "close"), D.str (Str.ofString "drain"), D.str (Str.ofString "set"), D.str (Str.ofString "clear")])), some (.loc len), some (.d (.lst [])), none, none, none], none⟩ := rfl
  rw [e0] at hr
  rw [hlen, hr]
  have hk : keptL [] l = [] := by have := hc.own; exact List.eq_nil_of_length_eq_zero (by omega)
  refine ⟨l, N, ?_, hN, by have := hc.len; omega, fun a b h => hc.good (a, b) h, hc.bal.fine hk⟩
  have hNl : N.length = len := hN.2.2.1
  simp [chE]
  rw [← hNl]
  exact end_loc hN.1
end
end LW
set_option Elab.async false
set_option linter.all false
set_option maxRecDepth 100000
set_option maxHeartbeats 2000000
/-! k10: what a row is asked -/
namespace LW
open PySem L2 TD
section
variable {T : Tab} {rp : D → Option Str} {cl : Cl} {e : TD.Env} {M : Mem} {a b : CE} {x y : Vl}
@[scoped simp] theorem runE_olen : runE T rp cl (.olen a) e M = bR (runE T rp cl a e M) fun x M => olenV T cl x M := rfl
@[scoped simp] theorem runE_oix : runE T rp cl (.oix a b) e M = bR (runE T rp cl a e M) fun x M => bR (runE T rp cl b e M) fun y M => oixV T cl x y M := rfl
@[scoped simp] theorem runE_oin {neg : Bool} : runE T rp cl (.oin neg a b) e M = bR (runE T rp cl a e M) fun x M => bR (runE T rp cl b e M) fun y M => oinV T cl neg x y M := rfl
@[scoped simp] theorem runE_oeq : runE T rp cl (.oeq a b) e M = bR (runE T rp cl a e M) fun x M => bR (runE T rp cl b e M) fun y M => oeqV T cl x y M := rfl
end
theorem badL_st : ∀ {k : Nat} {l : List Stp}, (∀ s ∈ l, goodS s) → badL k (l.map stD) = none
  | _, [], _ => rfl
  | k, s :: l, h => by
    show (if isStepD (stD s) then badL (k + 1) (l.map stD) else some k) = none
    rw [isStepD_st (h s (by simp)), if_pos rfl]
    exact badL_st fun t ht => h t (by simp [ht])
theorem rowErr_st {l : List Stp} (h : ∀ s ∈ l, goodS s) (hl : l.length ≤ 8) : rowErr (l.map stD) = (firstT 0 (wrongsL [] [] l)).map fun (i : Nat) => D.int (i : Int) := by
  unfold rowErr
  rw [badL_st h, map_toStp]
  have : ¬ 8 < l.length := by omega
  simp [this]
theorem ps_st {s : Stp} (h : goodS s) : ps (stD s) = true := by
  have := isStepD_st h
  simp [stD, ps, nb]
  have h2 := h.2
  unfold nameB at h2
  simp at h2
  omega
theorem ps_sts {l : List Stp} (h : ∀ s ∈ l, goodS s) : ∀ x ∈ l.map stD, ps x = true := by
  intro x hx
  obtain ⟨s, hs, rfl⟩ := List.mem_map.mp hx
  exact ps_st (h s hs)
section
variable {n i : Nat} {l : List Stp} {xs : List D} {x y : D} {M : Mem} {r : Str}
theorem met_get {M : Mem} : metE prg.T "__getitem__" (.d (rowD xs)) M = some (.ok 16, M) := metE_row (by decide +kernel) (by decide +kernel)
theorem met_held {M : Mem} : metE prg.T "held" (.d (rowD xs)) M = some (.ok 23, M) := metE_row (by decide +kernel) (by decide +kernel)
theorem met_wo {M : Mem} : metE prg.T "without" (.d (rowD xs)) M = some (.ok 22, M) := metE_row (by decide +kernel) (by decide +kernel)
theorem met_steps {M : Mem} : metE prg.T "steps" (.d (rowD xs)) M = some (.ok 20, M) := metE_row (by decide +kernel) (by decide +kernel)
theorem met_len {M : Mem} : metE prg.T "__len__" (.d (rowD xs)) M = some (.ok 18, M) := metE_row (by decide +kernel) (by decide +kernel)
theorem met_in {M : Mem} : metE prg.T "__contains__" (.d (rowD xs)) M = some (.ok 15, M) := metE_row (by decide +kernel) (by decide +kernel)
theorem oix_row {k : Nat} : oixV prg.T (callN prg (k + 1)) (.d (rowD xs)) (.d x) M = callN prg k (.fn 16) [.d (rowD xs), .d x] M := by
  unfold oixV
  rw [bind_at, met_get, bR_ok]
  rfl
theorem ask0_at (hM : MOk M) (h : xs[i]? = some y) : callN prg (n + 8) (.fn 35) [.d (rowD xs), .d (.int 0), .d (.int i)] M = some (.ok (.d y), M) := by
  rw [call_fn (F := ⟨3, 1, c__law_asked, 0, false⟩) rfl rfl rfl]
  unfold c__law_asked
  have h1 := getitem_at (n := n + 4) hM h
  simp [oix_row, h1, end_d0 hM, -runE_xf]
theorem ask0_odd (hM : MOk M) (ho : ∀ c fs, x ≠ .obj c fs) (h : wholeD x 0 ((xs.length : Int) - 1) = false) (hr : prg.rp x = some r) : callN prg (n + 8) (.fn 35) [.d (rowD xs), .d (.int 0), .d x] M = some (.ok (.d (.lst [.str "none", .str r])), M) := by
  rw [call_fn (F := ⟨3, 1, c__law_asked, 0, false⟩) rfl rfl rfl]
  unfold c__law_asked
  have h1 := getitem_odd (n := n + 4) hM ho h
  simp [oix_row, h1, runH_num, xf_num, hr, end_d0 hM, -runE_xf]
theorem ask1_at (hM : MOk M) (hi : i ≤ l.length + 1) (hl : l.length ≤ 500) : callN prg (n + 8) (.fn 35) [.d (rowD (l.map stD)), .d (.int 1), .d (.int i)] M = some (.ok (.d (.tup ((keptL [] (l.take i)).map .str))), M) := by
  rw [call_fn (F := ⟨3, 1, c__law_asked, 0, false⟩) rfl rfl rfl]
  unfold c__law_asked
  have h1 := held_at (n := n + 5) hM hi hl
  simp [met_held, h1, end_d0 hM, -runE_xf]
theorem ask1_odd (hM : MOk M) (ho : ∀ c fs, x ≠ .obj c fs) (h : wholeD x 0 ((xs.length : Int) + 1) = false) (hr : prg.rp x = some r) : callN prg (n + 8) (.fn 35) [.d (rowD xs), .d (.int 1), .d x] M = some (.ok (.d (.lst [.str "none", .str r])), M) := by
  rw [call_fn (F := ⟨3, 1, c__law_asked, 0, false⟩) rfl rfl rfl]
  unfold c__law_asked
  have h1 := held_odd (n := n + 5) hM ho h
  simp [met_held, h1, runH_num, xf_num, hr, end_d0 hM, -runE_xf]
def askT (xs : List D) : D :=
  match rowErr xs with
  | none => .lst xs
  | some d => .lst [.str "step", d]
theorem runH_skip {cl : Cl} {b : CSs} {r : CHs} {d : D} {s : List (Option Vl)} {xx : Option Xc} {M : Mem} {i : Nat} (hi : i < s.length) :
    runH prg.T prg.rp prg.XT cl (.cons 2 i b r) (exStep d) ⟨s, xx⟩ M = runH prg.T prg.rp prg.XT cl r (exStep d) ⟨s, xx⟩ M := by
  have h1 : (prg.XT.fs (exStep d).cls).isSome = true := rfl
  have h2 : prg.T.sub (exStep d).cls 2 = false := rfl
  conv => lhs; unfold runH
  simp [h1, h2, hi]
theorem ask2_at (hM : MOk M) (hi : i < xs.length) (hl : xs.length ≤ 500) (hs : ∀ x ∈ xs, ps x = true) : callN prg (n + 8) (.fn 35) [.d (rowD xs), .d (.int 2), .d (.int i)] M = some (.ok (.d (askT (xs.take i ++ xs.drop (i + 1)))), M) := by
  rw [call_fn (F := ⟨3, 1, c__law_asked, 0, false⟩) rfl rfl rfl]
  unfold c__law_asked
  have h1 := without_at (n := n) hM hi hl hs
  have hl2 : (xs.take i ++ xs.drop (i + 1)).length ≤ 1000 := by simp; omega
  generalize xs.take i ++ xs.drop (i + 1) = zs at *
  have h2 := steps_1 (n := n + 6) (xs := zs) hM hl2
  unfold askT
  simp [met_wo, h1, -runE_xf]
  cases rowErr zs with
  | none => simp [resD, met_steps, h2, end_loc hM, -runE_xf]
  | some d => simp [resD, runH_skip, runH_step, xf_step, end_d0 hM, -runE_xf]
theorem ask2_odd (hM : MOk M) (ho : ∀ c fs, x ≠ .obj c fs) (h : wholeD x 0 ((xs.length : Int) - 1) = false) (hr : prg.rp x = some r) : callN prg (n + 8) (.fn 35) [.d (rowD xs), .d (.int 2), .d x] M = some (.ok (.d (.lst [.str "none", .str r])), M) := by
  rw [call_fn (F := ⟨3, 1, c__law_asked, 0, false⟩) rfl rfl rfl]
  unfold c__law_asked
  have h1 := without_odd (n := n + 5) hM ho h
  simp [met_wo, h1, runH_num, xf_num, hr, end_d0 hM, -runE_xf]
end
end LW
set_option Elab.async false
set_option linter.all false
set_option maxRecDepth 100000
set_option maxHeartbeats 2000000
namespace LW
open PySem L2 TD
theorem hr_key {n k : Nat} {l : List Stp} {M : Mem} {a0 : Option Vl} (hM : MOk M) (hl : l.length ≤ 50) : lcGo (lcF prg.T prg.rp (callN prg (n + 1)) (.name 1) .nil (.call (.fn 34) (.cons (.sl (.var 0) .none (.some (.var 1))) .nil)) [1] ⟨[some (.d (.lst (l.map stD))), a0], none⟩) ((List.range' 0 k).map fun i => D.int (i : Nat)) M = some (.ok ((List.range' 0 k).map fun i => D.tup ((keptL [] (l.take i)).map .str)), M) := by
    refine lc_map _ fun i hi => ?_
    rw [lcF_at (e' := ⟨[some (.d (.lst (l.map stD))), some (.d (.int i))], none⟩) rfl]
    have h1 := kept_ok (n := n) (l := l.take i) hM (by simp; omega)
    rw [List.map_take] at h1
    simp [h1]
theorem rng_at {cl : Cl} {a : CE} {e : TD.Env} {M : Mem} {i : Int} {k : Nat} (h : runE prg.T prg.rp cl a e M = some (.ok (.d (.int i)), M)) (hi : i = (k : Int)) (hk : k ≤ 1000) : runI prg.T prg.rp cl (.rng a) e M = some (.ok ((List.range' 0 k).map fun i => D.int (i : Nat)), M) := by
  subst hi
  rw [runI_rng, h, bR_ok, intOf_d, bR_ok]
  have h1 : (decide (-(2 ^ 62) ≤ (k : Int)) && decide ((k : Int) ≤ 16777216)) = true := by
    rw [Bool.and_eq_true, decide_eq_true_eq, decide_eq_true_eq]
    omega
  rw [if_pos h1, Int.toNat_natCast]
  have e4 : rngGo k 0 = (List.range' 0 k).map fun i => D.int (i : Nat) := rngGo_eq k 0
  rw [e4]
  rfl
theorem heldrows_call {n : Nat} {x : D} {M : Mem} : callN prg (n + 2) (.fn 37) [.d x] M = endF M.length 0 (runSs prg.T prg.rp prg.XT (callN prg (n + 1)) c__law_heldrows ⟨[some (.d x), none], none⟩ M) := by
  rw [call_fn (F := ⟨1, 1, c__law_heldrows, 0, false⟩) rfl rfl rfl]
  rfl
theorem heldrows_ok {n k : Nat} {l : List Stp} {M : Mem} (hM : MOk M) (hl : l.length ≤ 50) (hk : k = l.length + 2) : callN prg (n + 2) (.fn 37) [.d (.lst (l.map stD))] M = some (.ok (.d (.lst ((List.range' 0 k).map fun i => D.tup ((keptL [] (l.take i)).map .str)))), M) := by
  have e5 : k ≤ 16777216 := by omega
  have hI := rng_at (cl := callN prg (n + 1)) (a := .bin .Add (.blt .len (.cons (.var 0) .nil)) (.con (.int 2))) (e := ⟨[some (.d (.lst (l.map stD))), none], none⟩) (M := M) (i := (l.length : Int) + 2) (k := k) (by simp) (by omega) (by omega)
  clear hk
  have h2 : runE prg.T prg.rp (callN prg (n + 1)) (.lc (.name 1) (.rng (.bin .Add (.blt .len (.cons (.var 0) .nil)) (.con (.int 2)))) .nil (.call (.fn 34) (.cons (.sl (.var 0) .none (.some (.var 1))) .nil)) [1]) ⟨[some (.d (.lst (l.map stD))), none], none⟩ M = some (.ok (.d (.lst ((List.range' 0 k).map fun i => D.tup ((keptL [] (l.take i)).map .str)))), M) := by
    rw [runE_lc, hI, bR_ok, hr_key hM hl, bR_ok, mkLst_at, if_pos]
    unfold szOk
    rw [decide_eq_true_eq, List.length_map, List.length_range']
    exact e5
  have h3 : runSs prg.T prg.rp prg.XT (callN prg (n + 1)) c__law_heldrows ⟨[some (.d (.lst (l.map stD))), none], none⟩ M = some (.ret (.d (.lst ((List.range' 0 k).map fun i => D.tup ((keptL [] (l.take i)).map .str)))), M) := by
    unfold c__law_heldrows
    rw [runSs_cons, runS_ret, h2, sR_ok, tR_ret]
  rw [heldrows_call, h3]
  exact end_d0 hM
end LW
set_option Elab.async false
set_option linter.all false
set_option maxRecDepth 100000
set_option maxHeartbeats 2000000
/-! k10: what a row tells, part by part -/
namespace LW
open PySem L2 TD
theorem range_get {xs : List D} : ((List.range' 0 xs.length).map fun i => (xs[i]?).getD .non) = xs := by
  apply List.ext_getElem
  · simp
  · intro i h1 h2
    simp at h1 ⊢
    rw [List.getElem?_eq_getElem h1]
    rfl
theorem opC_loc {N : Mem} {xs : List D} {op : CmpOp} {y : D} : opC op (.loc N.length) (.d y) (N ++ [.lst xs]) = EM.o ((cmpD op (.lst xs) y).map fun b => .d (.bl b)) (N ++ [.lst xs]) := by
  unfold opC
  rw [bind_at, pkW rfl, bR_ok, bind_at, peekW_d, bR_ok]
theorem olen_row {k : Nat} {xs : List D} {M : Mem} (hM : MOk M) (hl : xs.length ≤ 1000) : olenV prg.T (callN prg (k + 2)) (.d (rowD xs)) M = some (.ok (.d (.int xs.length)), M) := by
  unfold olenV
  have h1 : noEx (callN prg (k + 2) (.low 18) [.d (rowD xs)]) M = some (.ok (.d (.int xs.length)), M) := by
    unfold noEx
    have : callN prg (k + 2) (.low 18) [.d (rowD xs)] M = callN prg (k + 1) (.fn 18) [.d (rowD xs)] M := rfl
    rw [this, rlen_ok hM]
  rw [bind_at, met_len, bR_ok, bind_at, h1, bR_ok]
  unfold lenOk
  dsimp only
  rw [if_pos]
  · rfl
  · rw [Bool.and_eq_true, decide_eq_true_eq, decide_eq_true_eq]
    omega
def tE (l : List Stp) (a2 a3 a4 a5 a6 a7 a8 a9 : Option Vl) : TD.Env := ⟨[some (.d (rowD (l.map stD))), some (.d (.lst (l.map stD))), a2, a3, a4, a5, a6, a7, a8, a9], none⟩
section
variable {n : Nat} {l : List Stp} {M : Mem} {a2 a3 a4 a5 a6 a7 a8 a9 : Option Vl}
def sS : Nat → CSs
  | 0 => c__law_tells
  | k + 1 => tlS (sS k)
theorem eqDs_self : eqDs (l.map stD) (l.map stD) = true := by rw [eqDs_st]; simp
theorem tells1 (hM : MOk M) (hl : l.length ≤ 8) : runS prg.T prg.rp prg.XT (callN prg (n + 8)) (hdS (sS 0)) (tE l a2 a3 a4 a5 a6 a7 a8 a9) M = some (.next (tE l a2 a3 a4 a5 a6 a7 a8 a9), M ++ [.lst (l.map stD)]) := by
  unfold hdS sS c__law_tells tE
  have h1 := steps_1 (n := n + 7) (xs := l.map stD) hM (by simp; omega)
  have h2 := olen_row (k := n + 6) (xs := l.map stD) (M := M ++ [.lst (l.map stD)]) hM.lst (by simp; omega)
  have h3 : ∀ N, isiV prg.T (.cls 4) (.d (rowD (l.map stD))) N = some (.ok (.d (.bl true)), N) := fun N => by rw [isi_row]; simp [rowD]
  simp [met_steps, h1, opC_loc, flats_st, eqDs_self, h2, h3]
theorem tells2 (hM : MOk M) (hl : l.length ≤ 8) : runS prg.T prg.rp prg.XT (callN prg (n + 8)) (hdS (sS 1)) (tE l a2 a3 a4 a5 a6 a7 a8 a9) M = some (.next (tE l a2 a3 a4 a5 a6 a7 a8 a9), M) := by
  have key : lcGo (lcF prg.T prg.rp (callN prg (n + 8)) (.name 2) .nil (.call (.fn 35) (.cons (.var 0) (.cons (.con (.int 0)) (.cons (.var 2) .nil)))) [2] (tE l a2 a3 a4 a5 a6 a7 a8 a9)) ((List.range' 0 (l.map stD).length).map fun i => D.int (i : Nat)) M = some (.ok (l.map stD), M) := by
    conv => rhs; rw [← range_get (xs := l.map stD)]
    refine lc_map _ fun i hi => ?_
    rw [lcF_at (e' := tE l (some (.d (.int i))) a3 a4 a5 a6 a7 a8 a9) rfl]
    have hi2 : i < (l.map stD).length := by simpa using hi
    have h1 := ask0_at (n := n) (i := i) hM (List.getElem?_eq_getElem hi2)
    rw [List.getElem?_eq_getElem hi2]
    unfold tE
    simp [h1]
  have hI := rng_at (cl := callN prg (n + 8)) (a := .blt .len (.cons (.var 1) .nil)) (e := tE l a2 a3 a4 a5 a6 a7 a8 a9) (M := M) (i := ((l.map stD).length : Int)) (k := (l.map stD).length) (by unfold tE; simp) rfl (by simp; omega)
  have hz : (l.map stD).length ≤ 16777216 := by simp; omega
  have hL : runE prg.T prg.rp (callN prg (n + 8)) (.lc (.name 2) (.rng (.blt .len (.cons (.var 1) .nil))) .nil (.call (.fn 35) (.cons (.var 0) (.cons (.con (.int 0)) (.cons (.var 2) .nil)))) [2]) (tE l a2 a3 a4 a5 a6 a7 a8 a9) M = some (.ok (.d (.lst (l.map stD))), M) := by
    rw [runE_lc, hI, bR_ok, key, bR_ok, mkLst_at, if_pos (by simp [szOk]; omega)]
  simp only [sS, c__law_tells, tlS, hdS]
  simp [-runE_lc, hL]
  unfold tE
  simp [flats_st, eqDs_self]
end
end LW
set_option Elab.async false
set_option linter.all false
set_option maxRecDepth 100000
set_option maxHeartbeats 2000000
/-! k10: what a row tells, further parts -/
namespace LW
open PySem L2 TD
theorem szOk_of {n : Nat} (h : n ≤ 1000) : szOk n = true := by
  unfold szOk
  rw [decide_eq_true_eq]
  omega
theorem szOk_rng {k : Nat} {f : Nat → D} (h : k ≤ 1000) : szOk ((List.range' 0 k).map f).length = true := szOk_of (by rw [List.length_map, List.length_range']; exact h)
mutual
theorem eqD_self : ∀ {n : Nat} {x : D}, flat n x = true → eqD x x = true
  | _, .non, _ => rfl
  | _, .bl b, _ => by simp [eqD]
  | _, .int _, _ => by simp [eqD]
  | _, .str _, _ => by simp [eqD]
  | 0, .tup xs, h => by unfold flat at h; cases h
  | 0, .lst xs, h => by unfold flat at h; cases h
  | n + 1, .tup xs, h => by
    unfold flat at h
    exact eqDs_selfF h
  | n + 1, .lst xs, h => by
    unfold flat at h
    exact eqDs_selfF h
  | _, .dic _, h => by unfold flat at h; cases h
  | _, .obj _ _, h => by unfold flat at h; cases h
theorem eqDs_selfF : ∀ {n : Nat} {x : List D}, flats n x = true → eqDs x x = true
  | _, [], _ => rfl
  | n, x :: xs, h => by
    unfold flats at h
    obtain ⟨a1, a2⟩ := Bool.and_eq_true_iff.mp h
    show (eqD x x && eqDs xs xs) = true
    rw [eqD_self a1, eqDs_selfF a2]
    rfl
end
section
variable {n : Nat} {l : List Stp} {M : Mem} {a2 a3 a4 a5 a6 a7 a8 a9 : Option Vl}
theorem t3_hI {k : Nat} (hk : k = l.length + 2) (hl : l.length ≤ 8) : runI prg.T prg.rp (callN prg (n + 8)) (.rng (.bin .Add (.blt .len (.cons (.var 1) .nil)) (.con (.int 2)))) (tE l a2 a3 a4 a5 a6 a7 a8 a9) M = some (.ok ((List.range' 0 k).map fun i => D.int (i : Nat)), M) := by
  have h0 : runE prg.T prg.rp (callN prg (n + 8)) (.bin .Add (.blt .len (.cons (.var 1) .nil)) (.con (.int 2))) (tE l a2 a3 a4 a5 a6 a7 a8 a9) M = some (.ok (.d (.int ((l.length : Int) + 2))), M) := by unfold tE; simp
  exact rng_at h0 (by omega) (by omega)
theorem t3_hC {A : D} (hH : callN prg (n + 8) (.fn 37) [.d (.lst (l.map stD))] M = some (.ok (.d A), M)) : runE prg.T prg.rp (callN prg (n + 8)) (.call (.fn 37) (.cons (.var 1) .nil)) (tE l a2 a3 a4 a5 a6 a7 a8 a9) M = some (.ok (.d A), M) := by
    unfold tE
    rw [runE_call, runL_cons, runE_var, getV_at (v := .d (.lst (l.map stD))) rfl, bR_ok, runL_nil, bR_ok, bR_ok, hH]
theorem t3_key {k : Nat} (hM : MOk M) (hk : k = l.length + 2) (hl : l.length ≤ 8) : lcGo (lcF prg.T prg.rp (callN prg (n + 8)) (.name 6) .nil (.call (.fn 35) (.cons (.var 0) (.cons (.con (.int 1)) (.cons (.var 6) .nil)))) [6] (tE l a2 a3 a4 a5 a6 a7 a8 a9)) ((List.range' 0 k).map fun i => D.int (i : Nat)) M = some (.ok ((List.range' 0 k).map fun i => D.tup ((keptL [] (l.take i)).map .str)), M) := by
    refine lc_map _ fun i hi => ?_
    rw [lcF_at (e' := tE l a2 a3 a4 a5 (some (.d (.int i))) a7 a8 a9) rfl]
    have hi2 : i < k := by simpa using hi
    have h1 := ask1_at (n := n) (i := i) (l := l) hM (by omega) (by omega)
    unfold tE
    simp [h1]
theorem t3_flat {k : Nat} : flats 19 ((List.range' 0 k).map fun i => D.tup ((keptL [] (l.take i)).map .str)) = true := by
    rw [flats_mem]
    intro x hx
    obtain ⟨i, _, rfl⟩ := List.mem_map.mp hx
    show flats 18 _ = true
    rw [flats_mem]
    intro y hy
    obtain ⟨z, _, rfl⟩ := List.mem_map.mp hy
    simp
theorem neq_self {cl : Cl} {a b : CE} {e : TD.Env} {A : List D} (ha : runE prg.T prg.rp cl a e M = some (.ok (.d (.lst A)), M)) (hb : runE prg.T prg.rp cl b e M = some (.ok (.d (.lst A)), M)) (hf : flats 19 A = true) : runT prg.T prg.rp cl (.tst (.cmp .NotEq a b)) e M = some (.ok false, M) := by
    rw [runT_tst, runE_cmp, ha, bR_ok, hb, bR_ok, opC_d]
    simp [hf, eqDs_selfF hf]
theorem ife_no {cl : Cl} {t : CT} {a b : CSs} {e : TD.Env} (h : runT prg.T prg.rp cl t e M = some (.ok false, M)) : runS prg.T prg.rp prg.XT cl (.ife t a .nil) e M = some (.next e, M) := by
  rw [runS_ife, h]
  rfl
theorem tells3 (hM : MOk M) (hl : l.length ≤ 8) : runS prg.T prg.rp prg.XT (callN prg (n + 8)) (hdS (sS 2)) (tE l a2 a3 a4 a5 a6 a7 a8 a9) M = some (.next (tE l a2 a3 a4 a5 a6 a7 a8 a9), M) := by
  obtain ⟨k, hk⟩ : ∃ k, k = l.length + 2 := ⟨_, rfl⟩
  have hH := heldrows_ok (n := n + 6) (l := l) hM (by omega) hk
  have hL : runE prg.T prg.rp (callN prg (n + 8)) (.lc (.name 6) (.rng (.bin .Add (.blt .len (.cons (.var 1) .nil)) (.con (.int 2)))) .nil (.call (.fn 35) (.cons (.var 0) (.cons (.con (.int 1)) (.cons (.var 6) .nil)))) [6]) (tE l a2 a3 a4 a5 a6 a7 a8 a9) M = some (.ok (.d (.lst ((List.range' 0 k).map fun i => D.tup ((keptL [] (l.take i)).map .str)))), M) := by
    rw [runE_lc, t3_hI hk hl, bR_ok, t3_key hM hk hl, bR_ok, mkLst_at, if_pos (szOk_rng (by omega))]
  have hT := neq_self hL (t3_hC (a2 := a2) (a3 := a3) (a4 := a4) (a5 := a5) (a6 := a6) (a7 := a7) (a8 := a8) (a9 := a9) hH) t3_flat
  exact ife_no (b := .nil) (a := .cons (.ret (.con (.bl false))) .nil) hT
end
end LW
set_option Elab.async false
set_option linter.all false
set_option maxRecDepth 100000
set_option maxHeartbeats 2000000
/-! k10: what a row tells: without, names -/
namespace LW
open PySem L2 TD
section
variable {n : Nat} {l : List Stp} {M : Mem} {a2 a3 a4 a5 a6 a7 a8 a9 : Option Vl}
def askS (m : List Stp) : D :=
  match firstT 0 (wrongsL [] [] m) with
  | none => .lst (m.map stD)
  | some i => .lst [.str "step", .int (i : Nat)]
theorem askT_st {m : List Stp} (h : ∀ s ∈ m, goodS s) (hl : m.length ≤ 8) : askT (m.map stD) = askS m := by
  unfold askT askS
  rw [rowErr_st h hl]
  cases firstT 0 (wrongsL [] [] m) <;> rfl
theorem flat_askS {m : List Stp} : flat 20 (askS m) = true := by
  unfold askS
  cases firstT 0 (wrongsL [] [] m) with
  | none => simp [flats_st]
  | some i => simp
theorem goodS_not3 {s : Stp} (h : goodS s) : s.1 ≠ "piece" := by
  intro e
  have := h.1
  rw [e] at this
  exact absurd this (by decide +kernel)
theorem turn3 {i : Nat} (hM : MOk M) (hl : l.length ≤ 8) (hg : ∀ s ∈ l, goodS s) (hi : i < l.length) :
    runSs prg.T prg.rp prg.XT (callN prg (n + 8)) l__law_tells_3 (tE l (some (.d (.int i))) a3 a4 a5 a6 a7 a8 a9) M = some (.next (tE l (some (.d (.int i))) (some (.d (.lst ((l.take i ++ l.drop (i + 1)).map stD)))) a4 a5 a6 a7 a8 a9), M) := by
  have hm : (l.take i ++ l.drop (i + 1)).length ≤ 8 := by simp; omega
  have hgm : ∀ s ∈ l.take i ++ l.drop (i + 1), goodS s := by
    intro s hs
    rcases List.mem_append.mp hs with h | h
    · exact hg s (List.mem_of_mem_take h)
    · exact hg s (List.mem_of_mem_drop h)
  have h1 := ask2_at (n := n) (i := i) (xs := l.map stD) hM (by simpa using hi) (by simp; omega) (ps_sts hg)
  have e1 : (l.map stD).take i ++ (l.map stD).drop (i + 1) = (l.take i ++ l.drop (i + 1)).map stD := by simp
  rw [e1, askT_st hgm hm] at h1
  have h2 := fault_ok (n := n + 7) (l := l.take i ++ l.drop (i + 1)) hM (by omega) fun s hs => goodS_not3 (hgm s hs)
  have e2 : ((l.map stD).take i).length + ((l.map stD).drop (i + 1)).length ≤ 16777216 := by simp; omega
  have hS : runS prg.T prg.rp prg.XT (callN prg (n + 8)) (hdS l__law_tells_3) (tE l (some (.d (.int i))) a3 a4 a5 a6 a7 a8 a9) M = some (.next (tE l (some (.d (.int i))) (some (.d (.lst ((l.take i ++ l.drop (i + 1)).map stD)))) a4 a5 a6 a7 a8 a9), M) := by
    simp only [l__law_tells_3, hdS]
    unfold tE
    simp [-List.length_take, -List.length_drop, e2]
  rw [runSs_hd, hS, tR_next]
  have hfl := flat_askS (m := l.take i ++ l.drop (i + 1))
  unfold askS at h1 hfl
  generalize l.take i ++ l.drop (i + 1) = m at *
  simp only [l__law_tells_3, tlS]
  unfold tE
  cases hq : firstT 0 (wrongsL [] [] m) with
  | none =>
    rw [hq] at h1 h2
    simp [h1, h2, optD, flats_st, eqDs_self]
  | some j =>
    rw [hq] at h1 h2
    simp [h1, h2, optD]
theorem tells4 (hM : MOk M) (hl : l.length ≤ 8) (hg : ∀ s ∈ l, goodS s) : ∃ b2 b3, runS prg.T prg.rp prg.XT (callN prg (n + 8)) (hdS (sS 3)) (tE l a2 a3 a4 a5 a6 a7 a8 a9) M = some (.next (tE l b2 b3 a4 a5 a6 a7 a8 a9), M) := by
  have h0 : runE prg.T prg.rp (callN prg (n + 8)) (.blt .len (.cons (.var 1) .nil)) (tE l a2 a3 a4 a5 a6 a7 a8 a9) M = some (.ok (.d (.int l.length)), M) := by unfold tE; simp
  have hI := rng_at (k := l.length) h0 rfl (by omega)
  obtain ⟨f, M', hr, hq⟩ := for_inv (T := prg.T) (rp := prg.rp) (XT := prg.XT) (cl := callN prg (n + 8)) (g := .name 2) (b := l__law_tells_3)
    (Q := fun f M' => ∃ b2 b3, f = .next (tE l b2 b3 a4 a5 a6 a7 a8 a9) ∧ M' = M)
    (fun xs e M' => ∃ b2 b3, e = tE l b2 b3 a4 a5 a6 a7 a8 a9 ∧ M' = M ∧ ∀ x ∈ xs, ∃ i : Nat, x = .int i ∧ i < l.length)
    (by
      rintro x xs e M' ⟨b2, b3, rfl, rfl, hx⟩
      obtain ⟨i, rfl, hi⟩ := hx x (by simp)
      refine ⟨tE l (some (.d (.int i))) b3 a4 a5 a6 a7 a8 a9, rfl, _, _, turn3 hM hl hg hi, ?_⟩
      exact ⟨_, _, rfl, rfl, fun y hy => hx y (by simp [hy])⟩)
    (by
      rintro e M' ⟨b2, b3, rfl, rfl, hx⟩
      exact ⟨b2, b3, rfl, rfl⟩)
    ((List.range' 0 l.length).map fun i => D.int (i : Nat)) (tE l a2 a3 a4 a5 a6 a7 a8 a9) M ⟨a2, a3, rfl, rfl, by
      intro x hx
      obtain ⟨i, hi, rfl⟩ := List.mem_map.mp hx
      exact ⟨i, rfl, by simpa using hi⟩⟩
  obtain ⟨b2, b3, rfl, rfl⟩ := hq
  refine ⟨b2, b3, ?_⟩
  show runS prg.T prg.rp prg.XT (callN prg (n + 8)) (.fors (.name 2) (.rng (.blt .len (.cons (.var 1) .nil))) l__law_tells_3) _ _ = _
  rw [runS_fors, hI, sR_ok, hr]
end
end LW
set_option Elab.async false
set_option linter.all false
set_option maxRecDepth 100000
set_option maxHeartbeats 2000000
/-! k10: what a row tells: names, odd numbers -/
namespace LW
open PySem L2 TD
section
variable {n : Nat} {l : List Stp} {M : Mem} {a2 a3 a4 a5 a6 a7 a8 a9 : Option Vl}
theorem met_names {M : Mem} {xs : List D} : metE prg.T "names" (.d (rowD xs)) M = some (.ok 24, M) := metE_row (by decide +kernel) (by decide +kernel)
theorem kind_words : ∀ p ∈ kindW, ∀ w ∈ words, decide (kindS w = p.1) = decide (w ∈ p.2) := by decide +kernel
theorem kind_filt {z : Str} {ws : List Str} (hz : (z, ws) ∈ kindW) (hg : ∀ s ∈ l, goodS s) : (l.filter fun s => decide (kindS s.1 = z)) = l.filter fun s => decide (s.1 ∈ ws) :=
  List.filter_congr fun s hs => kind_words (z, ws) hz s.1 (hg s hs).1
theorem kind_look : ∀ p ∈ kindW, kindW.lookup p.1 = some p.2 := by decide +kernel
theorem turn2 {z : Str} {ws : List Str} (hM : MOk M) (hl : l.length ≤ 8) (hg : ∀ s ∈ l, goodS s) (hz : (z, ws) ∈ kindW) :
    runSs prg.T prg.rp prg.XT (callN prg (n + 8)) l__law_tells_2 (tE l a2 a3 (some (.d (.str z))) a5 a6 a7 a8 a9) M = some (.next (tE l a2 a3 (some (.d (.str z))) a5 a6 a7 a8 a9), M) := by
  have h1 := names_ok (n := n + 7) (l := l) hM (by omega) (kind_look (z, ws) hz)
  have key : lcGo (lcF prg.T prg.rp (callN prg (n + 8)) (.tup (.cons (.name 7) (.cons (.name 8) .nil))) (.one (.tst (.cmp .Eq (.call (.fn 32) (.cons (.var 7) .nil)) (.var 4)))) (.var 8) [7, 8] (tE l a2 a3 (some (.d (.str z))) a5 a6 a7 a8 a9)) (l.map stD) M = some (.ok (((l.filter fun s => decide (s.1 ∈ ws)).map (·.2)).map .str), M) := by
    rw [← kind_filt hz hg, List.map_map]
    refine lc_filt _ fun s hs => ?_
    rw [lcF_at (e' := tE l a2 a3 (some (.d (.str z))) a5 a6 (some (.d (.str s.1))) (some (.d (.str s.2))) a9) rfl]
    have h2 := kind_ok (n := n + 7) (w := s.1) hM
    unfold tE
    by_cases c : kindS s.1 = z
    · simp [h2, c]
    · simp [h2, c]
  have e2 : ((l.filter fun s => decide (s.1 ∈ ws)).map (·.2)).length ≤ 1000 := by
    rw [List.length_map]
    exact Nat.le_trans (List.length_filter_le _ _) (by omega)
  generalize ((l.filter fun s => decide (s.1 ∈ ws)).map (·.2)) = ys at *
  have hL : runE prg.T prg.rp (callN prg (n + 8)) (.lc (.tup (.cons (.name 7) (.cons (.name 8) .nil))) (.seq (.var 1)) (.one (.tst (.cmp .Eq (.call (.fn 32) (.cons (.var 7) .nil)) (.var 4)))) (.var 8) [7, 8]) (tE l a2 a3 (some (.d (.str z))) a5 a6 a7 a8 a9) M = some (.ok (.d (.lst (ys.map .str))), M) := by
    have hI : runI prg.T prg.rp (callN prg (n + 8)) (.seq (.var 1)) (tE l a2 a3 (some (.d (.str z))) a5 a6 a7 a8 a9) M = some (.ok (l.map stD), M) := by
      have : l.length ≤ 16777216 := by omega
      unfold tE
      simp [this]
    rw [runE_lc, hI, bR_ok, key, bR_ok, mkLst_at, if_pos (szOk_of (by simpa using e2))]
  have hB : runE prg.T prg.rp (callN prg (n + 8)) (.blt .sortedSet (.cons (.lc (.tup (.cons (.name 7) (.cons (.name 8) .nil))) (.seq (.var 1)) (.one (.tst (.cmp .Eq (.call (.fn 32) (.cons (.var 7) .nil)) (.var 4)))) (.var 8) [7, 8]) .nil)) (tE l a2 a3 (some (.d (.str z))) a5 a6 a7 a8 a9) M = some (.ok (.d (.lst ((sortN ys).map .str))), M) := by
    rw [runE_blt, runL_cons, hL, bR_ok, runL_nil, bR_ok, bR_ok]
    simp [ssD_map (show ys.length < 4000 by omega)]
  have hA : runE prg.T prg.rp (callN prg (n + 8)) (.met "names" (.var 0) (.cons (.var 4) .nil)) (tE l a2 a3 (some (.d (.str z))) a5 a6 a7 a8 a9) M = some (.ok (.d (.lst ((sortN ys).map .str))), M) := by
    unfold tE
    simp [met_names, h1]
  have hT := neq_self hA hB flats_strs
  show tR (runS prg.T prg.rp prg.XT (callN prg (n + 8)) (.ife _ _ .nil) _ _) (fun e M => some (.next e, M)) = _
  rw [ife_no (b := .nil) hT]
  rfl
theorem tells5 (hM : MOk M) (hl : l.length ≤ 8) (hg : ∀ s ∈ l, goodS s) : ∃ b4, runS prg.T prg.rp prg.XT (callN prg (n + 8)) (hdS (sS 4)) (tE l a2 a3 a4 a5 a6 a7 a8 a9) M = some (.next (tE l a2 a3 b4 a5 a6 a7 a8 a9), M) := by
  refine ⟨some (.d (.str "locks")), ?_⟩
  have t := fun z ws (hz : (z, ws) ∈ kindW) => turn2 (n := n) (l := l) (M := M) (a2 := a2) (a3 := a3) (a5 := a5) (a6 := a6) (a7 := a7) (a8 := a8) (a9 := a9) (z := z) (ws := ws) hM hl hg hz
  have g : ∀ z b4, (tE l a2 a3 b4 a5 a6 a7 a8 a9).set 4 (.d (.str z)) = tE l a2 a3 (some (.d (.str z))) a5 a6 a7 a8 a9 := fun z b4 => rfl
  have t1 := t "works" ["cancel", "bar", "halt", "settle"] (by simp [kindW])
  have t2 := t "gates" ["close", "drain"] (by simp [kindW])
  have t3 := t "flags" ["set", "clear"] (by simp [kindW])
  have t4 := t "locks" ["take", "give"] (by simp [kindW])
  simp only [sS, c__law_tells, tlS, hdS]
  simp [g, t1, t2, t3, t4]
end
end LW
set_option Elab.async false
set_option linter.all false
set_option maxRecDepth 100000
set_option maxHeartbeats 2000000
/-! k10: what a row tells: odd numbers -/
namespace LW
open PySem L2 TD
section
variable {n : Nat} {l : List Stp} {M : Mem} {a2 a3 a4 a5 a6 a7 a8 a9 : Option Vl}
theorem turn1 {x : D} {r : Str} (hM : MOk M) (ho : ∀ c fs, x ≠ .obj c fs) (h1 : wholeD x 0 ((l.length : Int) - 1) = false) (h2 : wholeD x 0 ((l.length : Int) + 1) = false) (hr : prg.rp x = some r) :
    runSs prg.T prg.rp prg.XT (callN prg (n + 8)) l__law_tells_1 (tE l a2 a3 a4 (some (.d x)) a6 a7 a8 a9) M = some (.next (tE l a2 a3 a4 (some (.d x)) a6 a7 a8 a9), M) := by
  have q0 := ask0_odd (n := n) (xs := l.map stD) hM ho (by simpa using h1) hr
  have q1 := ask1_odd (n := n) (xs := l.map stD) hM ho (by simpa using h2) hr
  have q2 := ask2_odd (n := n) (xs := l.map stD) hM ho (by simpa using h1) hr
  have f : ∀ k, (k = 0 ∨ k = 1 ∨ k = 2) → lcF prg.T prg.rp (callN prg (n + 8)) (.name 9) (.one (.tst (.cmp .NotEq (.call (.fn 35) (.cons (.var 0) (.cons (.var 9) (.cons (.var 5) .nil)))) (.lst (.cons (.con (.str "none")) (.cons (.blt .repr (.cons (.var 5) .nil)) .nil)))))) (.var 9) [9] (tE l a2 a3 a4 (some (.d x)) a6 a7 a8 a9) (.int k) M = some (.ok none, M) := by
    intro k hk
    rw [lcF_at (e' := tE l a2 a3 a4 (some (.d x)) a6 a7 a8 (some (.d (.int k)))) rfl]
    unfold tE
    rcases hk with rfl | rfl | rfl
    · simp [q0, hr]
    · simp [q1, hr]
    · simp [q2, hr]
  have key := lc_go (p := fun _ => none) (f := lcF prg.T prg.rp (callN prg (n + 8)) (.name 9) (.one (.tst (.cmp .NotEq (.call (.fn 35) (.cons (.var 0) (.cons (.var 9) (.cons (.var 5) .nil)))) (.lst (.cons (.con (.str "none")) (.cons (.blt .repr (.cons (.var 5) .nil)) .nil)))))) (.var 9) [9] (tE l a2 a3 a4 (some (.d x)) a6 a7 a8 a9)) (M := M) [.int 0, .int 1, .int 2] (by
    intro y hy
    simp at hy
    rcases hy with rfl | rfl | rfl
    · exact f 0 (by simp)
    · exact f 1 (by simp)
    · exact f 2 (by simp))
  have hI : runI prg.T prg.rp (callN prg (n + 8)) (.rng (.con (.int 3))) (tE l a2 a3 a4 (some (.d x)) a6 a7 a8 a9) M = some (.ok [.int 0, .int 1, .int 2], M) := rng_at (k := 3) rfl rfl (by omega)
  have hL : runE prg.T prg.rp (callN prg (n + 8)) (.lc (.name 9) (.rng (.con (.int 3))) (.one (.tst (.cmp .NotEq (.call (.fn 35) (.cons (.var 0) (.cons (.var 9) (.cons (.var 5) .nil)))) (.lst (.cons (.con (.str "none")) (.cons (.blt .repr (.cons (.var 5) .nil)) .nil)))))) (.var 9) [9]) (tE l a2 a3 a4 (some (.d x)) a6 a7 a8 a9) M = some (.ok (.d (.lst [])), M) := by
    rw [runE_lc, hI, bR_ok, key, bR_ok, mkLst_at]
    rfl
  have hB : runE prg.T prg.rp (callN prg (n + 8)) (.lst .nil) (tE l a2 a3 a4 (some (.d x)) a6 a7 a8 a9) M = some (.ok (.d (.lst [])), M) := by simp
  have hT := neq_self hL hB (by simp)
  show tR (runS prg.T prg.rp prg.XT (callN prg (n + 8)) (.ife _ _ .nil) _ _) (fun e M => some (.next e, M)) = _
  rw [ife_no (b := .nil) hT]
  rfl
end
end LW
set_option Elab.async false
set_option linter.all false
set_option maxRecDepth 100000
set_option maxHeartbeats 2000000
/-! k10: what a row tells: odd numbers -/
namespace LW
open PySem L2 TD
theorem rp_num : ∀ k ∈ List.range 20, (rpD (.int (k : Nat))).isSome = true := by decide +kernel
theorem rp_six : ∀ x ∈ ([.int (-1), .non, .bl true, .str "0", .tup [.int 0], .int (-1000000000000000000000000000000)] : List D), (rpD x).isSome = true := by decide +kernel
theorem rp_some {x : D} (h : (rpD x).isSome = true) : ∃ r, prg.rp x = some r := Option.isSome_iff_exists.mp h
section
variable {n : Nat} {l : List Stp} {M : Mem} {a2 a3 a4 a5 a6 a7 a8 a9 : Option Vl}
theorem tells6 (hM : MOk M) (hl : l.length ≤ 8) : ∃ b5, runS prg.T prg.rp prg.XT (callN prg (n + 8)) (hdS (sS 5)) (tE l a2 a3 a4 a5 a6 a7 a8 a9) M = some (.next (tE l a2 a3 a4 b5 a6 a7 a8 a9), M) := by
  have six := fun x (hx : x ∈ ([.int (-1), .non, .bl true, .str "0", .tup [.int 0], .int (-1000000000000000000000000000000)] : List D)) => rp_some (rp_six x hx)
  have t : ∀ x r, (∀ c fs, x ≠ .obj c fs) → wholeD x 0 ((l.length : Int) - 1) = false → wholeD x 0 ((l.length : Int) + 1) = false → prg.rp x = some r → runSs prg.T prg.rp prg.XT (callN prg (n + 8)) l__law_tells_1 (tE l a2 a3 a4 (some (.d x)) a6 a7 a8 a9) M = some (.next (tE l a2 a3 a4 (some (.d x)) a6 a7 a8 a9), M) := fun x r h1 h2 h3 h4 => turn1 hM h1 h2 h3 h4
  have g : ∀ x b5, (tE l a2 a3 a4 b5 a6 a7 a8 a9).set 5 (.d x) = tE l a2 a3 a4 (some (.d x)) a6 a7 a8 a9 := fun z b4 => rfl
  obtain ⟨r1, h1⟩ := six (.int (-1)) (by simp)
  obtain ⟨r3, h3⟩ := six .non (by simp)
  obtain ⟨r4, h4⟩ := six (.bl true) (by simp)
  obtain ⟨r5, h5⟩ := six (.str "0") (by simp)
  obtain ⟨r6, h6⟩ := six (.tup [.int 0]) (by simp)
  obtain ⟨r7, h7⟩ := six (.int (-1000000000000000000000000000000)) (by simp)
  obtain ⟨r2, h2⟩ := rp_some (rp_num (l.length + 2) (by simp; omega))
  have e2 : ((l.length + 2 : Nat) : Int) = (l.length : Int) + 2 := by omega
  rw [e2] at h2
  have t1 := t _ _ (by simp) (by simp [wholeD]) (by simp [wholeD]) h1
  have t3 := t _ _ (by simp) rfl rfl h3
  have t4 := t _ _ (by simp) rfl rfl h4
  have t5 := t _ _ (by simp) rfl rfl h5
  have t6 := t _ _ (by simp) rfl rfl h6
  have t7 := t _ _ (by simp) (by simp [wholeD]) (by simp [wholeD]) h7
  have w1 : ¬ ((l.length : Int) + 2 ≤ (l.length : Int) - 1) := by omega
  have w2 : ¬ ((l.length : Int) + 2 ≤ (l.length : Int) + 1) := by omega
  have t2 := t _ _ (by simp) (by simp [wholeD, w1]) (by simp [wholeD, w2]) h2
  have hI : runI prg.T prg.rp (callN prg (n + 8)) (.seq (.lst (.cons (.neg (.con (.int 1))) (.cons (.bin .Add (.blt .len (.cons (.var 1) .nil)) (.con (.int 2))) (.cons (.con .non) (.cons (.con (.bl true)) (.cons (.con (.str "0")) (.cons (.tup (.cons (.con (.int 0)) .nil)) (.cons (.neg (.bin .Pow (.con (.int 10)) (.con (.int 30)))) .nil))))))))) (tE l a2 a3 a4 a5 a6 a7 a8 a9) M = some (.ok [.int (-1), .int ((l.length : Int) + 2), .non, .bl true, .str "0", .tup [.int 0], .int (-1000000000000000000000000000000)], M) := by
    unfold tE
    simp
  refine ⟨some (.d (.int (-1000000000000000000000000000000))), ?_⟩
  simp only [sS, c__law_tells, tlS, hdS]
  rw [runS_fors, hI, sR_ok]
  simp only [forR_cons, forR_nil, TD.asg, aR_some, g, t1, t2, t3, t4, t5, t6, t7, nR_next]
end
end LW
set_option Elab.async false
set_option linter.all false
set_option maxRecDepth 100000
set_option maxHeartbeats 2000000
/-! k10: what a row tells, whole -/
namespace LW
open PySem L2 TD
section
variable {n : Nat} {l : List Stp} {M : Mem} {a2 a3 a4 a5 a6 a7 a8 a9 : Option Vl}
theorem tells7 (hM : MOk M) (hl : l.length ≤ 8) : runS prg.T prg.rp prg.XT (callN prg (n + 8)) (hdS (sS 6)) (tE l a2 a3 a4 a5 a6 a7 a8 a9) M = some (.next (tE l a2 a3 a4 a5 a6 a7 a8 a9), M ++ [.lst (l.map stD ++ [.tup [.str "bar", .str "zz"]])]) := by
  have h1 := steps_1 (n := n + 7) (xs := l.map stD) hM (by simp; omega)
  have h2 : l.length < 16777216 := by omega
  simp only [sS, c__law_tells, tlS, hdS]
  unfold tE
  simp [met_steps, h1, h2]
theorem tells8 (hM : MOk M) (hl : l.length ≤ 8) : runS prg.T prg.rp prg.XT (callN prg (n + 8)) (hdS (sS 7)) (tE l a2 a3 a4 a5 a6 a7 a8 a9) M = some (.ret (.d (.bl true)), M ++ [.lst (l.map stD)]) := by
  have h1 := steps_1 (n := n + 7) (xs := l.map stD) hM (by simp; omega)
  obtain ⟨r, hr⟩ := rp_some (rp_num l.length (by simp; omega))
  have h2 := ask0_odd (n := n) (xs := l.map stD) (x := .int l.length) (M := M ++ [.lst (l.map stD)]) hM.lst (by simp) (by simp [wholeD]; omega) hr
  simp only [sS, c__law_tells, tlS, hdS]
  unfold tE
  simp [met_steps, h1, opC_loc, flats_st, eqDs_self, h2, hr]
theorem tells_ok (hM : MOk M) (hl : l.length ≤ 8) (hg : ∀ s ∈ l, goodS s) : callN prg (n + 9) (.fn 36) [.d (rowD (l.map stD)), .d (.lst (l.map stD))] M = some (.ok (.d (.bl true)), M) := by
  have hc : callN prg (n + 9) (.fn 36) [.d (rowD (l.map stD)), .d (.lst (l.map stD))] M = endF M.length 0 (runSs prg.T prg.rp prg.XT (callN prg (n + 8)) (sS 0) (tE l none none none none none none none none) M) := by
    rw [call_fn (F := ⟨2, 8, c__law_tells, 0, false⟩) rfl rfl rfl]
    rfl
  have t1 := tells1 (n := n) (l := l) (M := M) (a2 := none) (a3 := none) (a4 := none) (a5 := none) (a6 := none) (a7 := none) (a8 := none) (a9 := none) hM hl
  have hM1 : MOk (M ++ [.lst (l.map stD)]) := hM.lst
  have t2 := tells2 (n := n) (l := l) (a2 := none) (a3 := none) (a4 := none) (a5 := none) (a6 := none) (a7 := none) (a8 := none) (a9 := none) hM1 hl
  have t3 := tells3 (n := n) (l := l) (a2 := none) (a3 := none) (a4 := none) (a5 := none) (a6 := none) (a7 := none) (a8 := none) (a9 := none) hM1 hl
  obtain ⟨b2, b3, t4⟩ := tells4 (n := n) (l := l) (a2 := none) (a3 := none) (a4 := none) (a5 := none) (a6 := none) (a7 := none) (a8 := none) (a9 := none) hM1 hl hg
  obtain ⟨b4, t5⟩ := tells5 (n := n) (l := l) (a2 := b2) (a3 := b3) (a4 := none) (a5 := none) (a6 := none) (a7 := none) (a8 := none) (a9 := none) hM1 hl hg
  obtain ⟨b5, t6⟩ := tells6 (n := n) (l := l) (a2 := b2) (a3 := b3) (a4 := b4) (a5 := none) (a6 := none) (a7 := none) (a8 := none) (a9 := none) hM1 hl
  have t7 := tells7 (n := n) (l := l) (a2 := b2) (a3 := b3) (a4 := b4) (a5 := b5) (a6 := none) (a7 := none) (a8 := none) (a9 := none) hM1 hl
  have t8 := tells8 (n := n) (l := l) (a2 := b2) (a3 := b3) (a4 := b4) (a5 := b5) (a6 := none) (a7 := none) (a8 := none) (a9 := none) (hM1.lst (xs := l.map stD ++ [.tup [.str "bar", .str "zz"]])) hl
  rw [hc]
  rw [runSs_hd, t1, tR_next]
  show endF M.length 0 (runSs prg.T prg.rp prg.XT (callN prg (n + 8)) (sS 1) _ _) = _
  rw [runSs_hd, t2, tR_next]
  show endF M.length 0 (runSs prg.T prg.rp prg.XT (callN prg (n + 8)) (sS 2) _ _) = _
  rw [runSs_hd, t3, tR_next]
  show endF M.length 0 (runSs prg.T prg.rp prg.XT (callN prg (n + 8)) (sS 3) _ _) = _
  rw [runSs_hd, t4, tR_next]
  show endF M.length 0 (runSs prg.T prg.rp prg.XT (callN prg (n + 8)) (sS 4) _ _) = _
  rw [runSs_hd, t5, tR_next]
  show endF M.length 0 (runSs prg.T prg.rp prg.XT (callN prg (n + 8)) (sS 5) _ _) = _
  rw [runSs_hd, t6, tR_next]
  show endF M.length 0 (runSs prg.T prg.rp prg.XT (callN prg (n + 8)) (sS 6) _ _) = _
  rw [runSs_hd, t7, tR_next]
  show endF M.length 0 (runSs prg.T prg.rp prg.XT (callN prg (n + 8)) (sS 7) _ _) = _
  rw [runSs_hd, t8, tR_ret, List.append_assoc, List.append_assoc]
  exact end_d hM
end
end LW
set_option Elab.async false
set_option linter.all false
set_option maxRecDepth 100000
set_option maxHeartbeats 2000000
/-! k10: which things are among the steps -/
namespace LW
open PySem L2 TD
section
variable {n p len : Nat} {l : List Stp} {ns : List Str} {M : Mem} {a4 a5 a6 a7 a8 : Option Vl}
def twelve : List Str := ["cancel", "bar", "halt", "settle", "close", "drain", "set", "clear", "take", "give", "free", "use"]
def amE (l : List Stp) (p : Nat) (ns : List Str) (a4 a5 a6 a7 a8 : Option Vl) : TD.Env := ⟨[some (.d (rowD (l.map stD))), some (.d (.lst (l.map stD))), some (.loc p), some (.d (.lst (ns.map .str))), a4, a5, a6, a7, a8], none⟩
theorem oin_row {k : Nat} {neg : Bool} {y : D} (hM : MOk M) (hy : ps y = true) : oinV prg.T (callN prg (k + 3)) neg (.d y) (.d (rowD (l.map stD))) M = some (.ok (.d (.bl (if neg then !(isStepD y && anyEq y (l.map stD)) else (isStepD y && anyEq y (l.map stD))))), M) := by
  unfold oinV
  have h1 : noEx (callN prg (k + 3) (.fn 15) [.d (rowD (l.map stD)), .d y]) M = some (.ok (.d (.bl (isStepD y && anyEq y (l.map stD)))), M) := by
    unfold noEx
    rw [contains_ok hM hy]
  rw [bind_at, met_in, bR_ok, bind_at, h1, bR_ok, bind_at, boolOf_d, bR_ok]
  rfl
theorem in_st {s : Stp} (hg : ∀ s ∈ l, goodS s) : (isStepD (stD s) && anyEq (stD s) (l.map stD)) = decide (s ∈ l) := by
  rw [anyEq_stps]
  by_cases h : s ∈ l
  · rw [isStepD_st (hg s h)]; simp [h]
  · simp [h]
theorem nb_name {z : Str} (h : nameB z = true) : nb (.str z) = true := by
  unfold nameB at h
  simp at h
  simp [nb]
  omega
theorem am_turn (hM : StP p len M) (hg : ∀ s ∈ l, goodS s) (hn : ns ≠ []) (hn2 : ns.length ≤ 50) (hns : ∀ x ∈ ns, nameB x = true) :
    ∃ (b6 : Option Vl) (M' : Mem), StP p len M' ∧ runSs prg.T prg.rp prg.XT (callN prg (n + 8)) l__law_among_1 (amE l p ns (some (.d (.lst (twelve.map .str)))) a5 a6 a7 a8) M = some (.next (amE l p ns (some (.d (.lst (twelve.map .str)))) a5 b6 a7 a8), M') := by
  obtain ⟨v, M1, h1, h2, h3⟩ := pick_st (n := n + 6) (xs := twelve.map .str) hM (by simp [twelve]) (by simp [twelve])
  obtain ⟨w, hw, rfl⟩ := List.mem_map.mp h2
  obtain ⟨v, M2, h4, h5, h6⟩ := pick_st (n := n + 6) (xs := ns.map .str) h3 (by simpa using hn) (by simp; omega)
  obtain ⟨z, hz, rfl⟩ := List.mem_map.mp h5
  have hnb := nb_name (hns z hz)
  refine ⟨some (.d (stD (w, z))), M2, h6, ?_⟩
  have hS : runS prg.T prg.rp prg.XT (callN prg (n + 8)) (hdS l__law_among_1) (amE l p ns (some (.d (.lst (twelve.map .str)))) a5 a6 a7 a8) M = some (.next (amE l p ns (some (.d (.lst (twelve.map .str)))) a5 (some (.d (stD (w, z)))) a7 a8), M2) := by
    simp only [l__law_among_1, hdS]
    unfold amE
    simp [h1, h4, stD]
  have o1 := oin_row (k := n + 5) (l := l) (neg := false) (y := stD (w, z)) h6.1 (by simp [ps, stD, hnb])
  have o2 := oin_row (k := n + 5) (l := l) (neg := false) (y := .lst [.str w, .str z]) h6.1 (by simp [ps])
  have o3 := oin_row (k := n + 5) (l := l) (neg := false) (y := .tup [.str w, .str z, .int 0]) h6.1 (by simp [ps])
  rw [in_st hg] at o1
  have s2 : isStepD (.lst [.str w, .str z]) = false := rfl
  have s3 : isStepD (.tup [.str w, .str z, .int 0]) = false := rfl
  rw [s2] at o2
  rw [s3] at o3
  rw [runSs_hd, hS, tR_next]
  simp only [l__law_among_1, tlS]
  have a1 := anyEq_stps (x := (w, z)) (l := l)
  unfold amE
  have e3 : stD (w, z) = .tup [.str w, .str z] := rfl
  rw [e3] at o1 a1 ⊢
  by_cases c : (w, z) ∈ l
  · simp [o1, o2, o3, a1, c, allOk_st]
  · simp [o1, o2, o3, a1, c, allOk_st]
end
end LW
set_option Elab.async false
set_option linter.all false
set_option maxRecDepth 100000
set_option maxHeartbeats 2000000
/-! k10: which things are among the steps, whole -/
namespace LW
open PySem L2 TD
section
variable {n p len : Nat} {l : List Stp} {ns : List Str} {M : Mem} {a4 a5 a6 a7 a8 : Option Vl}
def sA : Nat → CSs
  | 0 => c__law_among
  | k + 1 => tlS (sA k)
theorem am1 : runS prg.T prg.rp prg.XT (callN prg (n + 8)) (hdS (sA 0)) (amE l p ns a4 a5 a6 a7 a8) M = some (.next (amE l p ns (some (.d (.lst (twelve.map .str)))) a5 a6 a7 a8), M) := by
  simp only [sA, c__law_among, hdS]
  unfold amE
  simp [twelve]
theorem am2 (hM : StP p len M) (hg : ∀ s ∈ l, goodS s) (hn : ns ≠ []) (hn2 : ns.length ≤ 50) (hns : ∀ x ∈ ns, nameB x = true) :
    ∃ (b5 b6 : Option Vl) (M' : Mem), StP p len M' ∧ runS prg.T prg.rp prg.XT (callN prg (n + 8)) (hdS (sA 1)) (amE l p ns (some (.d (.lst (twelve.map .str)))) a5 a6 a7 a8) M = some (.next (amE l p ns (some (.d (.lst (twelve.map .str)))) b5 b6 a7 a8), M') := by
  have hI : runI prg.T prg.rp (callN prg (n + 8)) (.rng (.con (.int 6))) (amE l p ns (some (.d (.lst (twelve.map .str)))) a5 a6 a7 a8) M = some (.ok ((List.range' 0 6).map fun i => D.int (i : Nat)), M) := rng_at (k := 6) rfl rfl (by omega)
  obtain ⟨f, M', hr, b5, b6, rfl, hM'⟩ := for_inv (T := prg.T) (rp := prg.rp) (XT := prg.XT) (cl := callN prg (n + 8)) (g := .name 5) (b := l__law_among_1)
    (Q := fun f M' => ∃ b5 b6, f = .next (amE l p ns (some (.d (.lst (twelve.map .str)))) b5 b6 a7 a8) ∧ StP p len M')
    (fun xs e M' => ∃ b5 b6, e = amE l p ns (some (.d (.lst (twelve.map .str)))) b5 b6 a7 a8 ∧ StP p len M')
    (by
      rintro x xs e M' ⟨b5, b6, rfl, hM'⟩
      obtain ⟨c6, M2, h1, h2⟩ := am_turn (n := n) (a5 := some (.d x)) (a6 := b6) (a7 := a7) (a8 := a8) hM' hg hn hn2 hns
      exact ⟨_, rfl, _, _, h2, _, _, rfl, h1⟩)
    (by
      rintro e M' ⟨b5, b6, rfl, hM'⟩
      exact ⟨b5, b6, rfl, hM'⟩)
    ((List.range' 0 6).map fun i => D.int (i : Nat)) (amE l p ns (some (.d (.lst (twelve.map .str)))) a5 a6 a7 a8) M ⟨a5, a6, rfl, hM⟩
  refine ⟨b5, b6, M', hM', ?_⟩
  show runS prg.T prg.rp prg.XT (callN prg (n + 8)) (.fors (.name 5) (.rng (.con (.int 6))) l__law_among_1) _ _ = _
  rw [runS_fors, hI, sR_ok, hr]
def oddL (l : List Stp) : List D := [.non, .int 0, .str "bar", .tup [], .tup [.str "bar"], .tup [.str "halt", .int 1]] ++ l.map fun s => .lst [.str s.1, .str s.2]
theorem odd_no {y : D} (h : y ∈ oddL l) : ps y = true ∧ isStepD y = false := by
  unfold oddL at h
  rcases List.mem_append.mp h with h | h
  · simp only [List.mem_cons, List.not_mem_nil, or_false] at h
    rcases h with rfl | rfl | rfl | rfl | rfl | rfl
    · exact ⟨rfl, rfl⟩
    · exact ⟨rfl, rfl⟩
    · exact ⟨rfl, rfl⟩
    · exact ⟨rfl, rfl⟩
    · exact ⟨rfl, rfl⟩
    · exact ⟨by simp [ps, nb], by simp [isStepD, isNameD]⟩
  · obtain ⟨s, _, rfl⟩ := List.mem_map.mp h
    exact ⟨rfl, rfl⟩
theorem am3 (hM : MOk M) (hl : l.length ≤ 8) : runS prg.T prg.rp prg.XT (callN prg (n + 8)) (hdS (sA 2)) (amE l p ns a4 a5 a6 a7 a8) M = some (.next (amE l p ns a4 a5 a6 (some (.d (.lst []))) a8), M) := by
  have k1 : lcGo (lcF prg.T prg.rp (callN prg (n + 8)) (.name 6) .nil (.blt .list (.cons (.var 6) .nil)) [6] (amE l p ns a4 a5 a6 a7 a8)) (l.map stD) M = some (.ok (l.map fun s => D.lst [.str s.1, .str s.2]), M) := by
    refine lc_map _ fun s hs => ?_
    rw [lcF_at (e' := amE l p ns a4 a5 (some (.d (stD s))) a7 a8) rfl]
    unfold amE stD
    simp
  have i1 : runI prg.T prg.rp (callN prg (n + 8)) (.seq (.var 1)) (amE l p ns a4 a5 a6 a7 a8) M = some (.ok (l.map stD), M) := by
    have : l.length ≤ 16777216 := by omega
    unfold amE
    simp [this]
  have r1 : runE prg.T prg.rp (callN prg (n + 8)) (.lc (.name 6) (.seq (.var 1)) .nil (.blt .list (.cons (.var 6) .nil)) [6]) (amE l p ns a4 a5 a6 a7 a8) M = some (.ok (.d (.lst (l.map fun s => D.lst [.str s.1, .str s.2]))), M) := by
    rw [runE_lc, i1, bR_ok, k1, bR_ok, mkLst_at, if_pos (szOk_of (by simp; omega))]
  have i2 : runI prg.T prg.rp (callN prg (n + 8)) (.seq (.bin .Add (.lst (.cons (.con .non) (.cons (.con (.int 0)) (.cons (.con (.str "bar")) (.cons (.tup .nil) (.cons (.tup (.cons (.con (.str "bar")) .nil)) (.cons (.tup (.cons (.con (.str "halt")) (.cons (.con (.int 1)) .nil))) .nil))))))) (.lc (.name 6) (.seq (.var 1)) .nil (.blt .list (.cons (.var 6) .nil)) [6]))) (amE l p ns a4 a5 a6 a7 a8) M = some (.ok (oddL l), M) := by
    have e1 : 6 + l.length ≤ 16777216 := by omega
    have e2 : l.length + 1 + 1 + 1 + 1 + 1 + 1 ≤ 16777216 := by omega
    simp [-runE_lc, r1, e1, e2, oddL]
  have k2 := lc_go (p := fun _ => none) (f := lcF prg.T prg.rp (callN prg (n + 8)) (.name 8) (.one (.tst (.oin false (.var 8) (.var 0)))) (.var 8) [8] (amE l p ns a4 a5 a6 a7 a8)) (M := M) (oddL l) (by
    intro y hy
    obtain ⟨y1, y2⟩ := odd_no hy
    have o := oin_row (k := n + 5) (l := l) (neg := false) (y := y) hM y1
    rw [y2] at o
    rw [lcF_at (e' := amE l p ns a4 a5 a6 a7 (some (.d y))) rfl]
    unfold amE
    simp [o])
  have k3 : (oddL l).filterMap (fun _ => (none : Option D)) = [] := by simp
  rw [k3] at k2
  simp only [sA, c__law_among, tlS, hdS]
  rw [runS_set, runE_lc, i2, bR_ok, k2, bR_ok, mkLst_at, if_pos (szOk_of (by simp)), bR_ok, asgV_name, sR_ok]
  rfl
theorem am4 (hM : MOk M) (hl : l.length ≤ 8) (hg : ∀ s ∈ l, goodS s) : runS prg.T prg.rp prg.XT (callN prg (n + 8)) (hdS (sA 3)) (amE l p ns a4 a5 a6 (some (.d (.lst []))) a8) M = some (.ret (.d (.bl true)), M) := by
  have i1 : runI prg.T prg.rp (callN prg (n + 8)) (.seq (.var 1)) (amE l p ns a4 a5 a6 (some (.d (.lst []))) a8) M = some (.ok (l.map stD), M) := by
    have : l.length ≤ 16777216 := by omega
    unfold amE
    simp [this]
  have k2 := lc_go (p := fun _ => none) (f := lcF prg.T prg.rp (callN prg (n + 8)) (.name 6) (.one (.tst (.oin true (.var 6) (.var 0)))) (.var 6) [6] (amE l p ns a4 a5 a6 (some (.d (.lst []))) a8)) (M := M) (l.map stD) (by
    intro y hy
    obtain ⟨s, hs, rfl⟩ := List.mem_map.mp hy
    have o := oin_row (k := n + 5) (l := l) (neg := true) (y := stD s) hM (ps_st (hg s hs))
    rw [in_st hg] at o
    rw [lcF_at (e' := amE l p ns a4 a5 (some (.d (stD s))) (some (.d (.lst []))) a8) rfl]
    unfold amE
    simp [o, hs])
  have k3 : (l.map stD).filterMap (fun _ => (none : Option D)) = [] := by simp
  rw [k3] at k2
  have r1 : runE prg.T prg.rp (callN prg (n + 8)) (.lc (.name 6) (.seq (.var 1)) (.one (.tst (.oin true (.var 6) (.var 0)))) (.var 6) [6]) (amE l p ns a4 a5 a6 (some (.d (.lst []))) a8) M = some (.ok (.d (.lst [])), M) := by
    rw [runE_lc, i1, bR_ok, k2, bR_ok, mkLst_at, if_pos (szOk_of (by simp))]
  have r2 : runE prg.T prg.rp (callN prg (n + 8)) (.var 7) (amE l p ns a4 a5 a6 (some (.d (.lst []))) a8) M = some (.ok (.d (.lst [])), M) := rfl
  simp only [sA, c__law_among, tlS, hdS]
  simp [-runE_lc, -runE_var, r1, r2]
theorem among_ok (hM : StP p len M) (hl : l.length ≤ 8) (hg : ∀ s ∈ l, goodS s) (hn : ns ≠ []) (hn2 : ns.length ≤ 50) (hns : ∀ x ∈ ns, nameB x = true) :
    ∃ M' : Mem, StP p len M' ∧ callN prg (n + 9) (.fn 38) [.d (rowD (l.map stD)), .d (.lst (l.map stD)), .loc p, .d (.lst (ns.map .str))] M = some (.ok (.d (.bl true)), M') := by
  have hc : callN prg (n + 9) (.fn 38) [.d (rowD (l.map stD)), .d (.lst (l.map stD)), .loc p, .d (.lst (ns.map .str))] M = endF M.length 0 (runSs prg.T prg.rp prg.XT (callN prg (n + 8)) (sA 0) (amE l p ns none none none none none) M) := by
    rw [call_fn (F := ⟨4, 5, c__law_among, 0, false⟩) rfl rfl rfl]
    rfl
  obtain ⟨b5, b6, M', h1, t2⟩ := am2 (n := n) (a5 := none) (a6 := none) (a7 := none) (a8 := none) hM hg hn hn2 hns
  refine ⟨M', h1, ?_⟩
  rw [hc, runSs_hd, am1, tR_next]
  show endF M.length 0 (runSs prg.T prg.rp prg.XT (callN prg (n + 8)) (sA 1) _ _) = _
  rw [runSs_hd, t2, tR_next]
  show endF M.length 0 (runSs prg.T prg.rp prg.XT (callN prg (n + 8)) (sA 2) _ _) = _
  rw [runSs_hd, am3 h1.1 hl, tR_next]
  show endF M.length 0 (runSs prg.T prg.rp prg.XT (callN prg (n + 8)) (sA 3) _ _) = _
  rw [runSs_hd, am4 h1.1 hl hg, tR_ret, hM.2.2.1]
  exact end_st h1
end
end LW
set_option Elab.async false
set_option linter.all false
set_option maxRecDepth 100000
set_option maxHeartbeats 2000000
/-! k10: rows and tuples added -/
namespace LW
open PySem L2 TD
section
variable {n b : Nat} {l m : List Stp} {M : Mem} {ys : List D} {a3 a4 a5 a6 a7 : Option Vl}
def adE (l m : List Stp) (b : Nat) (a4 a5 a6 a7 : Option Vl) : TD.Env := ⟨[some (.d (rowD (l.map stD))), some (.d (rowD (m.map stD))), some (.d (.lst ((l ++ m).map stD))), some (.loc b), a4, a5, a6, a7], none⟩
theorem app_loc {xs : List D} (hb : M[b]? = some (.lst ys)) (hl : ys.length ≤ 100) : mutV .append (.loc b) [.loc M.length] (M ++ [.lst xs]) = some (.ok (), M.set b (.lst (ys ++ [.lst xs])) ++ [.frz (.lst xs)]) := by
  have hlt : b < M.length := (List.getElem?_eq_some_iff.mp hb).1
  have h1 : (M ++ [MO.lst xs])[b]? = some (.lst ys) := by rw [List.getElem?_append_left hlt]; exact hb
  have h2 : (M ++ [MO.frz (.lst xs)])[b]? = some (.lst ys) := by rw [List.getElem?_append_left hlt]; exact hb
  have h3 : ys.length < 16777216 := by omega
  have h4 : toD (.loc M.length) (M ++ [MO.lst xs]) = some (.ok (.lst xs), M ++ [.frz (.lst xs)]) := by
    simp [freeze]
  unfold mutV
  simp only [h1, h4, h2, h3, if_true]
  rw [set_behind hlt]
theorem app_d {d : D} (hb : M[b]? = some (.lst ys)) (hl : ys.length ≤ 100) : mutV .append (.loc b) [.d d] M = some (.ok (), M.set b (.lst (ys ++ [d]))) := by
  have h3 : ys.length < 16777216 := by omega
  unfold mutV
  simp only [hb, toD_d, h3, if_true]
theorem lstE_loc (hb : M[b]? = some (.lst ys)) : lstE (.loc b) M = some (.ok (), M) := by
  simp [lstE, peek, hb]
def resA (xs : List D) : D := match rowErr xs with
  | none => .lst xs
  | some d => d
theorem noIns.frz {M : Mem} {d : D} (h : noIns M) : noIns (M ++ [.frz d]) := by
  intro mo hm c fs e
  rcases List.mem_append.mp hm with h1 | h1
  · exact h mo h1 c fs e
  · rw [List.mem_singleton.mp h1] at e
    cases e
/-- the append behind a row that was made, or not -/
theorem ad_tail {w : Vl} {M0 : Mem} (hM : noIns M) (hb : M[b]? = some (.lst ys)) (hl : ys.length ≤ 100) (hlen : (l ++ m).length ≤ 100) {s : CE}
    (hs : runE prg.T prg.rp (callN prg (n + 8)) s (adE l m b (some w) a5 a6 a7) M0 = resD (rowD ((l ++ m).map stD)) (rowErr ((l ++ m).map stD)) M) :
    ∃ (b5 b6 : Option Vl) (M' : Mem), runSs prg.T prg.rp prg.XT (callN prg (n + 8)) (.cons (.tryx (.cons (.set (.name 5) s) (.cons (.mut .append (.var 3) (.cons (.met "steps" (.var 5) .nil) .nil)) .nil)) (.cons 1 6 (.cons (.mut .append (.var 3) (.cons (.xf "index") .nil)) .nil) .nil)) .nil) (adE l m b (some w) a5 a6 a7) M0 = some (.next (adE l m b (some w) b5 b6 a7), M')
      ∧ noIns M' ∧ M'[b]? = some (.lst (ys ++ [resA ((l ++ m).map stD)])) ∧ M'.take b = M.take b := by
  have hlt : b < M.length := (List.getElem?_eq_some_iff.mp hb).1
  unfold resA
  cases he : rowErr ((l ++ m).map stD) with
  | none =>
    rw [he] at hs
    have h1 := steps_1 (n := n + 7) (xs := (l ++ m).map stD) hM.ok (by simp at hlen ⊢; omega)
    have h2 := app_loc (xs := (l ++ m).map stD) hb hl
    refine ⟨some (.d (rowD ((l ++ m).map stD))), a6, _, ?_, (hM.set (p := b) (xs := ys ++ [.lst ((l ++ m).map stD)])).frz (d := .lst ((l ++ m).map stD)), ?_, ?_⟩
    · simp only [runSs_cons, runSs_nil, runS_tryx, runS_set, hs, resD, bR_ok, asgV_name, sR_ok, tR_next, runS_mut]
      simp [adE, lstE_loc hb, met_steps, h1, h2, -List.map_append]
    · rw [List.getElem?_append_left (by rw [List.length_set]; exact hlt), List.getElem?_set_self hlt]
    · rw [List.take_append_of_le_length (by rw [List.length_set]; omega), List.take_set_of_le (by omega)]
  | some d =>
    rw [he] at hs
    have h2 := app_d (d := d) hb hl
    refine ⟨a5, none, _, ?_, hM.set (p := b) (xs := ys ++ [d]), ?_, ?_⟩
    · simp only [runSs_cons, runSs_nil, runS_tryx, runS_set, hs, resD, bR_ex, sR_ex, tR_ex, hR_ex]
      simp only [adE]
      rw [runH_step (by simp)]
      simp [lstE_loc hb, xf_step, h2, -List.map_append, -runE_xf]
    · rw [List.getElem?_set_self hlt]
    · rw [List.take_set_of_le (by omega)]
def wayE : CE := (.ite (.tst (.cmp .Eq (.var 4) (.con (.int 0)))) (.obin (.var 0) (.var 1)) (.ite (.tst (.cmp .Eq (.var 4) (.con (.int 1)))) (.obin (.var 0) (.blt .tuple (.cons (.met "steps" (.var 1) .nil) .nil))) (.obin (.blt .tuple (.cons (.met "steps" (.var 0) .nil) .nil)) (.var 1))))
theorem way0 (hM : MOk M) (hl : l.length ≤ 8) (hm : m.length ≤ 8) (hg : ∀ s ∈ l, goodS s) (hg2 : ∀ s ∈ m, goodS s) :
    runE prg.T prg.rp (callN prg (n + 8)) wayE (adE l m b (some (.d (.int 0))) a5 a6 a7) M = resD (rowD ((l ++ m).map stD)) (rowErr ((l ++ m).map stD)) M := by
  have h := add_row (n := n + 1) (xs := l.map stD) (ys := m.map stD) hM (by simp; omega) (by simp; omega) (ps_sts hg) (ps_sts hg2)
  rw [← List.map_append] at h
  unfold wayE adE
  simp [obin_row, h]
theorem way1 (hM : MOk M) (hl : l.length ≤ 8) (hm : m.length ≤ 8) (hg : ∀ s ∈ l, goodS s) (hg2 : ∀ s ∈ m, goodS s) :
    runE prg.T prg.rp (callN prg (n + 8)) wayE (adE l m b (some (.d (.int 1))) a5 a6 a7) M = resD (rowD ((l ++ m).map stD)) (rowErr ((l ++ m).map stD)) (M ++ [.lst (m.map stD)]) := by
  have h := add_tup (n := n + 1) (xs := l.map stD) (ys := m.map stD) (hM.lst (xs := m.map stD)) (by simp; omega) (by simp; omega) (ps_sts hg) (ps_sts hg2)
  rw [← List.map_append] at h
  have h1 := steps_1 (n := n + 7) (xs := m.map stD) hM (by simp; omega)
  have h2 : peekW (.loc M.length) (M ++ [.lst (m.map stD)]) = some (.ok (.lst (m.map stD)), M ++ [.lst (m.map stD)]) := by simp [peekW]
  unfold wayE adE
  simp [met_steps, h1, h2, obin_tup, h]
theorem way2 (hM : MOk M) (hl : l.length ≤ 8) (hm : m.length ≤ 8) (hg : ∀ s ∈ l, goodS s) (hg2 : ∀ s ∈ m, goodS s) :
    runE prg.T prg.rp (callN prg (n + 8)) wayE (adE l m b (some (.d (.int 2))) a5 a6 a7) M = resD (rowD ((l ++ m).map stD)) (rowErr ((l ++ m).map stD)) (M ++ [.lst (l.map stD)]) := by
  have h := radd_tup (n := n + 1) (xs := m.map stD) (ys := l.map stD) (hM.lst (xs := l.map stD)) (by simp; omega) (by simp; omega) (ps_sts hg2) (ps_sts hg)
  rw [← List.map_append] at h
  have h1 := steps_1 (n := n + 7) (xs := l.map stD) hM (by simp; omega)
  have h2 : peekW (.loc M.length) (M ++ [.lst (l.map stD)]) = some (.ok (.lst (l.map stD)), M ++ [.lst (l.map stD)]) := by simp [peekW]
  unfold wayE adE
  simp [met_steps, h1, h2, obin_rtup, h]
theorem ad_turn {w : Nat} (hw : w < 3) (hM : noIns M) (hb : M[b]? = some (.lst ys)) (hy : ys.length ≤ 100) (hl : l.length ≤ 8) (hm : m.length ≤ 8) (hg : ∀ s ∈ l, goodS s) (hg2 : ∀ s ∈ m, goodS s) :
    ∃ (b5 b6 : Option Vl) (M' : Mem), runSs prg.T prg.rp prg.XT (callN prg (n + 8)) l__law_added_1 (adE l m b (some (.d (.int w))) a5 a6 a7) M = some (.next (adE l m b (some (.d (.int w))) b5 b6 a7), M')
      ∧ noIns M' ∧ M'[b]? = some (.lst (ys ++ [resA ((l ++ m).map stD)])) ∧ M'.take b = M.take b := by
  have hlt : b < M.length := (List.getElem?_eq_some_iff.mp hb).1
  have hlm : (l ++ m).length ≤ 100 := by simp; omega
  have hk : ∀ zs : List D, (M ++ [MO.lst zs])[b]? = some (.lst ys) := fun zs => by rw [List.getElem?_append_left hlt]; exact hb
  have ht : ∀ zs : List D, (M ++ [MO.lst zs]).take b = M.take b := fun zs => List.take_append_of_le_length (by omega)
  obtain rfl | rfl | rfl : w = 0 ∨ w = 1 ∨ w = 2 := by omega
  · exact ad_tail hM hb hy hlm (way0 hM.ok hl hm hg hg2)
  · have := ad_tail (a5 := a5) (a6 := a6) (a7 := a7) (hM.lst (xs := m.map stD)) (hk _) hy hlm (way1 (n := n) hM.ok hl hm hg hg2)
    rw [ht] at this
    exact this
  · have := ad_tail (a5 := a5) (a6 := a6) (a7 := a7) (hM.lst (xs := l.map stD)) (hk _) hy hlm (way2 (n := n) hM.ok hl hm hg hg2)
    rw [ht] at this
    exact this
end
end LW
set_option Elab.async false
set_option linter.all false
set_option maxRecDepth 100000
set_option maxHeartbeats 2000000
/-! k10: rows and tuples added, whole -/
namespace LW
open PySem L2 TD
section
variable {n b : Nat} {l m : List Stp} {M : Mem} {ys : List D} {a3 a4 a5 a6 a7 : Option Vl}
def sD : Nat → CSs
  | 0 => c__law_added
  | k + 1 => tlS (sD k)
theorem forR_next {T : Tab} {rp : D → Option Str} {XT : XTab} {cl : Cl} {g : CG} {c : CSs} {x : D} {xs : List D} {e e1 e2 : TD.Env} {M M2 : Mem} (h1 : asg g x e = some e1) (h2 : runSs T rp XT cl c e1 M = some (.next e2, M2)) : forR T rp XT cl g c (x :: xs) e M = forR T rp XT cl g c xs e2 M2 := by
  unfold forR
  simp only [forGo, h1, h2]
theorem ad_loop (hM : noIns M) (hb : M[b]? = some (.lst [])) (hl : l.length ≤ 8) (hm : m.length ≤ 8) (hg : ∀ s ∈ l, goodS s) (hg2 : ∀ s ∈ m, goodS s) :
    ∃ (b4 b5 b6 : Option Vl) (M' : Mem), runS prg.T prg.rp prg.XT (callN prg (n + 8)) (hdS (sD 1)) (adE l m b a4 a5 a6 a7) M = some (.next (adE l m b b4 b5 b6 a7), M')
      ∧ noIns M' ∧ M'[b]? = some (.lst (List.replicate 3 (resA ((l ++ m).map stD)))) ∧ M'.take b = M.take b := by
  have hI : runI prg.T prg.rp (callN prg (n + 8)) (.rng (.con (.int 3))) (adE l m b a4 a5 a6 a7) M = some (.ok [.int 0, .int 1, .int 2], M) := by simp [rngGo]
  have cyc : ∀ (w : Nat), w < 3 → ∀ (c4 c5 c6 : Option Vl) (N : Mem) (zs : List D), zs.length ≤ 100 → noIns N → N[b]? = some (.lst zs) → ∃ (b5 b6 : Option Vl) (M' : Mem), runSs prg.T prg.rp prg.XT (callN prg (n + 8)) l__law_added_1 (adE l m b (some (.d (.int w))) c5 c6 a7) N = some (.next (adE l m b (some (.d (.int w))) b5 b6 a7), M')
      ∧ noIns M' ∧ M'[b]? = some (.lst (zs ++ [resA ((l ++ m).map stD)])) ∧ M'.take b = N.take b := fun w hw c4 c5 c6 N zs hz hN hb => ad_turn hw hN hb hz hl hm hg hg2
  obtain ⟨p5, p6, M1, r1, n1, q1, t1⟩ := cyc 0 (by omega) a4 a5 a6 M [] (by simp) hM hb
  obtain ⟨u5, u6, M2, r2, n2, q2, t2⟩ := cyc 1 (by omega) a4 p5 p6 M1 _ (by simp) n1 q1
  obtain ⟨v5, v6, M3, r3, n3, q3, t3⟩ := cyc 2 (by omega) a4 u5 u6 M2 _ (by simp) n2 q2
  refine ⟨some (.d (.int 2)), v5, v6, M3, ?_, n3, by simpa using q3, t3.trans (t2.trans t1)⟩
  show runS prg.T prg.rp prg.XT (callN prg (n + 8)) (.fors (.name 4) (.rng (.con (.int 3))) l__law_added_1) _ _ = _
  rw [runS_fors, hI, sR_ok]
  rw [forR_next (e1 := adE l m b (some (.d (.int (0 : Nat)))) a5 a6 a7) rfl r1, forR_next (e1 := adE l m b (some (.d (.int (1 : Nat)))) p5 p6 a7) rfl r2, forR_next (e1 := adE l m b (some (.d (.int (2 : Nat)))) u5 u6 a7) rfl r3]
  rfl
theorem fault_both (hM : MOk M) (hl : l.length ≤ 8) (hm : m.length ≤ 8) (hg : ∀ s ∈ l, goodS s) (hg2 : ∀ s ∈ m, goodS s) :
    runS prg.T prg.rp prg.XT (callN prg (n + 8)) (hdS (sD 2)) (adE l m b a4 a5 a6 a7) M = some (.next (adE l m b a4 a5 a6 (some (.d (resA ((l ++ m).map stD))))), M) := by
  have hg3 : ∀ s ∈ l ++ m, goodS s := by
    intro s hs
    rcases List.mem_append.mp hs with h | h
    · exact hg s h
    · exact hg2 s h
  have hx : ∀ s ∈ l ++ m, s.1 ≠ "piece" := fun s hs => goodS_not3 (hg3 s hs)
  have hl3 : (l ++ m).length ≤ 16 := by simp; omega
  have hr : resA ((l ++ m).map stD) = if 8 < (l ++ m).length then .non else match firstT 0 (wrongsL [] [] (l ++ m)) with | none => .lst ((l ++ m).map stD) | some i => .int i := by
    unfold resA rowErr
    rw [badL_st hg3, map_toStp]
    by_cases c : 8 < (l ++ m).length
    · simp at c
      simp [c]
    · simp at c
      have c2 : ¬ 8 < l.length + m.length := by omega
      simp [c2]
      cases firstT 0 (wrongsL [] [] (l ++ m)) <;> rfl
  rw [hr]
  simp only [sD, c__law_added, tlS, hdS]
  unfold adE
  generalize l ++ m = k at *
  have hf := fault_ok (n := n + 7) (l := k) hM (by omega) hx
  by_cases c : 8 < k.length
  · have c2 : (8 : Int) < k.length := by omega
    simp [c, c2]
  · have c2 : ¬ (8 : Int) < k.length := by omega
    cases q : firstT 0 (wrongsL [] [] k) with
    | none =>
      rw [q] at hf
      simp [optD] at hf
      simp [c, c2, hf]
    | some i =>
      rw [q] at hf
      simp [optD] at hf
      simp [c, c2, hf]
theorem flat_resA (hg : ∀ s ∈ l, goodS s) : flat 19 (resA (l.map stD)) = true := by
  unfold resA rowErr
  rw [badL_st hg, map_toStp]
  by_cases c : 8 < l.length
  · simp [c]
  · simp [c]
    cases firstT 0 (wrongsL [] [] l) with
    | none => show flats 18 _ = true; exact flats_st
    | some i => simp
theorem added_ok (hM : noIns M) (hl : l.length ≤ 8) (hm : m.length ≤ 8) (hg : ∀ s ∈ l, goodS s) (hg2 : ∀ s ∈ m, goodS s) :
    callN prg (n + 9) (.fn 39) [.d (rowD (l.map stD)), .d (rowD (m.map stD)), .d (.lst ((l ++ m).map stD))] M = some (.ok (.d (.bl true)), M) := by
  have hc : callN prg (n + 9) (.fn 39) [.d (rowD (l.map stD)), .d (rowD (m.map stD)), .d (.lst ((l ++ m).map stD))] M = endF M.length 0 (runSs prg.T prg.rp prg.XT (callN prg (n + 8)) (sD 0) ⟨[some (.d (rowD (l.map stD))), some (.d (rowD (m.map stD))), some (.d (.lst ((l ++ m).map stD))), none, none, none, none, none], none⟩ M) := by
    rw [call_fn (F := ⟨3, 5, c__law_added, 0, false⟩) rfl rfl rfl]
    rfl
  have t0 : runS prg.T prg.rp prg.XT (callN prg (n + 8)) (hdS (sD 0)) ⟨[some (.d (rowD (l.map stD))), some (.d (rowD (m.map stD))), some (.d (.lst ((l ++ m).map stD))), none, none, none, none, none], none⟩ M = some (.next (adE l m M.length none none none none), M ++ [.lst []]) := by
    simp only [sD, c__law_added, hdS]
    simp [adE]
  obtain ⟨b4, b5, b6, M', t1, n1, q1, e1⟩ := ad_loop (n := n) (b := M.length) (l := l) (m := m) (M := M ++ [.lst []]) (a4 := none) (a5 := none) (a6 := none) (a7 := none) hM.lst (by simp) hl hm hg hg2
  have t2 := fault_both (n := n) (b := M.length) (l := l) (m := m) (M := M') (a4 := b4) (a5 := b5) (a6 := b6) (a7 := none) n1.ok hl hm hg hg2
  have hfl := flat_resA (l := l ++ m) (by
    intro s hs
    rcases List.mem_append.mp hs with h | h
    · exact hg s h
    · exact hg2 s h)
  generalize resA ((l ++ m).map stD) = A at *
  have t3 : runS prg.T prg.rp prg.XT (callN prg (n + 8)) (hdS (sD 3)) (adE l m M.length b4 b5 b6 (some (.d A))) M' = some (.ret (.d (.bl true)), M') := by
    have h1 : peekW (.loc M.length) M' = some (.ok (.lst (List.replicate 3 A)), M') := by simp [peekW, q1]
    simp only [sD, c__law_added, tlS, hdS]
    unfold adE
    simp [opC, bind_at, h1, hfl, List.replicate, eqD_self hfl]
  have hlen : M.length ≤ M'.length := by
    have := (List.getElem?_eq_some_iff.mp q1).1
    omega
  have e2 : M' = M ++ M'.drop M.length := by
    conv => lhs; rw [← List.take_append_drop M.length M', e1]
    simp
  rw [hc, runSs_hd, t0, tR_next]
  show endF M.length 0 (runSs prg.T prg.rp prg.XT (callN prg (n + 8)) (sD 1) _ _) = _
  rw [runSs_hd, t1, tR_next]
  show endF M.length 0 (runSs prg.T prg.rp prg.XT (callN prg (n + 8)) (sD 2) _ _) = _
  rw [runSs_hd, t2, tR_next]
  show endF M.length 0 (runSs prg.T prg.rp prg.XT (callN prg (n + 8)) (sD 3) _ _) = _
  rw [runSs_hd, t3, tR_ret, e2]
  exact end_d hM.ok
end
end LW
set_option Elab.async false
set_option linter.all false
set_option maxRecDepth 100000
set_option maxHeartbeats 2000000
/-! k10: the law's turn, what is drawn -/
namespace LW
open PySem L2 TD
section
variable {n p len : Nat} {l m : List Stp} {M : Mem} {k cell : Int} {a3 a4 a5 a6 a7 a8 a9 : Option Vl}
def lwE (k cell : Int) (a3 a4 a5 a6 a7 a8 a9 : Option Vl) : TD.Env := ⟨[some (.loc 0), some (.d (.int k)), some (.d (.int cell)), a3, a4, a5, a6, a7, a8, a9], none⟩
def sW : Nat → CSs
  | 0 => l_law_1
  | k + 1 => tlS (sW k)
def fourS (xs : List Str) : Prop := ∃ a b c d : Str, xs = [a, b, c, d] ∧ nameB a = true ∧ nameB b = true ∧ nameB c = true ∧ nameB d = true
theorem fourS.ne {xs : List Str} (h : fourS xs) : xs ≠ [] := by
  obtain ⟨a, b, c, d, rfl, _⟩ := h
  simp
theorem fourS.lens {xs : List Str} (h : fourS xs) : xs.length ≤ 50 := by
  obtain ⟨a, b, c, d, rfl, _⟩ := h
  simp
theorem fourS.all {xs : List Str} (h : fourS xs) : ∀ x ∈ xs, nameB x = true := by
  obtain ⟨a, b, c, d, rfl, h1, h2, h3, h4⟩ := h
  intro x hx
  simp at hx
  rcases hx with rfl | rfl | rfl | rfl <;> assumption
theorem lw0 (hM : noIns M) (hk0 : 0 ≤ k) (hk : k ≤ 100) :
    ∃ M', StP M.length (M.length + 1) M' ∧ runS prg.T prg.rp prg.XT (callN prg (n + 12)) (hdS (sW 0)) (lwE k cell a3 a4 a5 a6 a7 a8 a9) M = some (.next (lwE k cell (some (.loc M.length)) a4 a5 a6 a7 a8 a9), M') := by
  obtain ⟨nums, h⟩ := pool_ok (n := n + 10) hM.ok cell (1000 + k) 160 (by omega) (by omega) (by omega) (by omega)
  refine ⟨M ++ [.lst [.lst (nums.map .int), .int 0]], ⟨hM.ok.lst, ⟨nums, 0, by simp⟩, by simp, hM.lst⟩, ?_⟩
  simp only [sW, l_law_1, hdS]
  unfold lwE
  simp [h]
def LA : List Str := ["a", "ab", "b", "bar"]
def LB : List Str := ["abcdefgh", "w", "ww", "l"]
def LC : List Str := ["x", "y", "z", "take"]
theorem fourA : fourS LA := ⟨_, _, _, _, rfl, by decide +kernel, by decide +kernel, by decide +kernel, by decide +kernel⟩
theorem fourB : fourS LB := ⟨_, _, _, _, rfl, by decide +kernel, by decide +kernel, by decide +kernel, by decide +kernel⟩
theorem fourC : fourS LC := ⟨_, _, _, _, rfl, by decide +kernel, by decide +kernel, by decide +kernel, by decide +kernel⟩
theorem lw1 (hM : StP p len M) :
    ∃ (ns : List Str) (M' : Mem), fourS ns ∧ StP p len M' ∧ runS prg.T prg.rp prg.XT (callN prg (n + 12)) (hdS (sW 1)) (lwE k cell (some (.loc p)) a4 a5 a6 a7 a8 a9) M = some (.next (lwE k cell (some (.loc p)) (some (.d (.lst (ns.map .str)))) a5 a6 a7 a8 a9), M') := by
  obtain ⟨v, M', h1, h2, h3, h4⟩ := draw_st (n := n + 11) (m := 3) hM (by omega)
  obtain rfl | rfl | rfl : v = 0 ∨ v = 1 ∨ v = 2 := by omega
  · refine ⟨LA, M', fourA, h4, ?_⟩
    simp only [sW, l_law_1, hdS, tlS]
    unfold lwE
    simp [h1, LA]
  · refine ⟨LB, M', fourB, h4, ?_⟩
    simp only [sW, l_law_1, hdS, tlS]
    unfold lwE
    simp [h1, LB]
  · refine ⟨LC, M', fourC, h4, ?_⟩
    simp only [sW, l_law_1, hdS, tlS]
    unfold lwE
    simp [h1, LC]
def fineL (l : List Stp) : Prop := l.length ≤ 8 ∧ (∀ s ∈ l, goodS s) ∧ firstT 0 (wrongsL [] [] l) = none
theorem lw2 {ns : List Str} (hM : StP p len M) (hns : fourS ns) :
    ∃ (l m : List Stp) (M' : Mem), fineL l ∧ fineL m ∧ StP p len M' ∧ runS prg.T prg.rp prg.XT (callN prg (n + 12)) (hdS (sW 2)) (lwE k cell (some (.loc p)) (some (.d (.lst (ns.map .str)))) a5 a6 a7 a8 a9) M = some (.next (lwE k cell (some (.loc p)) (some (.d (.lst (ns.map .str)))) (some (.d (.lst (l.map stD)))) (some (.d (.lst (m.map stD)))) a7 a8 a9), M') := by
  obtain ⟨v, M1, h1, h2, h3, h4⟩ := draw_st (n := n + 11) (m := 9) hM (by omega)
  obtain ⟨i, rfl⟩ : ∃ i : Nat, v = i := ⟨v.toNat, by omega⟩
  obtain ⟨l, M2, h5, h6, h7⟩ := chosen_ok (n := n + 9) (most := i) h4 (by omega) hns.ne hns.lens hns.all
  obtain ⟨v, M3, h8, h9, h10, h11⟩ := draw_st (n := n + 11) (m := 9) h6 (by omega)
  obtain ⟨j, rfl⟩ : ∃ i : Nat, v = i := ⟨v.toNat, by omega⟩
  obtain ⟨m, M4, h12, h13, h14⟩ := chosen_ok (n := n + 9) (most := j) h11 (by omega) hns.ne hns.lens hns.all
  refine ⟨l, m, M4, h7, h14, h13, ?_⟩
  simp only [sW, l_law_1, hdS, tlS]
  unfold lwE
  simp [h1, h5, h8, h12]
theorem lw3 (hM : StP p len M) (hl : fineL l) (hm : fineL m) :
    ∃ (m' : List Stp) (M' : Mem), m'.length ≤ 9 ∧ (∀ s ∈ m', goodS s) ∧ StP p len M' ∧ runS prg.T prg.rp prg.XT (callN prg (n + 12)) (hdS (sW 3)) (lwE k cell (some (.loc p)) a4 (some (.d (.lst (l.map stD)))) (some (.d (.lst (m.map stD)))) a7 a8 a9) M = some (.next (lwE k cell (some (.loc p)) a4 (some (.d (.lst (l.map stD)))) (some (.d (.lst (m'.map stD)))) a7 a8 a9), M') := by
  obtain ⟨v, M1, h1, h2, h3, h4⟩ := draw_st (n := n + 11) (m := 3) hM (by omega)
  by_cases c : 0 < v
  · refine ⟨m, M1, by have := hm.1; omega, hm.2.1, h4, ?_⟩
    simp only [sW, l_law_1, hdS, tlS]
    unfold lwE
    simp [h1, c]
  · obtain ⟨v, M2, h5, h6, h7, h8⟩ := draw_st (n := n + 11) (m := 9) h4 (by omega)
    obtain ⟨j, rfl⟩ : ∃ i : Nat, v = i := ⟨v.toNat, by omega⟩
    have hlen : (l.take j ++ m.take 1).length ≤ 9 := by
      have := hl.1
      have := hm.1
      simp
      omega
    refine ⟨l.take j ++ m.take 1, M2, hlen, ?_, h8, ?_⟩
    · intro s hs
      rcases List.mem_append.mp hs with h | h
      · exact hl.2.1 s (List.mem_of_mem_take h)
      · exact hm.2.1 s (List.mem_of_mem_take h)
    · have z : min j l.length + min 1 m.length ≤ 16777216 := by simp at hlen; omega
      simp only [sW, l_law_1, hdS, tlS]
      unfold lwE
      simp [h1, c, h5, z, List.map_take]
theorem lw4 (hM : StP p len M) (hl : l.length ≤ 9) (hg : ∀ s ∈ l, goodS s) :
    ∃ m : List Stp, fineL m ∧ runS prg.T prg.rp prg.XT (callN prg (n + 12)) (hdS (sW 4)) (lwE k cell a3 a4 a5 (some (.d (.lst (l.map stD)))) a7 a8 a9) M = some (.next (lwE k cell a3 a4 a5 (some (.d (.lst (m.map stD)))) a7 a8 a9), M) := by
  have hf := fault_ok (n := n + 11) (l := l) hM.1 (by omega) (fun s hs => goodS_not3 (hg s hs))
  cases q : firstT 0 (wrongsL [] [] l) with
  | none =>
    rw [q] at hf
    simp [optD] at hf
    by_cases c : l.length < 9
    · have c2 : (l.length : Int) < 9 := by omega
      refine ⟨l, ⟨by omega, hg, q⟩, ?_⟩
      simp only [sW, l_law_1, hdS, tlS]
      unfold lwE
      simp [hf, c2, c]
    · have c2 : ¬ (l.length : Int) < 9 := by omega
      refine ⟨[], ⟨by simp, by simp, rfl⟩, ?_⟩
      simp only [sW, l_law_1, hdS, tlS]
      unfold lwE
      simp [hf, c2, c]
  | some i =>
    rw [q] at hf
    simp [optD] at hf
    refine ⟨[], ⟨by simp, by simp, rfl⟩, ?_⟩
    simp only [sW, l_law_1, hdS, tlS]
    unfold lwE
    simp [hf]
theorem row0 {M : Mem} (hM : MOk M) : callN prg (n + 6) (.mk 4) [] M = some (.ok (.d (rowD [])), M) := by
  have := mkRow_ok (n := n) (xs := []) hM (by simp) (by simp)
  simpa [rowErr, badL, wrongsL, firstT, resD] using this
theorem addr {M : Mem} (hM : MOk M) (hl : fineL l) : callN prg (n + 7) (.fn 13) [.d (rowD []), .d (.tup (l.map stD))] M = some (.ok (.d (rowD (l.map stD))), M) := by
  have := add_tup (n := n) (xs := []) (ys := l.map stD) hM (by simp) (by have := hl.1; simp; omega) (by simp) (ps_sts hl.2.1)
  rw [List.nil_append, rowErr_st hl.2.1 hl.1, hl.2.2] at this
  exact this
theorem lw5 (hM : StP p len M) (hl : fineL l) (hm : fineL m) :
    runS prg.T prg.rp prg.XT (callN prg (n + 12)) (hdS (sW 5)) (lwE k cell a3 a4 (some (.d (.lst (l.map stD)))) (some (.d (.lst (m.map stD)))) a7 a8 a9) M = some (.next (lwE k cell a3 a4 (some (.d (.lst (l.map stD)))) (some (.d (.lst (m.map stD)))) (some (.d (rowD (l.map stD)))) (some (.d (rowD (m.map stD)))) a9), M) := by
  have h1 := row0 (n := n + 6) hM.1
  have h2 := addr (n := n + 5) hM.1 hl
  have h3 := addr (n := n + 5) hM.1 hm
  have z1 : l.length ≤ 16777216 := by have := hl.1; omega
  have z2 : m.length ≤ 16777216 := by have := hm.1; omega
  simp only [sW, l_law_1, hdS, tlS]
  unfold lwE
  simp [h1, obin_tup, h2, h3, z1, z2]
end
end LW
set_option Elab.async false
set_option linter.all false
set_option maxRecDepth 100000
set_option maxHeartbeats 2000000
/-! k10: the law's turn, what is asked -/
namespace LW
open PySem L2 TD
section
variable {n p len : Nat} {l m : List Stp} {M : Mem} {k cell : Int} {a3 a4 a5 a6 a7 a8 a9 : Option Vl}
def lmE (k cell : Int) (p : Nat) (ns : List Str) (l m : List Stp) (a9 : Option Vl) : TD.Env := lwE k cell (some (.loc p)) (some (.d (.lst (ns.map .str)))) (some (.d (.lst (l.map stD)))) (some (.d (.lst (m.map stD)))) (some (.d (rowD (l.map stD)))) (some (.d (rowD (m.map stD)))) a9
variable {ns : List Str}
theorem lw6 (hM : StP p len M) (hl : fineL l) (hm : fineL m) : runS prg.T prg.rp prg.XT (callN prg (n + 12)) (hdS (sW 6)) (lmE k cell p ns l m a9) M = some (.next (lmE k cell p ns l m a9), M) := by
  have h1 := added_ok (n := n + 3) hM.2.2.2 hl.1 hm.1 hl.2.1 hm.2.1
  have h2 := added_ok (n := n + 3) hM.2.2.2 hm.1 hl.1 hm.2.1 hl.2.1
  have z1 : l.length + m.length ≤ 16777216 := by have := hl.1; have := hm.1; omega
  have z2 : m.length + l.length ≤ 16777216 := by omega
  simp only [List.map_append] at h1 h2
  simp only [sW, l_law_1, hdS, tlS]
  unfold lmE lwE
  simp [h1, h2, z1, z2]
theorem lw7 (hM : StP p len M) (hl : fineL l) (hm : fineL m) (hns : fourS ns) : ∃ M', StP p len M' ∧ runS prg.T prg.rp prg.XT (callN prg (n + 12)) (hdS (sW 7)) (lmE k cell p ns l m a9) M = some (.next (lmE k cell p ns l m a9), M') := by
  have h1 := tells_ok (n := n + 3) hM.1 hl.1 hl.2.1
  have h2 := tells_ok (n := n + 3) hM.1 hm.1 hm.2.1
  obtain ⟨M', h3, h4⟩ := among_ok (n := n + 3) hM hl.1 hl.2.1 hns.ne hns.lens hns.all
  refine ⟨M', h3, ?_⟩
  simp only [sW, l_law_1, hdS, tlS]
  unfold lmE lwE
  simp [h1, h2, h4]
theorem met_eq : prg.T.met 4 "__eq__" = some 19 := by decide +kernel
theorem oeq_row {M : Mem} (hM : MOk M) : oeqV prg.T (callN prg (n + 1)) (.d (rowD (l.map stD))) (.d (rowD (m.map stD))) M = some (.ok (.d (.bl (decide (l = m)))), M) := by
  unfold oeqV
  rw [metOf_row (by decide +kernel), met_eq]
  have h := eq_row (n := n) (l := l) (m := m) hM
  simp only [rowD] at h
  simp [shape, rowD, noEx, h]
theorem oeq_odd {xs : List D} {y : D} {M : Mem} (hM : MOk M) (hy : ∀ c fs, y ≠ .obj c fs) : oeqV prg.T (callN prg (n + 1)) (.d (rowD xs)) (.d y) M = some (.ok (.d (.bl false)), M) := by
  unfold oeqV
  rw [metOf_row (by decide +kernel), met_eq]
  have h := eq_odd (n := n) (xs := xs) (y := y) hM hy
  simp only [rowD] at h
  cases y with
  | obj c fs => exact (hy c fs rfl).elim
  | _ => simp [shape, rowD, noEx, h]
theorem lw8 (hM : StP p len M) : runS prg.T prg.rp prg.XT (callN prg (n + 12)) (hdS (sW 8)) (lmE k cell p ns l m a9) M = some (.next (lmE k cell p ns l m a9), M) := by
  have h1 := oeq_row (n := n + 11) (l := l) (m := m) hM.1
  have h2 := oeq_odd (n := n + 11) (xs := l.map stD) (y := .lst (l.map stD)) hM.1 (by simp)
  have h3 := oeq_odd (n := n + 11) (xs := l.map stD) (y := .tup (l.map stD)) hM.1 (by simp)
  simp only [sW, l_law_1, hdS, tlS]
  unfold lmE lwE
  simp [h1, h2, h3, flats_st, eqDs_st]
theorem met_beg {xs : List D} {M : Mem} : metE prg.T "begins" (.d (rowD xs)) M = some (.ok 21, M) := metE_row (by decide +kernel) (by decide +kernel)
theorem lw9 (hM : StP p len M) (hl : fineL l) : runS prg.T prg.rp prg.XT (callN prg (n + 12)) (hdS (sW 9)) (lmE k cell p ns l m a9) M = some (.next (lmE k cell p ns l m a9), M) := by
  have h1 := begins_ok (n := n + 11) (l := l) (m := m) hM.1
  have h2 := begins_ok (n := n + 11) (l := l) (m := l) hM.1
  have h3 := truth_ok (n := n + 11) (a := decide (l = m.take l.length)) (b := decide (m.take l.length = l)) hM.1
  have h4 := truth_ok (n := n + 11) (a := true) (b := true) hM.1
  have h5 := add_tup (n := n + 5) (xs := l.map stD) (ys := []) hM.1 (by have := hl.1; simp; omega) (by simp) (ps_sts hl.2.1) (by simp)
  rw [List.append_nil, rowErr_st hl.2.1 hl.1, hl.2.2] at h5
  simp [resD] at h5
  have e1 : (decide (l = m.take l.length) == decide (m.take l.length = l)) = true := by
    by_cases c : l = m.take l.length
    · rw [← c]; simp
    · have : ¬ m.take l.length = l := fun h => c h.symm
      simp [c, this]
  rw [e1] at h3
  have e2 : decide (l = l.take l.length) = true := by simp
  rw [e2] at h2
  have e3 : eqDs ((m.map stD).take l.length) (l.map stD) = decide (m.take l.length = l) := by
    rw [← List.map_take]; exact eqDs_st
  have e4 : flats 19 ((m.map stD).take l.length) = true := by rw [← List.map_take]; exact flats_st
  simp only [sW, l_law_1, hdS, tlS]
  unfold lmE lwE
  simp [met_beg, h1, h2, h3, h4, obin_tup, h5, e3, e4, flats_st, -List.map_take]
theorem lw10 (hM : noIns M) (hns : fourS ns) : ∃ M', noIns M' ∧ runS prg.T prg.rp prg.XT (callN prg (n + 12)) (hdS (sW 10)) (lmE k cell p ns l m a9) M = some (.next (lmE k cell p ns l m a9), M') := by
  obtain ⟨x, y, z, u, rfl, hx, hy, hz, hu⟩ := hns
  have h1 := shut_ok (n := n + 5) (x := .str x) hM.ok (nb_name hx)
  have e : rowErr [wS "bar" (.str x), wS "halt" (.str x)] = none := by
    have := rowErr_st (l := [("bar", x), ("halt", x)]) (by
      intro s hs
      simp at hs
      rcases hs with rfl | rfl
      · exact ⟨by dsimp only; decide +kernel, hx⟩
      · exact ⟨by dsimp only; decide +kernel, hx⟩) (by simp)
    exact this.trans (by simp [wrongsL, firstT, wrongB, nextOwn])
  rw [e] at h1
  simp [resD, wS] at h1
  have h2 := steps_1 (n := n + 11) (xs := [D.tup [.str "bar", .str x], .tup [.str "halt", .str x]]) hM.ok (by simp)
  refine ⟨_, hM.lst (xs := [D.tup [.str "bar", .str x], .tup [.str "halt", .str x]]), ?_⟩
  simp only [sW, l_law_1, hdS, tlS]
  unfold lmE lwE
  simp [h1, met_steps, h2, opC_loc]
def dueL (y z : Str) : List D := [.tup [.str "take", .str y], .tup [.str "set", .str z], .tup [.str "give", .str y]]
theorem lw11 {x y z u : Str} : runS prg.T prg.rp prg.XT (callN prg (n + 12)) (hdS (sW 11)) (lmE k cell p [x, y, z, u] l m a9) M = some (.next (lmE k cell p [x, y, z, u] l m (some (.d (.lst (dueL y z))))), M) := by
  simp only [sW, l_law_1, hdS, tlS]
  unfold lmE lwE
  simp [dueL]
theorem lw12 {x y z u : Str} (hM : noIns M) (hy : nameB y = true) (hz : nameB z = true) :
    ∃ M', noIns M' ∧ runS prg.T prg.rp prg.XT (callN prg (n + 12)) (hdS (sW 12)) (lmE k cell p [x, y, z, u] l m (some (.d (.lst (dueL y z))))) M = some (.next (lmE k cell p [x, y, z, u] l m (some (.d (.lst (dueL y z))))), M') := by
  have h1 := locked_ok (n := n + 5) (x := .str y) (ys := [.tup [.str "set", .str z]]) hM.ok (nb_name hy) (by
    intro q hq
    rw [List.mem_singleton.mp hq]
    exact ps_w (w := "set") (nb_name hz)) (by simp)
  have e : rowErr (lockL (.str y) [.tup [.str "set", .str z]]) = none := by
    have := rowErr_st (l := [("take", y), ("set", z), ("give", y)]) (by
      intro s hs
      simp at hs
      rcases hs with rfl | rfl | rfl
      · exact ⟨by dsimp only; decide +kernel, hy⟩
      · exact ⟨by dsimp only; decide +kernel, hz⟩
      · exact ⟨by dsimp only; decide +kernel, hy⟩) (by simp)
    exact this.trans (by simp [wrongsL, firstT, wrongB, nextOwn])
  rw [e] at h1
  simp [resD, wS, lockL] at h1
  have h2 := steps_1 (n := n + 11) (xs := [D.tup [.str "take", .str y], .tup [.str "set", .str z], .tup [.str "give", .str y]]) hM.ok (by simp)
  refine ⟨_, hM.lst (xs := [D.tup [.str "take", .str y], .tup [.str "set", .str z], .tup [.str "give", .str y]]), ?_⟩
  simp only [sW, l_law_1, hdS, tlS]
  unfold lmE lwE
  simp [h1, met_steps, h2, opC_loc, dueL]
end
end LW
set_option Elab.async false
set_option linter.all false
set_option maxRecDepth 100000
set_option maxHeartbeats 2000000
/-! k10: the law -/
namespace LW
open PySem L2 TD
theorem cell_ok {n : Nat} {M : Mem} {k cell : Int} {a3 a4 a5 a6 a7 a8 a9 : Option Vl} (hM : noIns M) (hk0 : 0 ≤ k) (hk : k ≤ 100) :
    ∃ (b3 b4 b5 b6 b7 b8 b9 : Option Vl) (M' : Mem), noIns M' ∧ runSs prg.T prg.rp prg.XT (callN prg (n + 12)) l_law_1 (lwE k cell a3 a4 a5 a6 a7 a8 a9) M = some (.next (lwE k cell b3 b4 b5 b6 b7 b8 b9), M') := by
  obtain ⟨M0, p0, t0⟩ := lw0 (n := n) (cell := cell) (a3 := a3) (a4 := a4) (a5 := a5) (a6 := a6) (a7 := a7) (a8 := a8) (a9 := a9) hM hk0 hk
  obtain ⟨ns, M1, hns, p1, t1⟩ := lw1 (n := n) (k := k) (cell := cell) (a4 := a4) (a5 := a5) (a6 := a6) (a7 := a7) (a8 := a8) (a9 := a9) p0
  obtain ⟨l, m, M2, hl, hm, p2, t2⟩ := lw2 (n := n) (k := k) (cell := cell) (a5 := a5) (a6 := a6) (a7 := a7) (a8 := a8) (a9 := a9) p1 hns
  obtain ⟨m3, M3, l3, g3, p3, t3⟩ := lw3 (n := n) (k := k) (cell := cell) (a4 := some (.d (.lst (ns.map .str)))) (a7 := a7) (a8 := a8) (a9 := a9) p2 hl hm
  obtain ⟨m4, hm4, t4⟩ := lw4 (n := n) (k := k) (cell := cell) (a3 := some (.loc M.length)) (a4 := some (.d (.lst (ns.map .str)))) (a5 := some (.d (.lst (l.map stD)))) (a7 := a7) (a8 := a8) (a9 := a9) p3 l3 g3
  have t5 := lw5 (n := n) (k := k) (cell := cell) (a3 := some (.loc M.length)) (a4 := some (.d (.lst (ns.map .str)))) (a7 := a7) (a8 := a8) (a9 := a9) p3 hl hm4
  have t6 := lw6 (n := n) (k := k) (cell := cell) (ns := ns) (a9 := a9) p3 hl hm4
  obtain ⟨M7, p7, t7⟩ := lw7 (n := n) (k := k) (cell := cell) (a9 := a9) p3 hl hm4 hns
  have t8 := lw8 (n := n) (k := k) (cell := cell) (ns := ns) (l := l) (m := m4) (a9 := a9) p7
  have t9 := lw9 (n := n) (k := k) (cell := cell) (ns := ns) (l := l) (m := m4) (a9 := a9) p7 hl
  obtain ⟨M10, p10, t10⟩ := lw10 (n := n) (p := M.length) (k := k) (cell := cell) (l := l) (m := m4) (a9 := a9) p7.2.2.2 hns
  obtain ⟨x, y, z, u, rfl, hx, hy, hz, hu⟩ := hns
  have t11 := lw11 (n := n) (p := M.length) (k := k) (cell := cell) (l := l) (m := m4) (M := M10) (a9 := a9) (x := x) (y := y) (z := z) (u := u)
  obtain ⟨M12, p12, t12⟩ := lw12 (n := n) (p := M.length) (k := k) (cell := cell) (l := l) (m := m4) (x := x) (u := u) p10 hy hz
  refine ⟨some (.loc M.length), some (.d (.lst ([x, y, z, u].map .str))), some (.d (.lst (l.map stD))), some (.d (.lst (m4.map stD))), some (.d (rowD (l.map stD))), some (.d (rowD (m4.map stD))), some (.d (.lst (dueL y z))), M12, p12, ?_⟩
  show runSs prg.T prg.rp prg.XT (callN prg (n + 12)) (sW 0) _ _ = _
  rw [runSs_hd, t0, tR_next]
  show runSs prg.T prg.rp prg.XT (callN prg (n + 12)) (sW 1) _ _ = _
  rw [runSs_hd, t1, tR_next]
  show runSs prg.T prg.rp prg.XT (callN prg (n + 12)) (sW 2) _ _ = _
  rw [runSs_hd, t2, tR_next]
  show runSs prg.T prg.rp prg.XT (callN prg (n + 12)) (sW 3) _ _ = _
  rw [runSs_hd, t3, tR_next]
  show runSs prg.T prg.rp prg.XT (callN prg (n + 12)) (sW 4) _ _ = _
  rw [runSs_hd, t4, tR_next]
  show runSs prg.T prg.rp prg.XT (callN prg (n + 12)) (sW 5) _ _ = _
  rw [runSs_hd, t5, tR_next]
  show runSs prg.T prg.rp prg.XT (callN prg (n + 12)) (sW 6) (lmE k cell M.length [x, y, z, u] l m4 a9) _ = _
  rw [runSs_hd, t6, tR_next]
  show runSs prg.T prg.rp prg.XT (callN prg (n + 12)) (sW 7) _ _ = _
  rw [runSs_hd, t7, tR_next]
  show runSs prg.T prg.rp prg.XT (callN prg (n + 12)) (sW 8) _ _ = _
  rw [runSs_hd, t8, tR_next]
  show runSs prg.T prg.rp prg.XT (callN prg (n + 12)) (sW 9) _ _ = _
  rw [runSs_hd, t9, tR_next]
  show runSs prg.T prg.rp prg.XT (callN prg (n + 12)) (sW 10) _ _ = _
  rw [runSs_hd, t10, tR_next]
  show runSs prg.T prg.rp prg.XT (callN prg (n + 12)) (sW 11) _ _ = _
  rw [runSs_hd, t11, tR_next]
  show runSs prg.T prg.rp prg.XT (callN prg (n + 12)) (sW 12) _ _ = _
  rw [runSs_hd, t12, tR_next]
  rfl
theorem run_ok : ∀ ns : List Int, ns.length ≤ 63 → ∃ Me, callN prg 60 (.fn 30) [.loc 0] [.scr (ns.map D.int)] = some (.ok (.d (.bl true)), Me) := by
  intro ns hn
  rw [call_fn (F := ⟨1, 9, c_law, 0, false⟩) rfl rfl rfl]
  have hc := cells_run (cl := callN prg 59) (ns := ns) (e := ⟨[some (.loc 0), none, none, none, none, none, none, none, none, none], none⟩) (k := 4) rfl (by omega) (by omega)
  obtain ⟨f, M', hr, hM, b, rfl⟩ := for_inv (T := prg.T) (rp := prg.rp) (XT := prg.XT) (cl := callN prg 59) (g := .tup (.cons (.name 1) (.cons (.name 2) .nil))) (b := l_law_1)
    (Q := fun f M' => noIns M' ∧ ∃ e, f = .next e)
    (fun xs e M' => noIns M' ∧ ∃ (k : Nat) (cs : List Int) (a1 a2 a3 a4 a5 a6 a7 a8 a9 : Option Vl), k + cs.length ≤ 100 ∧ xs = zipEnum k (cs.map .int) ∧ e = ⟨[some (.loc 0), a1, a2, a3, a4, a5, a6, a7, a8, a9], none⟩)
    (by
      rintro x xs e M ⟨hM, k, cs, a1, a2, a3, a4, a5, a6, a7, a8, a9, hk, hxs, rfl⟩
      cases cs with
      | nil => cases hxs
      | cons cell cs =>
        simp only [List.map_cons, zipEnum] at hxs
        injection hxs with h1 h2
        subst h1
        simp at hk
        obtain ⟨b3, b4, b5, b6, b7, b8, b9, M', hM', hr⟩ := cell_ok (n := 47) (k := k) (cell := cell) (a3 := a3) (a4 := a4) (a5 := a5) (a6 := a6) (a7 := a7) (a8 := a8) (a9 := a9) hM (by omega) (by omega)
        exact ⟨_, rfl, _, _, hr, hM', k + 1, cs, _, _, _, _, _, _, _, _, _, by omega, h2, rfl⟩)
    (by
      rintro e M ⟨hM, k, cs, a1, a2, a3, a4, a5, a6, a7, a8, a9, hk, hxs, rfl⟩
      exact ⟨hM, _, rfl⟩)
    (zipEnum 0 ((cellsOf 4 ns).map .int)) ⟨[some (.loc 0), none, none, none, none, none, none, none, none, none], none⟩ [.scr (ns.map .int)]
    ⟨noIns_scr, 0, _, none, none, none, none, none, none, none, none, none, by
      unfold cellsOf
      split <;> simp <;> omega, rfl, rfl⟩
  refine ⟨M'.take 1, ?_⟩
  have t1 : runS prg.T prg.rp prg.XT (callN prg 59) (hdS c_law) ⟨[some (.loc 0), none, none, none, none, none, none, none, none, none], none⟩ [.scr (ns.map .int)] = some (.next b, M') := by
    simp only [c_law, hdS, runS_fors]
    exact (congrArg (fun r => sR _ r _) hc).trans hr
  show endF 1 0 (runSs prg.T prg.rp prg.XT (callN prg 59) c_law ⟨[some (.loc 0), none, none, none, none, none, none, none, none, none], none⟩ [.scr (ns.map .int)]) = _
  rw [runSs_hd, t1, tR_next]
  simp [c_law, tlS]
  exact hM.ret
end LW
set_option Elab.async false
set_option linter.all false
set_option maxRecDepth 100000
set_option maxHeartbeats 8000000
set_option pp.maxSteps 60
set_option pp.deepTerms false
open PySem PySem.W PyProof.Rows
theorem PySem.Challenge.cw_takendown_k10_whole_rows_holds : PySem.Challenge.rw_takendown_k10_whole_rows.Holds := by
  w_on; o_law; k_head; (case hw => w_witness2)
  k_fill
  refine TD.law_end (l := PySem.Challenge.rw_takendown_k10_whole_rows) (m := 63) (n := 60) (f := 30) (Pg := LW.prg) rfl (by decide) rfl ⟨rfl, by decide, by decide⟩ (fun w h Y => PySem.W.kIn_of Y) ?nol ?fns LW.run_ok
  case nol =>
    intro w
    first | rfl | k_is | decide +kernel
  case fns =>
    intro w mg fa h KX G hmg
    refine' LW.all_mk KX G hmg ?aC4 ?tc4 ?rr4 ?ga4 ?a0 ?l0 ?c0 ?k0 ?a1 ?l1 ?c1 ?k1 ?a2 ?l2 ?c2 ?k2 ?a3 ?l3 ?c3 ?k3 ?a4 ?l4 ?c4 ?k4 ?a5 ?l5 ?c5 ?k5 ?a6 ?l6 ?c6 ?k6 ?a7 ?l7 ?c7 ?k7 ?a9 ?i9 ?l9 ?c9 ?k9 ?fc10 ?rs10 ?l10 ?c10 ?k10 ?fc11 ?rs11 ?l11 ?c11 ?k11 ?a12 ?i12 ?l12 ?c12 ?k12 ?a13 ?i13 ?l13 ?c13 ?k13 ?a14 ?i14 ?l14 ?c14 ?k14 ?a15 ?i15 ?l15 ?c15 ?k15 ?a16 ?i16 ?gi16 ?l16 ?c16 ?k16 ?a18 ?i18 ?l18 ?c18 ?k18 ?a19 ?i19 ?l19 ?c19 ?k19 ?a20 ?i20 ?l20 ?c20 ?k20 ?a21 ?i21 ?l21 ?c21 ?k21 ?a22 ?i22 ?l22 ?c22 ?k22 ?a23 ?i23 ?l23 ?c23 ?k23 ?a24 ?i24 ?l24 ?c24 ?k24 ?a25 ?l25 ?c25 ?k25 ?a26 ?l26 ?c26 ?k26 ?a27 ?l27 ?c27 ?k27 ?a28 ?l28 ?c28 ?k28 ?a29 ?l29 ?c29 ?k29 ?a32 ?l32 ?c32 ?k32 ?a33 ?l33 ?c33 ?k33 ?a34 ?l34 ?c34 ?k34 ?a31 ?l31 ?c31 ?k31 ?a35 ?l35 ?c35 ?k35 ?a36 ?l36 ?c36 ?k36 ?a37 ?l37 ?c37 ?k37 ?a38 ?l38 ?c38 ?k38 ?a39 ?l39 ?c39 ?k39 ?a30 ?l30 ?c30 ?k30 ?pg4 ?hd4 ?po4 ?sa4 ?mk4 ?kc4 ?cc4 ?mr4 ?sf4 ?nf4_0 ?su4_NoneType ?kd4_NoneType ?su4_bool ?kd4_bool ?kt4_bool ?su4_int ?kd4_int ?kt4_int ?su4_str ?kd4_str ?kt4_str ?su4_tuple ?kd4_tuple ?kt4_tuple ?su4_list ?kd4_list ?kt4_list ?su4_dict ?kd4_dict ?kt4_dict ?kk4 ?oget ?otk ?fa_NoneType ?fr_NoneType ?fa_bool ?fr_bool ?fa_int ?fr_int ?fa_str ?fr_str ?fa_tuple ?fr_tuple ?fa_list ?fr_list ?fa_dict ?fr_dict ?fno ?kb_NoneType_bool ?kb_NoneType_int ?kb_NoneType_str ?kb_NoneType_tuple ?kb_NoneType_list ?kb_NoneType_dict ?kb_bool_bool ?kb_bool_int ?kb_bool_str ?kb_bool_tuple ?kb_bool_list ?kb_bool_dict ?kb_int_bool ?kb_int_int ?kb_int_str ?kb_int_tuple ?kb_int_list ?kb_int_dict ?kb_str_bool ?kb_str_int ?kb_str_str ?kb_str_tuple ?kb_str_list ?kb_str_dict ?kb_tuple_bool ?kb_tuple_int ?kb_tuple_str ?kb_tuple_tuple ?kb_tuple_list ?kb_tuple_dict ?kb_list_bool ?kb_list_int ?kb_list_str ?kb_list_tuple ?kb_list_list ?kb_list_dict ?kb_dict_bool ?kb_dict_int ?kb_dict_str ?kb_dict_tuple ?kb_dict_list ?kb_dict_dict ?z_all ?z_bool ?z_enumerate ?z_int ?z_isinstance ?z_len ?z_list ?z_max ?z_range ?z_repr ?z_set ?z_sorted ?z_str ?z_super ?z_tuple ?q_BAR ?q_CHOOSE ?q_GIVE ?q_HALT ?q_LETTERS ?q_MOST_SIGNS ?q_MOST_STEPS ?q_PIECE ?q_STEPS ?ql_STEPS ?q_TAKE ?q_TEST ?q_KINDS ?ql_KINDS ?qs_KINDS ?qh_KINDS_0 ?qv_KINDS_0 ?qh_KINDS_1 ?qv_KINDS_1 ?qh_KINDS_2 ?qv_KINDS_2 ?qh_KINDS_3 ?qv_KINDS_3 ?aC2 ?xi2 ?xo2 ?xsa2 ?xii2 ?xti2 ?xkp2 ?xex2 ?xty2 ?xhd2 ?xnf2_0 ?xB2 ?xsp2 ?xsu2 ?xl2 ?xc2 ?xcl2_ ?xv2 ?xf2 ?xce2 ?xga2 ?xgg2 ?xhi2 ?aC1 ?xi1 ?xo1 ?xsa1 ?xii1 ?xti1 ?xkp1 ?xex1 ?xty1 ?xhd1 ?xnf1_0 ?xB1 ?xsp1 ?xsu1 ?xl1 ?xc1 ?xcl1_ ?xv1 ?xf1 ?xce1 ?xga1 ?xgg1 ?xhi1 ?aC3 ?xi3 ?xo3 ?xsa3 ?xii3 ?xti3 ?xkp3 ?xex3 ?xty3 ?xhd3 ?xnf3_0 ?xB3 ?xsp3 ?xsu3 ?xl3 ?xc3 ?xcl3_ ?xv3 ?xf3 ?xce3 ?xga3 ?xgg3 ?xhi3 ?opq ?xm2_2 ?xm1_2 ?xm3_2 ?xm2_1 ?xm1_1 ?xm3_1 ?xm2_3 ?xm1_3 ?xm3_3
    (case aC4 => k_is)
    (case tc4 => k_is)
    (case rr4 => k_is)
    (case ga4 => k_is)
    (case a0 => k_is)
    (case l0 => k_is)
    (case c0 => k_is)
    (case k0 => k_is)
    (case a1 => k_is)
    (case l1 => k_is)
    (case c1 => k_is)
    (case k1 => k_is)
    (case a2 => k_is)
    (case l2 => k_is)
    (case c2 => k_is)
    (case k2 => k_is)
    (case a3 => k_is)
    (case l3 => k_is)
    (case c3 => k_is)
    (case k3 => k_is)
    (case a4 => k_is)
    (case l4 => k_is)
    (case c4 => k_is)
    (case k4 => k_is)
    (case a5 => k_is)
    (case l5 => k_is)
    (case c5 => k_is)
    (case k5 => k_is)
    (case a6 => k_is)
    (case l6 => k_is)
    (case c6 => k_is)
    (case k6 => k_is)
    (case a7 => k_is)
    (case l7 => k_is)
    (case c7 => k_is)
    (case k7 => k_is)
    (case a9 => k_is)
    (case i9 => k_is)
    (case l9 => k_is)
    (case c9 => k_is)
    (case k9 => k_is)
    (case fc10 => k_is)
    (case rs10 => k_is)
    (case l10 => k_is)
    (case c10 => k_is)
    (case k10 => k_is)
    (case fc11 => k_is)
    (case rs11 => k_is)
    (case l11 => k_is)
    (case c11 => k_is)
    (case k11 => k_is)
    (case a12 => k_is)
    (case i12 => k_is)
    (case l12 => k_is)
    (case c12 => k_is)
    (case k12 => k_is)
    (case a13 => k_is)
    (case i13 => k_is)
    (case l13 => k_is)
    (case c13 => k_is)
    (case k13 => k_is)
    (case a14 => k_is)
    (case i14 => k_is)
    (case l14 => k_is)
    (case c14 => k_is)
    (case k14 => k_is)
    (case a15 => k_is)
    (case i15 => k_is)
    (case l15 => k_is)
    (case c15 => k_is)
    (case k15 => k_is)
    (case a16 => k_is)
    (case i16 => k_is)
    (case gi16 => k_is)
    (case l16 => k_is)
    (case c16 => k_is)
    (case k16 => k_is)
    (case a18 => k_is)
    (case i18 => k_is)
    (case l18 => k_is)
    (case c18 => k_is)
    (case k18 => k_is)
    (case a19 => k_is)
    (case i19 => k_is)
    (case l19 => k_is)
    (case c19 => k_is)
    (case k19 => k_is)
    (case a20 => k_is)
    (case i20 => k_is)
    (case l20 => k_is)
    (case c20 => k_is)
    (case k20 => k_is)
    (case a21 => k_is)
    (case i21 => k_is)
    (case l21 => k_is)
    (case c21 => k_is)
    (case k21 => k_is)
    (case a22 => k_is)
    (case i22 => k_is)
    (case l22 => k_is)
    (case c22 => k_is)
    (case k22 => k_is)
    (case a23 => k_is)
    (case i23 => k_is)
    (case l23 => k_is)
    (case c23 => k_is)
    (case k23 => k_is)
    (case a24 => k_is)
    (case i24 => k_is)
    (case l24 => k_is)
    (case c24 => k_is)
    (case k24 => k_is)
    (case a25 => k_is)
    (case l25 => k_is)
    (case c25 => k_is)
    (case k25 => k_is)
    (case a26 => k_is)
    (case l26 => k_is)
    (case c26 => k_is)
    (case k26 => k_is)
    (case a27 => k_is)
    (case l27 => k_is)
    (case c27 => k_is)
    (case k27 => k_is)
    (case a28 => k_is)
    (case l28 => k_is)
    (case c28 => k_is)
    (case k28 => k_is)
    (case a29 => k_is)
    (case l29 => k_is)
    (case c29 => k_is)
    (case k29 => k_is)
    (case a32 => k_is)
    (case l32 => k_is)
    (case c32 => k_is)
    (case k32 => k_is)
    (case a33 => k_is)
    (case l33 => k_is)
    (case c33 => k_is)
    (case k33 => k_is)
    (case a34 => k_is)
    (case l34 => k_is)
    (case c34 => k_is)
    (case k34 => k_is)
    (case a31 => k_is)
    (case l31 => k_is)
    (case c31 => k_is)
    (case k31 => k_is)
    (case a35 => k_is)
    (case l35 => k_is)
    (case c35 => k_is)
    (case k35 => k_is)
    (case a36 => k_is)
    (case l36 => k_is)
    (case c36 => k_is)
    (case k36 => k_is)
    (case a37 => k_is)
    (case l37 => k_is)
    (case c37 => k_is)
    (case k37 => k_is)
    (case a38 => k_is)
    (case l38 => k_is)
    (case c38 => k_is)
    (case k38 => k_is)
    (case a39 => k_is)
    (case l39 => k_is)
    (case c39 => k_is)
    (case k39 => k_is)
    (case a30 => k_is)
    (case l30 => k_is)
    (case c30 => k_is)
    (case k30 => k_is)
    (case pg4 => k_is)
    (case hd4 => k_is)
    (case po4 => k_is)
    (case sa4 => k_is)
    (case mk4 => k_is)
    (case kc4 => k_is)
    (case cc4 => k_is)
    (case mr4 => k_is)
    (case sf4 => k_is)
    (case nf4_0 => k_is)
    (case su4_NoneType => k_is)
    (case kd4_NoneType => kit_is)
    (case su4_bool => k_is)
    (case kd4_bool => kit_is)
    (case kt4_bool => kit_is)
    (case su4_int => k_is)
    (case kd4_int => kit_is)
    (case kt4_int => kit_is)
    (case su4_str => k_is)
    (case kd4_str => kit_is)
    (case kt4_str => kit_is)
    (case su4_tuple => k_is)
    (case kd4_tuple => kit_is)
    (case kt4_tuple => kit_is)
    (case su4_list => k_is)
    (case kd4_list => kit_is)
    (case kt4_list => kit_is)
    (case su4_dict => k_is)
    (case kd4_dict => kit_is)
    (case kt4_dict => kit_is)
    (case kk4 => kit_is)
    (case oget => k_is)
    (case otk => k_is)
    (case fa_NoneType => k_is)
    (case fr_NoneType => k_is)
    (case fa_bool => k_is)
    (case fr_bool => k_is)
    (case fa_int => k_is)
    (case fr_int => k_is)
    (case fa_str => k_is)
    (case fr_str => k_is)
    (case fa_tuple => k_is)
    (case fr_tuple => k_is)
    (case fa_list => k_is)
    (case fr_list => k_is)
    (case fa_dict => k_is)
    (case fr_dict => k_is)
    (case fno => first | rfl | decide +kernel)
    (case kb_NoneType_bool => first | kit_is | exact L2.kit_ty (by decide +kernel))
    (case kb_NoneType_int => first | kit_is | exact L2.kit_ty (by decide +kernel))
    (case kb_NoneType_str => first | kit_is | exact L2.kit_ty (by decide +kernel))
    (case kb_NoneType_tuple => first | kit_is | exact L2.kit_ty (by decide +kernel))
    (case kb_NoneType_list => first | kit_is | exact L2.kit_ty (by decide +kernel))
    (case kb_NoneType_dict => first | kit_is | exact L2.kit_ty (by decide +kernel))
    (case kb_bool_bool => first | kit_is | exact L2.kit_ty (by decide +kernel))
    (case kb_bool_int => first | kit_is | exact L2.kit_ty (by decide +kernel))
    (case kb_bool_str => first | kit_is | exact L2.kit_ty (by decide +kernel))
    (case kb_bool_tuple => first | kit_is | exact L2.kit_ty (by decide +kernel))
    (case kb_bool_list => first | kit_is | exact L2.kit_ty (by decide +kernel))
    (case kb_bool_dict => first | kit_is | exact L2.kit_ty (by decide +kernel))
    (case kb_int_bool => first | kit_is | exact L2.kit_ty (by decide +kernel))
    (case kb_int_int => first | kit_is | exact L2.kit_ty (by decide +kernel))
    (case kb_int_str => first | kit_is | exact L2.kit_ty (by decide +kernel))
    (case kb_int_tuple => first | kit_is | exact L2.kit_ty (by decide +kernel))
    (case kb_int_list => first | kit_is | exact L2.kit_ty (by decide +kernel))
    (case kb_int_dict => first | kit_is | exact L2.kit_ty (by decide +kernel))
    (case kb_str_bool => first | kit_is | exact L2.kit_ty (by decide +kernel))
    (case kb_str_int => first | kit_is | exact L2.kit_ty (by decide +kernel))
    (case kb_str_str => first | kit_is | exact L2.kit_ty (by decide +kernel))
    (case kb_str_tuple => first | kit_is | exact L2.kit_ty (by decide +kernel))
    (case kb_str_list => first | kit_is | exact L2.kit_ty (by decide +kernel))
    (case kb_str_dict => first | kit_is | exact L2.kit_ty (by decide +kernel))
    (case kb_tuple_bool => first | kit_is | exact L2.kit_ty (by decide +kernel))
    (case kb_tuple_int => first | kit_is | exact L2.kit_ty (by decide +kernel))
    (case kb_tuple_str => first | kit_is | exact L2.kit_ty (by decide +kernel))
    (case kb_tuple_tuple => first | kit_is | exact L2.kit_ty (by decide +kernel))
    (case kb_tuple_list => first | kit_is | exact L2.kit_ty (by decide +kernel))
    (case kb_tuple_dict => first | kit_is | exact L2.kit_ty (by decide +kernel))
    (case kb_list_bool => first | kit_is | exact L2.kit_ty (by decide +kernel))
    (case kb_list_int => first | kit_is | exact L2.kit_ty (by decide +kernel))
    (case kb_list_str => first | kit_is | exact L2.kit_ty (by decide +kernel))
    (case kb_list_tuple => first | kit_is | exact L2.kit_ty (by decide +kernel))
    (case kb_list_list => first | kit_is | exact L2.kit_ty (by decide +kernel))
    (case kb_list_dict => first | kit_is | exact L2.kit_ty (by decide +kernel))
    (case kb_dict_bool => first | kit_is | exact L2.kit_ty (by decide +kernel))
    (case kb_dict_int => first | kit_is | exact L2.kit_ty (by decide +kernel))
    (case kb_dict_str => first | kit_is | exact L2.kit_ty (by decide +kernel))
    (case kb_dict_tuple => first | kit_is | exact L2.kit_ty (by decide +kernel))
    (case kb_dict_list => first | kit_is | exact L2.kit_ty (by decide +kernel))
    (case kb_dict_dict => first | kit_is | exact L2.kit_ty (by decide +kernel))
    (case z_all => k_is)
    (case z_bool => k_is)
    (case z_enumerate => k_is)
    (case z_int => k_is)
    (case z_isinstance => k_is)
    (case z_len => k_is)
    (case z_list => k_is)
    (case z_max => k_is)
    (case z_range => k_is)
    (case z_repr => k_is)
    (case z_set => k_is)
    (case z_sorted => k_is)
    (case z_str => k_is)
    (case z_super => k_is)
    (case z_tuple => k_is)
    (case q_BAR => k_is)
    (case q_CHOOSE => k_is)
    (case q_GIVE => k_is)
    (case q_HALT => k_is)
    (case q_LETTERS => k_is)
    (case q_MOST_SIGNS => k_is)
    (case q_MOST_STEPS => k_is)
    (case q_PIECE => k_is)
    (case q_STEPS => k_is)
    (case ql_STEPS => k_is)
    (case q_TAKE => k_is)
    (case q_TEST => k_is)
    (case q_KINDS => k_is)
    (case ql_KINDS => k_is)
    (case qs_KINDS => first | rfl | decide)
    (case qh_KINDS_0 => rfl)
    (case qv_KINDS_0 => k_is)
    (case qh_KINDS_1 => rfl)
    (case qv_KINDS_1 => k_is)
    (case qh_KINDS_2 => rfl)
    (case qv_KINDS_2 => k_is)
    (case qh_KINDS_3 => rfl)
    (case qv_KINDS_3 => k_is)
    (case aC2 => k_is)
    (case xi2 => first | kx_is | rfl | decide +kernel)
    (case xo2 => first | kx_is | rfl | decide +kernel)
    (case xsa2 => k_is)
    (case xii2 => k_is)
    (case xti2 => k_is)
    (case xkp2 => k_is)
    (case xex2 => k_is)
    (case xty2 => k_is)
    (case xhd2 => k_is)
    (case xnf2_0 => k_is)
    (case xB2 => k_is)
    (case xsp2 => first | k_is | ks_is)
    (case xsu2 => k_is)
    (case xl2 => k_is)
    (case xc2 => k_is)
    (case xcl2_ => k_is)
    (case xv2 => rfl)
    (case xf2 => first | rfl | decide +kernel)
    (case xce2 => k_is)
    (case xga2 => k_is)
    (case xgg2 => k_is)
    (case xhi2 => k_is)
    (case aC1 => k_is)
    (case xi1 => first | kx_is | rfl | decide +kernel)
    (case xo1 => first | kx_is | rfl | decide +kernel)
    (case xsa1 => k_is)
    (case xii1 => k_is)
    (case xti1 => k_is)
    (case xkp1 => k_is)
    (case xex1 => k_is)
    (case xty1 => k_is)
    (case xhd1 => k_is)
    (case xnf1_0 => k_is)
    (case xB1 => k_is)
    (case xsp1 => first | k_is | ks_is)
    (case xsu1 => k_is)
    (case xl1 => k_is)
    (case xc1 => k_is)
    (case xcl1_ => k_is)
    (case xv1 => rfl)
    (case xf1 => first | rfl | decide +kernel)
    (case xce1 => k_is)
    (case xga1 => k_is)
    (case xgg1 => k_is)
    (case xhi1 => k_is)
    (case aC3 => k_is)
    (case xi3 => first | kx_is | rfl | decide +kernel)
    (case xo3 => first | kx_is | rfl | decide +kernel)
    (case xsa3 => k_is)
    (case xii3 => k_is)
    (case xti3 => k_is)
    (case xkp3 => k_is)
    (case xex3 => k_is)
    (case xty3 => k_is)
    (case xhd3 => k_is)
    (case xnf3_0 => k_is)
    (case xB3 => k_is)
    (case xsp3 => first | k_is | ks_is)
    (case xsu3 => k_is)
    (case xl3 => k_is)
    (case xc3 => k_is)
    (case xcl3_ => k_is)
    (case xv3 => rfl)
    (case xf3 => first | rfl | decide +kernel)
    (case xce3 => k_is)
    (case xga3 => k_is)
    (case xgg3 => k_is)
    (case xhi3 => k_is)
    (case opq => k_is)
    (case xm2_2 => first | rfl | k_is | decide +kernel)
    (case xm1_2 => first | rfl | k_is | decide +kernel)
    (case xm3_2 => first | rfl | k_is | decide +kernel)
    (case xm2_1 => first | rfl | k_is | decide +kernel)
    (case xm1_1 => first | rfl | k_is | decide +kernel)
    (case xm3_1 => first | rfl | k_is | decide +kernel)
    (case xm2_3 => first | rfl | k_is | decide +kernel)
    (case xm1_3 => first | rfl | k_is | decide +kernel)
    (case xm3_3 => first | rfl | k_is | decide +kernel)
